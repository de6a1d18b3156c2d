import PyProof.Rows.All
import PySem.Challenge.RW_sharebags_k03_whole_pourings
import HandS.ForMost
import HandS.IsInst
import HandS.Zip
import HandS.DictComp
import HandS.Strs
import HandS.TupAny
import HandS.Sort
import HandS.SortInts
import HandS.Conv
import HandS.Deep
import KE.SortData
import KE.GoesMore
import HandS.Walk
import HandS.TupSets
import KE.KeyNested
import HandS.SetFor
import HandS.Wide
set_option Elab.async false
set_option linter.all false
set_option maxRecDepth 100000
set_option maxHeartbeats 4000000
/-! SbMath -/
namespace SB

abbrev Bag := List Nat

/-- two bags share one bead at most -/
def ShareOne (A B : Bag) : Prop := ∀ x y, x ∈ A → x ∈ B → y ∈ A → y ∈ B → x = y
theorem ShareOne.symm {A B : Bag} (h : ShareOne A B) : ShareOne B A := fun x y a b c d => h x y b a d c

/-- what holds at one bead and goes on within each bag holds at all -/
def Conn (n : Nat) (F : List Bag) : Prop := ∀ P : Nat → Prop, (∃ b, b < n ∧ P b) → (∀ B ∈ F, ∀ x ∈ B, ∀ y ∈ B, P x → P y) → ∀ b, b < n → P b

structure Tree (n : Nat) (F : List Bag) : Prop where
  big : ∀ B ∈ F, 2 ≤ B.length
  nd : ∀ B ∈ F, B.Nodup
  lt : ∀ B ∈ F, ∀ x ∈ B, x < n
  all : ∀ b, b < n → ∃ B ∈ F, b ∈ B
  one : F.Pairwise ShareOne
  sum : (F.map (fun B => B.length - 1)).sum + 1 = n
  con : Conn n F

theorem sum_append_nat (l r : List Nat) : (l ++ r).sum = l.sum + r.sum := by
  induction l with
  | nil => simp
  | cons x l ih => simp [ih]; omega

theorem tree_start : Tree 2 [[0, 1]] where
  big := by simp
  nd := by simp
  lt := by simp
  all := by
    intro b hb
    refine ⟨[0, 1], by simp, ?_⟩
    have : b = 0 ∨ b = 1 := by omega
    simpa using this
  one := by simp
  sum := by simp
  con := by
    intro P ⟨b, hb, hP⟩ hc c hcl
    have h2 : ∀ z, z < 2 → z ∈ [0, 1] := by
      intro z hz
      have : z = 0 ∨ z = 1 := by omega
      simpa using this
    exact hc [0, 1] (by simp) b (h2 b hb) c (h2 c hcl) hP

/-- a new bag of an old bead and the new one -/
theorem Tree.new {n k : Nat} {F : List Bag} (T : Tree n F) (hk : k < n) : Tree (n + 1) (F ++ [[k, n]]) where
  big := by
    intro B hB
    rcases List.mem_append.mp hB with h | h
    · exact T.big B h
    · rw [List.mem_singleton.mp h]; simp
  nd := by
    intro B hB
    rcases List.mem_append.mp hB with h | h
    · exact T.nd B h
    · rw [List.mem_singleton.mp h]
      have : k ≠ n := by omega
      simp [this]
  lt := by
    intro B hB x hx
    rcases List.mem_append.mp hB with h | h
    · have := T.lt B h x hx; omega
    · rw [List.mem_singleton.mp h] at hx
      simp at hx
      omega
  all := by
    intro b hb
    by_cases h : b < n
    · obtain ⟨B, h1, h2⟩ := T.all b h
      exact ⟨B, List.mem_append_left _ h1, h2⟩
    · have : b = n := by omega
      exact ⟨[k, n], by simp, by simp [this]⟩
  one := by
    rw [List.pairwise_append]
    refine ⟨T.one, by simp, ?_⟩
    intro A hA B hB x y hx hx2 hy hy2
    rw [List.mem_singleton.mp hB] at hx2 hy2
    have a1 := T.lt A hA x hx
    have a2 := T.lt A hA y hy
    simp at hx2 hy2
    omega
  sum := by
    rw [List.map_append, sum_append_nat]
    have := T.sum
    simp
    omega
  con := by
    intro P ⟨b, hb, hP⟩ hc
    have hold : ∀ z, z < n → P z → ∀ c, c < n → P c := fun z hz hz2 c hcn =>
      T.con P ⟨z, hz, hz2⟩ (fun B hB => hc B (List.mem_append_left _ hB)) c hcn
    have hnew := hc [k, n] (by simp)
    have hPk : P k := by
      by_cases h : b < n
      · exact hold b h hP k hk
      · have : b = n := by omega
        subst this
        exact hnew b (by simp) k (by simp) hP
    intro c hcl
    by_cases h : c < n
    · exact hold k hk hPk c h
    · have : c = n := by omega
      subst this
      exact hnew k (by simp) c (by simp) hPk

theorem pairwise_set {α : Type} {R : α → α → Prop} (hs : ∀ x y, R x y → R y x) : ∀ {l : List α} {i : Nat} {z : α}, l.Pairwise R → (∀ j y, j ≠ i → l[j]? = some y → R z y) → (l.set i z).Pairwise R
  | [], _, _, _, _ => by simp
  | x :: l, 0, z, h, g => by
    rw [List.set_cons_zero]
    rw [List.pairwise_cons] at h ⊢
    refine ⟨fun y hy => ?_, h.2⟩
    obtain ⟨j, hj⟩ := List.getElem?_of_mem hy
    exact g (j + 1) y (by omega) (by simpa using hj)
  | x :: l, i + 1, z, h, g => by
    rw [List.set_cons_succ]
    rw [List.pairwise_cons] at h ⊢
    refine ⟨fun y hy => ?_, pairwise_set hs h.2 fun j y hj hy => g (j + 1) y (by omega) (by simpa using hy)⟩
    rcases List.mem_or_eq_of_mem_set hy with h1 | h1
    · exact h.1 y h1
    · subst h1
      exact hs _ _ (g 0 x (by omega) (by simp))

theorem sum_set_succ : ∀ (l : List Nat) (i : Nat) (v : Nat), l[i]? = some v → (l.set i (v + 1)).sum = l.sum + 1
  | [], _, _, h => by simp at h
  | x :: l, 0, v, h => by
    simp at h
    subst h
    simp
    omega
  | x :: l, i + 1, v, h => by
    have := sum_set_succ l i v (by simpa using h)
    simp [this]
    omega

theorem pairwise_at {α : Type} {R : α → α → Prop} (hs : ∀ x y, R x y → R y x) {l : List α} (h : l.Pairwise R) {i j : Nat} {x y : α} (hij : i ≠ j) (hi : l[i]? = some x) (hj : l[j]? = some y) : R x y := by
  obtain ⟨a, ha⟩ := List.getElem?_eq_some_iff.mp hi
  obtain ⟨b, hb⟩ := List.getElem?_eq_some_iff.mp hj
  rw [List.pairwise_iff_getElem] at h
  rcases Nat.lt_or_gt_of_ne hij with q | q
  · have := h i j a b q
    rw [ha, hb] at this
    exact this
  · have := h j i b a q
    rw [ha, hb] at this
    exact hs _ _ this

/-- the new bead in an old bag -/
theorem Tree.grow {n i : Nat} {A : Bag} {F : List Bag} (T : Tree n F) (hi : F[i]? = some A) : Tree (n + 1) (F.set i (A ++ [n])) := by
  have hA : A ∈ F := List.mem_of_getElem? hi
  have hilt : i < F.length := (List.getElem?_eq_some_iff.mp hi).1
  have hmem : A ++ [n] ∈ F.set i (A ++ [n]) := List.mem_set hilt _
  -- each old bag lies in a new one
  have hup : ∀ B ∈ F, ∃ C ∈ F.set i (A ++ [n]), ∀ x ∈ B, x ∈ C := by
    intro B hB
    obtain ⟨j, hj⟩ := List.getElem?_of_mem hB
    by_cases e : i = j
    · subst e
      rw [hi] at hj
      cases hj
      exact ⟨A ++ [n], hmem, fun x hx => List.mem_append_left _ hx⟩
    · refine ⟨B, ?_, fun x hx => hx⟩
      refine List.mem_of_getElem? (i := j) ?_
      rw [List.getElem?_set_ne e]
      exact hj
  constructor
  · intro B hB
    rcases List.mem_or_eq_of_mem_set hB with h | h
    · exact T.big B h
    · rw [h, List.length_append]; have := T.big A hA; simp; omega
  · intro B hB
    rcases List.mem_or_eq_of_mem_set hB with h | h
    · exact T.nd B h
    · rw [h, List.nodup_append]
      refine ⟨T.nd A hA, by simp, ?_⟩
      intro a ha b hb e
      have := T.lt A hA a ha
      simp at hb
      omega
  · intro B hB x hx
    rcases List.mem_or_eq_of_mem_set hB with h | h
    · have := T.lt B h x hx; omega
    · rw [h] at hx
      rcases List.mem_append.mp hx with h | h
      · have := T.lt A hA x h; omega
      · simp at h; omega
  · intro b hb
    by_cases h : b < n
    · obtain ⟨B, h1, h2⟩ := T.all b h
      obtain ⟨C, h3, h4⟩ := hup B h1
      exact ⟨C, h3, h4 b h2⟩
    · have : b = n := by omega
      exact ⟨A ++ [n], hmem, by simp [this]⟩
  · refine pairwise_set (fun _ _ h => h.symm) T.one fun j B hj hB => ?_
    have hAB : ShareOne A B := pairwise_at (fun _ _ h => h.symm) T.one hj.symm hi hB
    have hBm : B ∈ F := List.mem_of_getElem? hB
    intro x y hx hx2 hy hy2
    have a1 := T.lt B hBm x hx2
    have a2 := T.lt B hBm y hy2
    have b1 : x ∈ A := by
      rcases List.mem_append.mp hx with h | h
      · exact h
      · simp at h; omega
    have b2 : y ∈ A := by
      rcases List.mem_append.mp hy with h | h
      · exact h
      · simp at h; omega
    exact hAB x y b1 hx2 b2 hy2
  · rw [List.map_set]
    have h2 := T.big A hA
    have e : (A ++ [n]).length - 1 = (A.length - 1) + 1 := by
      rw [List.length_append]; simp; omega
    rw [e, sum_set_succ]
    · have := T.sum
      omega
    · rw [List.getElem?_map, hi]
      rfl
  · intro P ⟨b, hb, hP⟩ hc
    have hold : ∀ z, z < n → P z → ∀ c, c < n → P c := fun z hz hz2 c hcn =>
      T.con P ⟨z, hz, hz2⟩ (fun B hB x hx y hy hPx => by
        obtain ⟨C, h3, h4⟩ := hup B hB
        exact hc C h3 x (h4 x hx) y (h4 y hy) hPx) c hcn
    have hlen := T.big A hA
    obtain ⟨k, hk⟩ : ∃ k, k ∈ A := by
      cases A with
      | nil => simp at hlen
      | cons a r => exact ⟨a, by simp⟩
    have hkn := T.lt A hA k hk
    have hnew := hc (A ++ [n]) hmem
    have hPk : P k := by
      by_cases h : b < n
      · exact hold b h hP k hkn
      · have : b = n := by omega
        subst this
        exact hnew b (by simp) k (List.mem_append_left _ hk) hP
    intro c hcl
    by_cases h : c < n
    · exact hold k hkn hPk c h
    · have : c = n := by omega
      subst this
      exact hnew k (List.mem_append_left _ hk) c (by simp) hPk

theorem Tree.perm {n : Nat} {F G : List Bag} (T : Tree n F) (h : F.Perm G) : Tree n G where
  big := fun B hB => T.big B (h.mem_iff.mpr hB)
  nd := fun B hB => T.nd B (h.mem_iff.mpr hB)
  lt := fun B hB => T.lt B (h.mem_iff.mpr hB)
  all := fun b hb => by
    obtain ⟨B, h1, h2⟩ := T.all b hb
    exact ⟨B, h.mem_iff.mp h1, h2⟩
  one := T.one.perm h fun h => h.symm
  sum := by
    rw [← T.sum, (h.map _).sum_nat]
  con := fun P hP hc => T.con P hP fun B hB => hc B (h.mem_iff.mp hB)

/-- each bag in another order -/
theorem Tree.each {n : Nat} {F : List Bag} (T : Tree n F) (s : Bag → Bag) (hs : ∀ B, (s B).Perm B) : Tree n (F.map s) where
  big := fun B hB => by
    obtain ⟨A, hA, rfl⟩ := List.mem_map.mp hB
    rw [(hs A).length_eq]; exact T.big A hA
  nd := fun B hB => by
    obtain ⟨A, hA, rfl⟩ := List.mem_map.mp hB
    exact (hs A).nodup_iff.mpr (T.nd A hA)
  lt := fun B hB x hx => by
    obtain ⟨A, hA, rfl⟩ := List.mem_map.mp hB
    exact T.lt A hA x ((hs A).mem_iff.mp hx)
  all := fun b hb => by
    obtain ⟨B, h1, h2⟩ := T.all b hb
    exact ⟨s B, List.mem_map.mpr ⟨B, h1, rfl⟩, (hs B).mem_iff.mpr h2⟩
  one := by
    rw [List.pairwise_map]
    exact T.one.imp fun {A B} h x y a b c d => h x y ((hs A).mem_iff.mp a) ((hs B).mem_iff.mp b) ((hs A).mem_iff.mp c) ((hs B).mem_iff.mp d)
  sum := by
    rw [← T.sum, List.map_map]
    congr 2
    refine List.map_congr_left fun A _ => ?_
    show (s A).length - 1 = A.length - 1
    rw [(hs A).length_eq]
  con := fun P hP hc => T.con P hP fun B hB x hx y hy => hc (s B) (List.mem_map.mpr ⟨B, hB, rfl⟩) x ((hs B).mem_iff.mpr hx) y ((hs B).mem_iff.mpr hy)

/-- beads named anew -/
theorem Tree.named {n : Nat} {F : List Bag} (T : Tree n F) (f : Nat → Nat) (hl : ∀ x, x < n → f x < n) (hi : ∀ x y, x < n → y < n → f x = f y → x = y) (hs : ∀ y, y < n → ∃ x, x < n ∧ f x = y) : Tree n (F.map (fun B => B.map f)) where
  big := fun B hB => by
    obtain ⟨A, hA, rfl⟩ := List.mem_map.mp hB
    rw [List.length_map]; exact T.big A hA
  nd := fun B hB => by
    obtain ⟨A, hA, rfl⟩ := List.mem_map.mp hB
    have h1 := T.nd A hA
    have h2 := T.lt A hA
    unfold List.Nodup at h1 ⊢
    rw [List.pairwise_map]
    exact h1.imp_of_mem fun {a b} ha hb hne e => hne (hi a b (h2 a ha) (h2 b hb) e)
  lt := fun B hB x hx => by
    obtain ⟨A, hA, rfl⟩ := List.mem_map.mp hB
    obtain ⟨y, hy, rfl⟩ := List.mem_map.mp hx
    exact hl y (T.lt A hA y hy)
  all := fun b hb => by
    obtain ⟨x, hx, rfl⟩ := hs b hb
    obtain ⟨B, h1, h2⟩ := T.all x hx
    exact ⟨B.map f, List.mem_map.mpr ⟨B, h1, rfl⟩, List.mem_map.mpr ⟨x, h2, rfl⟩⟩
  one := by
    rw [List.pairwise_map]
    refine T.one.imp_of_mem fun {A B} hA hB h x y a b c d => ?_
    obtain ⟨x1, p1, rfl⟩ := List.mem_map.mp a
    obtain ⟨x2, p2, e2⟩ := List.mem_map.mp b
    obtain ⟨y1, p3, rfl⟩ := List.mem_map.mp c
    obtain ⟨y2, p4, e4⟩ := List.mem_map.mp d
    have q2 := hi x2 x1 (T.lt B hB x2 p2) (T.lt A hA x1 p1) e2
    have q4 := hi y2 y1 (T.lt B hB y2 p4) (T.lt A hA y1 p3) e4
    subst q2
    subst q4
    rw [h x2 y2 p1 p2 p3 p4]
  sum := by
    rw [← T.sum, List.map_map]
    congr 2
    refine List.map_congr_left fun A _ => ?_
    show (A.map f).length - 1 = A.length - 1
    rw [List.length_map]
  con := fun P ⟨b, hb, hP⟩ hc c hcn => by
    obtain ⟨x, hx, rfl⟩ := hs b hb
    obtain ⟨z, hz, rfl⟩ := hs c hcn
    exact T.con (fun q => P (f q)) ⟨x, hx, hP⟩ (fun B hB u hu v hv => hc (B.map f) (List.mem_map.mpr ⟨B, hB, rfl⟩) (f u) (List.mem_map.mpr ⟨u, hu, rfl⟩) (f v) (List.mem_map.mpr ⟨v, hv, rfl⟩)) z hz

/-! sorting -/
def leN (a b : Nat) : Bool := decide (a ≤ b)
def leB (a b : Bag) : Bool := decide (a ≤ b)
def leF (a b : List Bag) : Bool := decide (a ≤ b)
def srtN (l : List Nat) : List Nat := l.mergeSort leN
def srtB (l : List Bag) : List Bag := l.mergeSort leB
def srtF (l : List (List Bag)) : List (List Bag) := l.mergeSort leF

theorem le_trans' {α : Type} [LT α] [LE α] [Std.IsLinearOrder α] [Std.LawfulOrderLT α] [DecidableLE α] : ∀ a b c : α, decide (a ≤ b) = true → decide (b ≤ c) = true → decide (a ≤ c) = true := by
  intro a b c h1 h2
  have h1 := of_decide_eq_true h1
  have h2 := of_decide_eq_true h2
  exact decide_eq_true (Std.le_trans h1 h2)
theorem le_total' {α : Type} [LT α] [LE α] [Std.IsLinearOrder α] [Std.LawfulOrderLT α] [DecidableLE α] : ∀ a b : α, (decide (a ≤ b) || decide (b ≤ a)) = true := by
  intro a b
  rcases Std.le_total (a := a) (b := b) with h | h
  · simp [h]
  · simp [h]

theorem srtN_perm (l : List Nat) : (srtN l).Perm l := List.mergeSort_perm _ _
theorem srtB_perm (l : List Bag) : (srtB l).Perm l := List.mergeSort_perm _ _
theorem srtF_perm (l : List (List Bag)) : (srtF l).Perm l := List.mergeSort_perm _ _
theorem srtN_le (l : List Nat) : (srtN l).Pairwise (· ≤ ·) := (List.pairwise_mergeSort (le := leN) le_trans' le_total' l).imp fun h => of_decide_eq_true h
theorem srtB_le (l : List Bag) : (srtB l).Pairwise (· ≤ ·) := (List.pairwise_mergeSort (le := leB) le_trans' le_total' l).imp fun h => of_decide_eq_true h
theorem srtF_le (l : List (List Bag)) : (srtF l).Pairwise (· ≤ ·) := (List.pairwise_mergeSort (le := leF) le_trans' le_total' l).imp fun h => of_decide_eq_true h

/-- two ascending orders of one thing are one -/
theorem asc_unique {α : Type} [LT α] [LE α] [Std.IsLinearOrder α] [Std.LawfulOrderLT α] {l r : List α} (h : l.Perm r) (a : l.Pairwise (· ≤ ·)) (b : r.Pairwise (· ≤ ·)) : l = r :=
  List.Perm.eq_of_pairwise (fun _ _ _ _ h1 h2 => Std.le_antisymm h1 h2) a b h

theorem lt_le {α : Type} [LT α] [LE α] [Std.IsLinearOrder α] [Std.LawfulOrderLT α] {a b : α} (h : a < b) : a ≤ b := by
  rw [Std.lt_iff_le_and_not_ge] at h
  exact h.1
theorem lt_ne {α : Type} [LT α] [LE α] [Std.IsLinearOrder α] [Std.LawfulOrderLT α] {a b : α} (h : a < b) : a ≠ b := by
  intro e
  subst e
  rw [Std.lt_iff_le_and_not_ge] at h
  exact h.2 h.1
theorem lt_of_le_ne {α : Type} [LT α] [LE α] [Std.IsLinearOrder α] [Std.LawfulOrderLT α] {a b : α} (h : a ≤ b) (e : a ≠ b) : a < b := by
  rw [Std.lt_iff_le_and_not_ge]
  exact ⟨h, fun h2 => e (Std.le_antisymm h h2)⟩

theorem asc_strict {α : Type} [LT α] [LE α] [Std.IsLinearOrder α] [Std.LawfulOrderLT α] {l : List α} (a : l.Pairwise (· ≤ ·)) (b : l.Nodup) : l.Pairwise (· < ·) :=
  (List.pairwise_and_iff.mpr ⟨a, b⟩).imp fun h => lt_of_le_ne h.1 h.2

/-- the same members, both strictly ascending -/
theorem strict_unique {l r : List Nat} (a : l.Pairwise (· < ·)) (b : r.Pairwise (· < ·)) (h : ∀ x, x ∈ l ↔ x ∈ r) : l = r := by
  have na : l.Nodup := a.imp fun h => Nat.ne_of_lt h
  have nb : r.Nodup := b.imp fun h => Nat.ne_of_lt h
  refine List.Perm.eq_of_pairwise (le := (· < ·)) (fun x y _ _ h1 h2 => absurd h1 (Nat.lt_asymm h2)) a b ((List.perm_ext_iff_of_nodup na nb).mpr h)

/-- a family as the program wants it -/
structure Fam (n : Nat) (F : List Bag) : Prop where
  tree : Tree n F
  asc : ∀ B ∈ F, B.Pairwise (· < ·)
  rise : F.Pairwise (· < ·)
  most : n ≤ 14

theorem bags_nodup {F : List Bag} (big : ∀ B ∈ F, 2 ≤ B.length) (nd : ∀ B ∈ F, B.Nodup) (one : F.Pairwise ShareOne) : F.Nodup := by
  refine one.imp_of_mem fun {A B} hA hB h e => ?_
  subst e
  have h2 := big A hA
  have h3 := nd A hA
  match A, h2, h3, h with
  | x :: y :: r, _, h3, h =>
    have e := h x y (by simp) (by simp) (by simp) (by simp)
    subst e
    simp at h3

/-- the drawn bags, named by an order of all beads, sorted -/
theorem Fam.of {n : Nat} {F : List Bag} (T : Tree n F) (hn : n ≤ 14) {ns : List Nat} (hp : ns.Perm (List.range n)) : Fam n (srtB (F.map fun B => srtN (B.map fun x => ns.getD x 0))) := by
  have hlen : ns.length = n := by rw [hp.length_eq, List.length_range]
  have hnd : ns.Nodup := hp.nodup_iff.mpr List.nodup_range
  have hget : ∀ x (h : x < n), ns.getD x 0 = ns[x]'(by omega) := fun x h => by
    rw [List.getD_eq_getElem?_getD, List.getElem?_eq_getElem (by omega)]
    rfl
  have T1 := T.named (fun x => ns.getD x 0)
    (fun x hx => by
      show ns.getD x 0 < n
      rw [hget x hx]
      exact List.mem_range.mp (hp.mem_iff.mp (List.getElem_mem _)))
    (fun x y hx hy e => by
      have e : ns.getD x 0 = ns.getD y 0 := e
      rw [hget x hx, hget y hy] at e
      exact (List.getElem_inj hnd).mp e)
    (fun y hy => by
      have hm : y ∈ ns := hp.mem_iff.mpr (List.mem_range.mpr hy)
      obtain ⟨i, hi, e⟩ := List.getElem_of_mem hm
      refine ⟨i, by omega, ?_⟩
      show ns.getD i 0 = y
      rw [hget i (by omega), e])
  have T2 := T1.each srtN srtN_perm
  have e : (F.map fun B => B.map fun x => ns.getD x 0).map srtN = F.map fun B => srtN (B.map fun x => ns.getD x 0) := by
    rw [List.map_map]
    rfl
  rw [e] at T2
  have T3 := T2.perm (srtB_perm _).symm
  refine ⟨T3, fun B hB => ?_, asc_strict (srtB_le _) (bags_nodup T3.big T3.nd T3.one), hn⟩
  have hB' := (srtB_perm _).mem_iff.mp hB
  obtain ⟨A, hA, rfl⟩ := List.mem_map.mp hB'
  exact asc_strict (srtN_le _) (T3.nd _ hB)

theorem sum_ge (l : List Nat) (h : ∀ x ∈ l, 1 ≤ x) : l.length ≤ l.sum := by
  induction l with
  | nil => simp
  | cons x l ih =>
    have h1 := h x (by simp)
    have h2 := ih fun y hy => h y (by simp [hy])
    simp
    omega

theorem Tree.few {n : Nat} {F : List Bag} (T : Tree n F) : F.length + 1 ≤ n := by
  have h := sum_ge (F.map fun B => B.length - 1) (fun x hx => by
    obtain ⟨B, hB, rfl⟩ := List.mem_map.mp hx
    have := T.big B hB
    omega)
  rw [List.length_map] at h
  have := T.sum
  omega

theorem Tree.some {n : Nat} {F : List Bag} (T : Tree n F) (hn : 0 < n) : 0 < F.length := by
  obtain ⟨B, h, _⟩ := T.all 0 hn
  exact List.length_pos_of_mem h

/-- a bag has at most as many beads as there are -/
theorem Tree.short {n : Nat} {F : List Bag} (T : Tree n F) {B : Bag} (hB : B ∈ F) : B.length ≤ n := by
  have h := (T.nd B hB).length_le_of_subset (fun x hx => List.mem_range.mpr (T.lt B hB x hx))
  rw [List.length_range] at h
  exact h

/-! the bags that hold a bead; pairs -/
def bagAt (F : List Bag) (i : Nat) : Bag := F.getD i []
theorem bagAt_of {F : List Bag} {i : Nat} {B : Bag} (h : F[i]? = some B) : bagAt F i = B := by
  unfold bagAt
  rw [List.getD_eq_getElem?_getD, h]
  rfl
theorem bagAt_get {F : List Bag} {i : Nat} (h : i < F.length) : F[i]? = some (bagAt F i) := by
  rw [bagAt_of (List.getElem?_eq_getElem h), List.getElem?_eq_getElem h]
theorem bagAt_mem {F : List Bag} {i : Nat} (h : i < F.length) : bagAt F i ∈ F := List.mem_of_getElem? (bagAt_get h)

def homesAt (F : List Bag) (b : Nat) : List Nat := (List.range F.length).filter fun i => decide (b ∈ bagAt F i)
def shares (A B : Bag) : Bool := A.any fun x => decide (x ∈ B)
def pairsRow (F : List Bag) (i : Nat) : List (Nat × Nat) := ((List.range' (i + 1) (F.length - (i + 1))).filter fun j => shares (bagAt F i) (bagAt F j)).map fun j => (i, j)
/-- the pairs, by two loops over the indexes -/
def pairsM (F : List Bag) : List (Nat × Nat) := (List.range F.length).flatMap (pairsRow F)
def pairsOf (l : List Nat) : List (Nat × Nat) := l.flatMap fun i => (l.filter fun j => decide (i < j)).map fun j => (i, j)
/-- the pairs, bead by bead -/
def pairsP (F : List Bag) (n : Nat) : List (Nat × Nat) := (List.range n).flatMap fun b => pairsOf (homesAt F b)

theorem mem_homes {F : List Bag} {b i : Nat} : i ∈ homesAt F b ↔ i < F.length ∧ b ∈ bagAt F i := by
  unfold homesAt
  simp
theorem shares_iff {A B : Bag} : shares A B = true ↔ ∃ x, x ∈ A ∧ x ∈ B := by
  unfold shares
  simp
theorem mem_pairsM {F : List Bag} {i j : Nat} : (i, j) ∈ pairsM F ↔ i < j ∧ j < F.length ∧ ∃ x, x ∈ bagAt F i ∧ x ∈ bagAt F j := by
  unfold pairsM pairsRow
  rw [List.mem_flatMap]
  constructor
  · rintro ⟨a, ha, h⟩
    obtain ⟨c, hc, e⟩ := List.mem_map.mp h
    cases e
    obtain ⟨h1, h2⟩ := List.mem_filter.mp hc
    rw [List.mem_range'_1] at h1
    exact ⟨by omega, by omega, shares_iff.mp h2⟩
  · rintro ⟨h1, h2, h3⟩
    refine ⟨i, List.mem_range.mpr (by omega), List.mem_map.mpr ⟨j, List.mem_filter.mpr ⟨?_, shares_iff.mpr h3⟩, rfl⟩⟩
    rw [List.mem_range'_1]
    omega
theorem mem_pairsOf {l : List Nat} {i j : Nat} : (i, j) ∈ pairsOf l ↔ i < j ∧ i ∈ l ∧ j ∈ l := by
  unfold pairsOf
  rw [List.mem_flatMap]
  constructor
  · rintro ⟨a, ha, h⟩
    obtain ⟨c, hc, e⟩ := List.mem_map.mp h
    cases e
    obtain ⟨h1, h2⟩ := List.mem_filter.mp hc
    exact ⟨of_decide_eq_true h2, ha, h1⟩
  · rintro ⟨h1, h2, h3⟩
    exact ⟨i, h2, List.mem_map.mpr ⟨j, List.mem_filter.mpr ⟨h3, decide_eq_true h1⟩, rfl⟩⟩
theorem mem_pairsP {F : List Bag} {n i j : Nat} (hl : ∀ B ∈ F, ∀ x ∈ B, x < n) : (i, j) ∈ pairsP F n ↔ i < j ∧ j < F.length ∧ ∃ x, x ∈ bagAt F i ∧ x ∈ bagAt F j := by
  unfold pairsP
  rw [List.mem_flatMap]
  constructor
  · rintro ⟨b, hb, h⟩
    obtain ⟨h1, h2, h3⟩ := mem_pairsOf.mp h
    rw [mem_homes] at h2 h3
    exact ⟨h1, h3.1, b, h2.2, h3.2⟩
  · rintro ⟨h1, h2, x, h3, h4⟩
    refine ⟨x, List.mem_range.mpr (hl _ (bagAt_mem h2) x h4), mem_pairsOf.mpr ⟨h1, mem_homes.mpr ⟨by omega, h3⟩, mem_homes.mpr ⟨h2, h4⟩⟩⟩

/-- pairs in the tuples' order -/
def ltP (p q : Nat × Nat) : Prop := p.1 < q.1 ∨ (p.1 = q.1 ∧ p.2 < q.2)
def leP (p q : Nat × Nat) : Bool := decide (p.1 < q.1 ∨ (p.1 = q.1 ∧ p.2 ≤ q.2))
theorem leP_antisymm {p q : Nat × Nat} (h : leP p q = true) (g : leP q p = true) : p = q := by
  have h := of_decide_eq_true h
  have g := of_decide_eq_true g
  cases p
  cases q
  simp at h g ⊢
  omega
theorem leP_trans : ∀ p q r : Nat × Nat, leP p q = true → leP q r = true → leP p r = true := by
  intro p q r h g
  have h := of_decide_eq_true h
  have g := of_decide_eq_true g
  refine decide_eq_true ?_
  omega
theorem leP_total : ∀ p q : Nat × Nat, (leP p q || leP q p) = true := by
  intro p q
  unfold leP
  rw [Bool.or_eq_true, decide_eq_true_iff, decide_eq_true_iff]
  omega
def srtP (l : List (Nat × Nat)) : List (Nat × Nat) := l.mergeSort leP

theorem ltP_leP {p q : Nat × Nat} (h : ltP p q) : leP p q = true := by
  unfold ltP at h
  refine decide_eq_true ?_
  omega
theorem ltP_ne {p q : Nat × Nat} (h : ltP p q) : p ≠ q := by
  rintro rfl
  unfold ltP at h
  omega

theorem pairwise_flatMap {α β : Type} {R : β → β → Prop} {f : α → List β} : ∀ {l : List α}, (∀ a ∈ l, (f a).Pairwise R) → l.Pairwise (fun a b => ∀ x ∈ f a, ∀ y ∈ f b, R x y) → (l.flatMap f).Pairwise R
  | [], _, _ => by simp
  | a :: l, h, g => by
    rw [List.flatMap_cons, List.pairwise_append]
    rw [List.pairwise_cons] at g
    refine ⟨h a (by simp), pairwise_flatMap (fun b hb => h b (by simp [hb])) g.2, fun x hx y hy => ?_⟩
    obtain ⟨b, hb, hy⟩ := List.mem_flatMap.mp hy
    exact g.1 b hb x hx y hy

theorem pairsM_rise (F : List Bag) : (pairsM F).Pairwise ltP := by
  unfold pairsM pairsRow
  refine pairwise_flatMap (fun i _ => ?_) ?_
  · rw [List.pairwise_map]
    refine List.Pairwise.filter _ ?_
    exact (List.pairwise_lt_range' 1).imp fun h => .inr ⟨rfl, h⟩
  · refine List.pairwise_lt_range.imp fun {a b} hab => ?_
    intro x hx y hy
    obtain ⟨_, _, rfl⟩ := List.mem_map.mp hx
    obtain ⟨_, _, rfl⟩ := List.mem_map.mp hy
    exact .inl hab

theorem homes_nodup (F : List Bag) (b : Nat) : (homesAt F b).Nodup := List.Pairwise.filter _ List.nodup_range

theorem pairsOf_nodup {l : List Nat} (h : l.Nodup) : (pairsOf l).Nodup := by
  unfold pairsOf
  refine pairwise_flatMap (fun i _ => ?_) ?_
  · rw [List.pairwise_map]
    exact (List.Pairwise.filter _ h).imp fun {a b} hne e => hne (by injection e)
  · refine h.imp fun {a b} hab => ?_
    intro x hx y hy e
    obtain ⟨_, _, rfl⟩ := List.mem_map.mp hx
    obtain ⟨_, _, rfl⟩ := List.mem_map.mp hy
    injection e with e1 _
    exact hab e1

theorem shareOne_at {F : List Bag} (one : F.Pairwise ShareOne) {i j : Nat} (hij : i ≠ j) (hi : i < F.length) (hj : j < F.length) : ShareOne (bagAt F i) (bagAt F j) :=
  pairwise_at (fun _ _ h => h.symm) one hij (bagAt_get hi) (bagAt_get hj)

theorem pairsP_nodup {F : List Bag} (one : F.Pairwise ShareOne) (n : Nat) : (pairsP F n).Nodup := by
  unfold pairsP
  refine pairwise_flatMap (fun b _ => pairsOf_nodup (homes_nodup F b)) ?_
  refine List.nodup_range.imp fun {a b} hab => ?_
  intro x hx y hy e
  subst e
  obtain ⟨i, j⟩ := x
  obtain ⟨h1, h2, h3⟩ := mem_pairsOf.mp hx
  obtain ⟨_, h4, h5⟩ := mem_pairsOf.mp hy
  rw [mem_homes] at h2 h3 h4 h5
  exact hab (shareOne_at one (by omega) h2.1 h3.1 a b h2.2 h3.2 h4.2 h5.2)

/-- sorted, the pairs bead by bead are the pairs by the loops -/
theorem srtP_pairs {n : Nat} {F : List Bag} (T : Tree n F) : srtP (pairsP F n) = pairsM F := by
  have hn : (pairsM F).Nodup := (pairsM_rise F).imp fun h => ltP_ne h
  have hp : (pairsP F n).Perm (pairsM F) := (List.perm_ext_iff_of_nodup (pairsP_nodup T.one n) hn).mpr fun ⟨i, j⟩ => by
    rw [mem_pairsP T.lt, mem_pairsM]
  refine List.Perm.eq_of_pairwise (le := fun p q => leP p q = true) (fun _ _ _ _ h g => leP_antisymm h g) (List.pairwise_mergeSort leP_trans leP_total _) ((pairsM_rise F).imp fun h => ltP_leP h) ((List.mergeSort_perm _ _).trans hp)

/-! pouring -/
def wholeM (A B : Bag) : Bag := (List.range 60).filter fun x => decide (x ∈ A ∨ x ∈ B)
def restM (F : List Bag) (i j : Nat) (t : Nat) : List Bag := ((List.range t).filter fun k => decide (k ≠ i ∧ k ≠ j)).map (bagAt F)
def pourM (F : List Bag) (i j : Nat) : List Bag := srtB (restM F i j F.length ++ [wholeM (bagAt F i) (bagAt F j)])

theorem wholeM_asc (A B : Bag) : (wholeM A B).Pairwise (· < ·) := List.Pairwise.filter _ List.pairwise_lt_range
theorem mem_wholeM {A B : Bag} {x : Nat} : x ∈ wholeM A B ↔ x < 60 ∧ (x ∈ A ∨ x ∈ B) := by
  unfold wholeM
  simp
theorem wholeM_comm (A B : Bag) : wholeM A B = wholeM B A := by
  unfold wholeM
  refine List.filter_congr fun x _ => ?_
  exact decide_eq_decide.mpr Or.comm
theorem pourM_comm (F : List Bag) (i j : Nat) : pourM F i j = pourM F j i := by
  unfold pourM restM
  rw [wholeM_comm]
  congr 4
  funext k
  exact decide_eq_decide.mpr And.comm
/-- what has these beads, strictly ascending, is the whole -/
theorem wholeM_eq {A B l : Bag} (a : l.Pairwise (· < ·)) (h : ∀ x, x ∈ l ↔ x ∈ A ∨ x ∈ B) (hA : ∀ x ∈ A, x < 60) (hB : ∀ x ∈ B, x < 60) : l = wholeM A B :=
  strict_unique a (wholeM_asc A B) fun x => by
    rw [h, mem_wholeM]
    constructor
    · intro q
      refine ⟨?_, q⟩
      rcases q with q | q
      · exact hA x q
      · exact hB x q
    · exact fun q => q.2

theorem restM_zero (F : List Bag) (i j : Nat) : restM F i j 0 = [] := by simp [restM]
theorem restM_succ (F : List Bag) (i j t : Nat) : restM F i j (t + 1) = restM F i j t ++ (if t ≠ i ∧ t ≠ j then [bagAt F t] else []) := by
  unfold restM
  rw [List.range_succ, List.filter_append, List.map_append]
  congr 1
  by_cases h : t ≠ i ∧ t ≠ j
  · rw [if_pos h]
    simp [h.1, h.2]
  · rw [if_neg h]
    have e : decide (t ≠ i ∧ t ≠ j) = false := decide_eq_false h
    rw [List.filter_cons, e]
    rfl

theorem mem_restM {F : List Bag} {i j t : Nat} {B : Bag} : B ∈ restM F i j t ↔ ∃ k, k < t ∧ k ≠ i ∧ k ≠ j ∧ bagAt F k = B := by
  unfold restM
  rw [List.mem_map]
  constructor
  · rintro ⟨k, hk, rfl⟩
    obtain ⟨h1, h2⟩ := List.mem_filter.mp hk
    have h2 := of_decide_eq_true h2
    exact ⟨k, List.mem_range.mp h1, h2.1, h2.2, rfl⟩
  · rintro ⟨k, h1, h2, h3, rfl⟩
    exact ⟨k, List.mem_filter.mpr ⟨List.mem_range.mpr h1, decide_eq_true ⟨h2, h3⟩⟩, rfl⟩

theorem bagAt_inj {n : Nat} {F : List Bag} (T : Tree n F) {i j : Nat} (hi : i < F.length) (hj : j < F.length) (h : bagAt F i = bagAt F j) : i = j := by
  have hn := bags_nodup T.big T.nd T.one
  have e1 := List.getElem?_eq_some_iff.mp (bagAt_get hi)
  have e2 := List.getElem?_eq_some_iff.mp (bagAt_get hj)
  obtain ⟨_, e1⟩ := e1
  obtain ⟨_, e2⟩ := e2
  exact (List.getElem_inj hn).mp (by rw [e1, e2, h])

/-- a bag that is poured away is not in what comes -/
theorem pour_gone {n : Nat} {F : List Bag} (T : Tree n F) (hn : n ≤ 60) {i j : Nat} (hi : i < F.length) (hj : j < F.length) (hij : i ≠ j) : bagAt F i ∉ pourM F i j := by
  intro h
  unfold pourM at h
  rw [(srtB_perm _).mem_iff, List.mem_append, mem_restM] at h
  rcases h with ⟨k, hk, k1, k2, e⟩ | h
  · exact k1 (bagAt_inj T hk hi e)
  · rw [List.mem_singleton] at h
    have hall : ∀ x, x ∈ bagAt F j → x ∈ bagAt F i := fun x hx => by
      rw [h, mem_wholeM]
      have := T.lt _ (bagAt_mem hj) x hx
      exact ⟨by omega, .inr hx⟩
    have hs := shareOne_at T.one hij hi hj
    have h2 := T.big _ (bagAt_mem hj)
    have h3 := T.nd _ (bagAt_mem hj)
    match e : bagAt F j, h2, h3 with
    | x :: y :: r, _, h3 =>
      rw [e] at hs hall
      have e := hs x y (hall x (by simp)) (by simp) (hall y (by simp)) (by simp)
      subst e
      simp at h3

theorem pour_stays {n : Nat} {F : List Bag} (T : Tree n F) {i j k : Nat} (hk : k < F.length) (h1 : k ≠ i) (h2 : k ≠ j) : bagAt F k ∈ pourM F i j := by
  unfold pourM
  rw [(srtB_perm _).mem_iff, List.mem_append, mem_restM]
  exact .inl ⟨k, hk, h1, h2, rfl⟩

theorem pour_inj {n : Nat} {F : List Bag} (T : Tree n F) (hn : n ≤ 60) {i j k l : Nat} (h1 : i < j) (h2 : j < F.length) (h3 : k < l) (h4 : l < F.length) (e : pourM F i j = pourM F k l) : i = k ∧ j = l := by
  have hi : i = k ∨ i = l := by
    by_cases q : i = k ∨ i = l
    · exact q
    · refine absurd (pour_stays T (i := k) (j := l) (k := i) (by omega) (fun z => q (.inl z)) (fun z => q (.inr z))) ?_
      rw [← e]
      exact pour_gone T hn (by omega) h2 (by omega)
  have hj : j = k ∨ j = l := by
    by_cases q : j = k ∨ j = l
    · exact q
    · refine absurd (pour_stays T (i := k) (j := l) (k := j) h2 (fun z => q (.inl z)) (fun z => q (.inr z))) ?_
      rw [← e, pourM_comm]
      exact pour_gone T hn h2 (by omega) (by omega)
  omega

def poursM (F : List Bag) : List (List Bag) := (pairsM F).map fun p => pourM F p.1 p.2
theorem poursM_nodup {n : Nat} {F : List Bag} (T : Tree n F) (hn : n ≤ 60) : (poursM F).Nodup := by
  have h : (pairsM F).Nodup := (pairsM_rise F).imp fun h => ltP_ne h
  unfold poursM List.Nodup
  rw [List.pairwise_map]
  refine h.imp_of_mem fun {p q} hp hq hne e => hne ?_
  obtain ⟨i, j⟩ := p
  obtain ⟨k, l⟩ := q
  rw [mem_pairsM] at hp hq
  obtain ⟨e1, e2⟩ := pour_inj T hn hp.1 hp.2.1 hq.1 hq.2.1 e
  rw [e1, e2]
def downsM (F : List Bag) : List (List Bag) := srtF (poursM F)
/-- any arrangement, sorted -/
theorem downs_eq {F : List Bag} {l : List (List Bag)} (h : l.Perm (poursM F)) : srtF l = downsM F :=
  asc_unique ((srtF_perm _).trans (h.trans (srtF_perm _).symm)) (srtF_le _) (srtF_le _)

theorem pairsM_few {n : Nat} {F : List Bag} (F0 : Fam n F) : (pairsM F).length ≤ 169 := by
  have hp := F0.tree.few
  have hm := F0.most
  have hn : (pairsM F).Nodup := (pairsM_rise F).imp fun h => ltP_ne h
  have hsub : ∀ p ∈ pairsM F, p ∈ (List.range 13).flatMap fun i => (List.range 13).map fun j => (i, j) := by
    rintro ⟨i, j⟩ h
    rw [mem_pairsM] at h
    refine List.mem_flatMap.mpr ⟨i, List.mem_range.mpr (by omega), List.mem_map.mpr ⟨j, List.mem_range.mpr (by omega), rfl⟩⟩
  have h := hn.length_le_of_subset hsub
  have e : ((List.range 13).flatMap fun i => (List.range 13).map fun j => (i, j)).length = 169 := by decide +kernel
  omega

/-- no pair: one bag -/
theorem one_left {n : Nat} {F : List Bag} (T : Tree n F) (h : pairsM F = []) (h0 : 0 < n) : F.length = 1 := by
  have hpos := T.some h0
  refine Nat.le_antisymm ?_ hpos
  refine Nat.le_of_not_lt fun hlt => ?_
  have hno : ∀ i j, i < j → j < F.length → ∀ x, x ∈ bagAt F i → x ∉ bagAt F j := by
    intro i j hij hj x h1 h2
    have : (i, j) ∈ pairsM F := mem_pairsM.mpr ⟨hij, hj, x, h1, h2⟩
    rw [h] at this
    cases this
  have hb := T.big _ (bagAt_mem hpos)
  have hb1 := T.big _ (bagAt_mem hlt)
  match e0 : bagAt F 0, hb, e1 : bagAt F 1, hb1 with
  | x :: r, _, y :: r1, _ =>
    have hy : y < n := T.lt _ (bagAt_mem hlt) y (by rw [e1]; simp)
    have hx : x < n := T.lt _ (bagAt_mem hpos) x (by rw [e0]; simp)
    have := T.con (fun b => b ∈ bagAt F 0) ⟨x, hx, by rw [e0]; simp⟩ (fun B hB u hu v hv hP => by
      obtain ⟨j, hj⟩ := List.getElem?_of_mem hB
      have hj' := bagAt_of hj
      have hjl := (List.getElem?_eq_some_iff.mp hj).1
      by_cases z : j = 0
      · subst z
        show v ∈ bagAt F 0
        rw [hj']
        exact hv
      · exact absurd (show u ∈ bagAt F j by rw [hj']; exact hu) (hno 0 j (by omega) hjl u hP)) y hy
    exact hno 0 1 (by omega) hlt y this (by rw [e1]; simp)

/-! all bags are reached -/
theorem reach_all {n : Nat} {F : List Bag} (T : Tree n F) {D : List Nat} (hd : D.Nodup) (hl : ∀ i ∈ D, i < F.length) (h0 : 0 ∈ D) (hc : ∀ i ∈ D, ∀ b ∈ bagAt F i, ∀ j, j < F.length → b ∈ bagAt F j → j ∈ D) : D.length = F.length := by
  have hall : ∀ k, k < F.length → k ∈ D := by
    intro k hk
    have hp := hl 0 h0
    have hb := T.big _ (bagAt_mem hp)
    have hb1 := T.big _ (bagAt_mem hk)
    match e0 : bagAt F 0, hb, e1 : bagAt F k, hb1 with
    | x :: r, _, y :: r1, _ =>
      have hy : y < n := T.lt _ (bagAt_mem hk) y (by rw [e1]; simp)
      have hx : x < n := T.lt _ (bagAt_mem hp) x (by rw [e0]; simp)
      obtain ⟨i, hi, hyi⟩ := T.con (fun b => ∃ i ∈ D, b ∈ bagAt F i) ⟨x, hx, 0, h0, by rw [e0]; simp⟩ (fun B hB u hu v hv ⟨i, hi, hui⟩ => by
        obtain ⟨j, hj⟩ := List.getElem?_of_mem hB
        have hj' := bagAt_of hj
        have hjl := (List.getElem?_eq_some_iff.mp hj).1
        exact ⟨j, hc i hi u hui j hjl (by rw [hj']; exact hu), by rw [hj']; exact hv⟩) y hy
      exact hc i hi y hyi k hk (by rw [e1]; simp)
  have hperm : D.Perm (List.range F.length) := (List.perm_ext_iff_of_nodup hd List.nodup_range).mpr fun a => by
    rw [List.mem_range]
    exact ⟨hl a, hall a⟩
  rw [hperm.length_eq, List.length_range]

end SB

/-! SbBase -/
namespace Sb
open PySem PySem.Spec PyProof.Rows L2 SB

/-! the text -/
def topS (i : Nat) : Stmt := PySem.Challenge.pw_sharebags_k03_whole_pourings.main.body.getD i (.Pass ⟨0, 0, 0, 0⟩)
abbrev sIsInt : Stmt := topS 9
abbrev sIsIn : Stmt := topS 10
abbrev sRising : Stmt := topS 11
abbrev sIsBag : Stmt := topS 12
abbrev sNeedBags : Stmt := topS 13
abbrev sSize : Stmt := topS 14
abbrev sShared : Stmt := topS 15
abbrev sHomes : Stmt := topS 16
abbrev sReached : Stmt := topS 17
abbrev sBar : Stmt := topS 18
abbrev sNeedFam : Stmt := topS 20
abbrev sPouredAt : Stmt := topS 21
abbrev sPairs : Stmt := topS 22
abbrev sPours : Stmt := topS 23
abbrev sPour : Stmt := topS 24
abbrev sPartNo : Stmt := topS 25
abbrev sMoves : Stmt := topS 26
abbrev sPoured : Stmt := topS 27
abbrev sTaken : Stmt := topS 29
abbrev sPick : Stmt := topS 30
abbrev sAlike : Stmt := topS 31
abbrev sMixed : Stmt := topS 32
abbrev sNamed : Stmt := topS 33
abbrev sFamily : Stmt := topS 34
abbrev sLPours : Stmt := topS 35
abbrev sLPour : Stmt := topS 36
abbrev sDowns : Stmt := topS 37
abbrev sLaw : Stmt := topS 38

/-! heaps -/
theorem seqT {K : PySem.W.Frag} {H H' : Hp} {a : Addr} {xs : List V} (e : Same H H') (h : SqT K H a xs) : SqT K H' a xs := by
  rcases h with (h | ⟨o, h⟩) | h
  · exact .inl (.inl (e _ _ h))
  · exact .inl (.inr ⟨o, e _ _ h⟩)
  · exact .inr h
theorem sameU {H : Hp} {p : Addr} {o : HO} (h : H p = none) : Same H (upd H p o) := fun b x e => by
  rw [upd_ne (ne_of_none e h)]
  exact e
/-- .. seen from a heap without p -/
theorem sameU2 {H H1 : Hp} {p : Addr} {o : HO} (s : Same H H1) (h : H p = none) : Same H (upd H1 p o) := fun b x e => by
  rw [upd_ne (ne_of_none e h)]
  exact s _ _ e

/-- whole numbers as values -/
abbrev iv (l : List Nat) : List V := (l.map Int.ofNat).map V.int
theorem iv_len (l : List Nat) : (iv l).length = l.length := by rw [List.length_map, List.length_map]
theorem iv_get {l : List Nat} {i : Nat} {x : V} (h : (iv l)[i]? = some x) : ∃ n, l[i]? = some n ∧ x = .int (n : Int) := by
  rw [List.getElem?_map, List.getElem?_map] at h
  cases e : l[i]? with
  | none => rw [e] at h; cases h
  | some n => rw [e] at h; exact ⟨n, rfl, (Option.some.inj h).symm⟩
theorem iv_at {l : List Nat} {i n : Nat} (h : l[i]? = some n) : (iv l)[i]? = some (.int (n : Int)) := by
  rw [List.getElem?_map, List.getElem?_map, h]
  rfl
theorem iv_mem {l : List Nat} {x : V} : x ∈ iv l ↔ ∃ n ∈ l, x = .int (n : Int) := by
  constructor
  · intro h
    obtain ⟨y, hy, e⟩ := List.mem_map.mp h
    obtain ⟨n, hn, e2⟩ := List.mem_map.mp hy
    exact ⟨n, hn, by rw [← e, ← e2]; rfl⟩
  · rintro ⟨n, hn, rfl⟩
    exact List.mem_map.mpr ⟨(n : Int), List.mem_map.mpr ⟨n, hn, rfl⟩, rfl⟩
theorem iv_append (l r : List Nat) : iv (l ++ r) = iv l ++ iv r := by simp [iv]

/-! lists in step -/
theorem pr_get {α β : Type} {R : α → β → Prop} : ∀ {l : List α} {r : List β} {i : Nat} {x : α}, Paired R l r → l[i]? = some x → ∃ y, r[i]? = some y ∧ R x y
  | _, _, _, _, .nil, h => by simp at h
  | _, _, 0, _, .cons a t, h => by simp at h; subst h; exact ⟨_, rfl, a⟩
  | _, _, i + 1, _, .cons a t, h => by
    obtain ⟨y, h1, h2⟩ := pr_get (i := i) t (by simpa using h)
    exact ⟨y, by simpa using h1, h2⟩
theorem pr_get' {α β : Type} {R : α → β → Prop} : ∀ {l : List α} {r : List β} {i : Nat} {y : β}, Paired R l r → r[i]? = some y → ∃ x, l[i]? = some x ∧ R x y
  | _, _, _, _, .nil, h => by simp at h
  | _, _, 0, _, .cons a t, h => by simp at h; subst h; exact ⟨_, rfl, a⟩
  | _, _, i + 1, _, .cons a t, h => by
    obtain ⟨y, h1, h2⟩ := pr_get' (i := i) t (by simpa using h)
    exact ⟨y, by simpa using h1, h2⟩
theorem pr_imp {α β : Type} {R S : α → β → Prop} (f : ∀ a b, R a b → S a b) : ∀ {l : List α} {r : List β}, Paired R l r → Paired S l r
  | _, _, .nil => .nil
  | _, _, .cons a t => .cons (f _ _ a) (pr_imp f t)
theorem pr_app {α β : Type} {R : α → β → Prop} : ∀ {l l' : List α} {r r' : List β}, Paired R l r → Paired R l' r' → Paired R (l ++ l') (r ++ r')
  | _, _, _, _, .nil, h => h
  | _, _, _, _, .cons a t, h => .cons a (pr_app t h)
theorem pr_len {α β : Type} {R : α → β → Prop} : ∀ {l : List α} {r : List β}, Paired R l r → l.length = r.length
  | _, _, .nil => rfl
  | _, _, .cons a t => by rw [List.length_cons, List.length_cons, pr_len t]
theorem pr_mem {α β : Type} {R : α → β → Prop} {l : List α} {r : List β} (h : Paired R l r) {x : α} (hx : x ∈ l) : ∃ y ∈ r, R x y := by
  obtain ⟨i, hi⟩ := List.getElem?_of_mem hx
  obtain ⟨y, h1, h2⟩ := pr_get h hi
  exact ⟨y, List.mem_of_getElem? h1, h2⟩

/-! bags and families as they stand -/
def IsB (K : PySem.W.Frag) (H : Hp) (v : V) (b : Bag) : Prop := ∃ a, v = .ref a ∧ SqT K H a (iv b)
def IsF (K : PySem.W.Frag) (H : Hp) (v : V) (F : List Bag) : Prop := ∃ a vs, v = .ref a ∧ SqT K H a vs ∧ Paired (IsB K H) vs F
theorem IsB.same {K : PySem.W.Frag} {H H' : Hp} {v : V} {b : Bag} (h : IsB K H v b) (s : Same H H') : IsB K H' v b := by
  obtain ⟨a, e, h⟩ := h
  exact ⟨a, e, seqT s h⟩
theorem pB_same {K : PySem.W.Frag} {H H' : Hp} {vs : List V} {F : List Bag} (h : Paired (IsB K H) vs F) (s : Same H H') : Paired (IsB K H') vs F := pr_imp (fun _ _ h => h.same s) h
theorem IsF.same {K : PySem.W.Frag} {H H' : Hp} {v : V} {F : List Bag} (h : IsF K H v F) (s : Same H H') : IsF K H' v F := by
  obtain ⟨a, vs, e, h1, h2⟩ := h
  exact ⟨a, vs, e, seqT s h1, pB_same h2 s⟩

/-! what a caller knows of a def, of the built-ins -/
structure Cal (P : Program) (w : World) (K : PySem.W.Frag) (mg : Str → Option Value) (base : Heap) (x : Str) (k : Nat) (ps : List Str) (sp : Sp) : Prop where
  ex : ∃ (f : Addr) (fd : FuncData), FnOk P w K mg base CX0 k f fd ps sp ∧ mg x = some (.ref f) ∧ PySem.W.keepIn K (.ref f) = true ∧ Binds K fd ps []
theorem Cal.mk' {P : Program} {w : World} {K : PySem.W.Frag} {mg : Str → Option Value} {base : Heap} {x q : Str} {st : Stmt} {k : Nat} {ps : List Str} {sp : Sp} {f : Addr} {fd : FuncData} (F : Fun K x q st f fd) (g : mg x = some (.ref f)) (b : Binds K fd ps []) (G : FnOk P w K mg base CX0 k f fd ps sp) : Cal P w K mg base x k ps sp := ⟨f, fd, G, g, F.kp, b⟩
structure Blt (mg : Str → Option Value) : Prop where
  isi : mg "isinstance" = none
  int : mg "int" = none
  bool : mg "bool" = none
  all : mg "all" = none
  zip : mg "zip" = none
  tuple : mg "tuple" = none
  len : mg "len" = none
  max : mg "max" = none
  range : mg "range" = none
  enum : mg "enumerate" = none
  sum : mg "sum" = none
  sorted : mg "sorted" = none
  list : mg "list" = none
  str : mg "str" = none
  set : mg "set" = none

/-- a promise's end: whatever new things stand there -/
abbrev Fin0 (H : Hp) (Q : VK) (v : V) : Prop := ∀ H', Same H H' → Q v H'
end Sb

/-! SbEnum -/
namespace Sb
open PySem PySem.Spec PyProof.Rows L2

/-! enumerate over a tuple, without a start -/
set_option maxHeartbeats 4000000 in
theorem meets_enumT (l : Addr) (items : Array Value) (o : Obj) (hT : ∀ h : Heap, h.get? l = some o → h.IsTuple l items) :
    Meets (Builtin.«enumerate.__new__» ⟨[.type "enumerate", .ref l], []⟩) (fun _ R s => s.heap.get? l = some o ∧
      R (.ok (.ret (.ref (s.heap.push { cls := .type "tuple_iterator", data := .fields #[.ref l, .int 0 0] }).objs.size)))
        { s with heap := (s.heap.push { cls := .type "tuple_iterator", data := .fields #[.ref l, .int 0 0] }).push { cls := .type "enumerate", data := .fields #[.none, .bool false, .ref s.heap.objs.size, rawInt 0, .none, .none] } }) :=
  .of_wp fun prog w A R s h => by
    obtain ⟨hp, g, d, tk, os⟩ := s
    obtain ⟨hl, h⟩ := h
    have hsub := sub_enumerate
    have hL := hT hp hl
    wp_walk
    refine wpAny_stack_any fun st => wpAny_pure ?_
    split
    · rename_i c _ _ _ _ _
      cases (c == Value.type "enumerate")
      · wp_walk using wpAny_pyIter_tuple hL
        exact ⟨_, rfl, h⟩
      · wp_walk using wpAny_pyIter_tuple hL
        exact ⟨_, rfl, h⟩
    · wp_walk using wpAny_pyIter_tuple hL
      exact ⟨_, rfl, h⟩
section
variable {prog : Program} {w : World} {A : Around} {E : Value → Shared → Prop} {s : Shared}
theorem call_enumT {l : Addr} {items : Array Value} {Q : Value → Shared → Prop} (hL : s.heap.IsTuple l items)
    (h : ∀ h', IsEnum h' (s.heap.objs.size + 1) s.heap.objs.size 0 .none → h'.IsTupleIter s.heap.objs.size l 0 → h'.objs.size = s.heap.objs.size + 2 →
      (∀ b o, s.heap.get? b = some o → h'.get? b = some o) → Q (.ref (s.heap.objs.size + 1)) { s with heap := h' }) :
    wpAny (model prog w) A (call (.type "enumerate") [.ref l]) Q E s := by
  obtain ⟨o, hl, hc, n, hd⟩ := hL
  refine callType_new F.called_enumerate (by decide) (F.typeCall_enumerate_1 _) (F.newCall_enumerate_1 _) (fun obj => F.args_object_init_2 obj _) F.entry_enumerate_new
    (meets_enumT l items o fun h' e => ⟨o, e, hc, n, hd⟩) ⟨hl, ?_⟩
  generalize hg : s.heap.push { cls := .type "tuple_iterator", data := .fields #[.ref l, .int 0 0] } = g
  have hz : g.objs.size = s.heap.objs.size + 1 := by rw [← hg]; exact Heap.size_push ..
  have hi : g.get? s.heap.objs.size = some { cls := .type "tuple_iterator", data := .fields #[.ref l, .int 0 0] } := by rw [← hg]; exact Heap.get?_push_size _ rfl
  have hk : ∀ b o, s.heap.get? b = some o → g.get? b = some o := fun b o e => by rw [← hg]; exact Heap.get?_push_of_some _ e
  show _ ∧ _
  rw [hz]
  have he : IsEnum (g.push { cls := .type "enumerate", data := .fields #[.none, .bool false, .ref s.heap.objs.size, rawInt 0, .none, .none] }) (s.heap.objs.size + 1) s.heap.objs.size 0 .none := by
    have q := Heap.get?_push_size g (o := { cls := .type "enumerate", data := .fields #[.none, .bool false, .ref s.heap.objs.size, rawInt 0, .none, .none] }) rfl
    rw [hz] at q
    exact q
  exact ⟨⟨_, he, rfl⟩, h _ he ⟨_, Heap.get?_push_of_some _ hi, rfl, rfl⟩ (by rw [Heap.size_push, hz]) fun b o x => Heap.get?_push_of_some _ (hk b o x)⟩
end

/-- the tuple at a, each item in a new pair with its number -/
def IteT (K : PySem.W.Frag) (a : Addr) : It :=
  ⟨fun i H => ∃ (xs : List V) (x : V), SqT K H a xs ∧ xs[i]? = some x,
    fun i H v H' => ∃ T x, v = .ref T ∧ H T = none ∧ H' = upd H T (.tup [.int (i : Nat), x]) ∧ ∀ xs, SqT K H a xs → xs[i]? = some x,
    fun i H => ∃ xs : List V, SqT K H a xs ∧ xs.length = i⟩
theorem turn_enumT {P : Program} {w : World} {K : PySem.W.Frag} {elts : List Expr} {kk : Nat} {tpos : Pos} (a e it : Addr) :
    Turn P w K (.Tuple elts kk tpos) (IteT K a) [e, it] e (fun i h => (∃ old, IsEnum h e it ((i : Nat) : Int) old) ∧ h.IsTupleIter it a i ∧ e ≠ it) where
  mem := List.mem_cons_self ..
  obj := fun i h st b hb => by
    obtain ⟨⟨old, he⟩, ⟨o, ho, hc, hd⟩, _⟩ := st
    rcases List.mem_cons.mp hb with z | hb
    · subst z
      exact ⟨_, he, fun v q => nomatch q⟩
    · have z := List.mem_singleton.mp hb
      subst z
      exact ⟨o, ho, fun v q => by rw [hd] at q; cases q⟩
  keep := fun i h h' st k => by
    obtain ⟨⟨old, he⟩, hi, hne⟩ := st
    exact ⟨⟨old, k e (by simp) _ he⟩, hi.at fun o q => k it (by simp) o q, hne⟩
  item := by
    intro X hP hw hK hc i pins s σ H E I hf st hg
    subst hP hw hK
    obtain ⟨⟨old, he⟩, hit, hne⟩ := st
    obtain ⟨xs, x, hq, hx⟩ := hg
    obtain ⟨its, rv, p, hz⟩ := I.tuple hq
    obtain ⟨u, hu, ru⟩ := rv.get hx
    have hel : e < s.heap.objs.size := Heap.lt_size he
    have hil : it < s.heap.objs.size := by
      obtain ⟨_, q, _⟩ := hit
      exact Heap.lt_size q
    have hea : e ≠ a := fun z => by
      obtain ⟨o, q, c, _⟩ := p
      have he' : s.heap.get? e = some _ := he
      rw [← z, he'] at q
      rw [← Option.some.inj q] at c
      exact absurd (show Value.type "enumerate" = Value.type "tuple" from c) (by decide)
    have hai : a ≠ it := fun z => by
      obtain ⟨o, q, c, _⟩ := p
      obtain ⟨o2, q2, c2, _⟩ := hit
      rw [z, q2] at q
      rw [← Option.some.inj q, c2] at c
      exact absurd c (by decide)
    have hlt : i < its.toArray.size := by
      have := (List.getElem?_eq_some_iff.mp hu).1
      simpa using this
    refine wpAny_pyNext_enum_itemD (Draws.tuple (A := X.A.in1) (I.ok.hd hc) it a hai its.toArray) he ⟨hit, p⟩ hlt hne (by simp [hne, hea]) fun y h' tk hy ho hst hT hsz hk => ?_
    have hyu : y = u := by
      have hy' : its.toArray[i]? = some y := hy
      rw [List.getElem?_toArray, hu] at hy'
      exact (Option.some.inj hy').symm
    subst hyu
    refine ⟨_, rfl, wpAny_letOwnedTupleGo_enum (s := { s with heap := h', toks := tk + 1 }) ho fun h2 he2 sb => ?_⟩
    have hT2 : h2.get? s.heap.objs.size = some { cls := .type "tuple", data := .seq #[.int i tk, y] } := (sb.2 _ (Nat.ne_of_gt hel)).trans hT
    have new : ObjOk X.prog X.w (upd H s.heap.objs.size (.tup [.int (i : Nat), x])) h2 s.heap.objs.size (.tup [.int (i : Nat), x]) :=
      ⟨by show 2 ≤ sizeLine; decide, [.int i tk, y], .cons ⟨_, rfl⟩ (.cons ru .nil), ⟨_, hT2, rfl, _, rfl⟩⟩
    have I1 : Inv X pins σ (upd H s.heap.objs.size (.tup [.int (i : Nat), x])) { s with heap := h2, toks := tk + 1 } :=
      I.turnedNew (ch := [e, it]) (fun b ob hb q => by
        have b1 : b ≠ e := fun z => hb (by simp [z])
        have b2 : b ≠ it := fun z => hb (by simp [z])
        exact (sb.2 b b1).trans (hk b ob b1 b2 q)) hf (Nat.le_refl _) new
    refine ⟨.ref s.heap.objs.size, _, I1, rfl, ⟨_, x, rfl, I.hok.fresh (Nat.le_refl _), rfl, fun ys hy => by rw [I.tuple_inj hy hq]; exact hx⟩, ⟨⟨y, ?_⟩, hst.1.at fun o q => (sb.2 it (Ne.symm hne)).trans q, hne⟩, fun b hb => ?_⟩
    · have e1 : ((i + 1 : Nat) : Int) = (i : Int) + 1 := by omega
      rw [e1]
      exact he2
    · have hb' : b < s.heap.objs.size := by
        rcases List.mem_cons.mp hb with z | hb
        · rw [z]
          exact hel
        · rw [List.mem_singleton.mp hb]
          exact hil
      rw [upd_ne (Nat.ne_of_lt hb')]
      exact (hf b hb).1
  done := by
    intro X hP hw hK hc i pins s σ H E I hf st hg
    subst hP hw hK
    obtain ⟨⟨old, he⟩, hit, hne⟩ := st
    obtain ⟨xs, hq, hx⟩ := hg
    obtain ⟨its, rv, p, hz⟩ := I.tuple hq
    obtain ⟨f0, f1, f2, f3, f4, f5⟩ := hf it (by simp)
    have hl := rv.length
    have hai : a ≠ it := fun z => by
      obtain ⟨o, q, c, _⟩ := p
      obtain ⟨o2, q2, c2, _⟩ := hit
      rw [z, q2] at q
      rw [← Option.some.inj q, c2] at c
      exact absurd c (by decide)
    have en : i = its.toArray.size := by
      rw [List.size_toArray]
      omega
    subst en
    exact wpAny_pyNext_enum_endD (Draws.tuple (A := X.A.in1) (I.ok.hd hc) it a hai its.toArray) he ⟨hit, p⟩ fun h' eb => ⟨rfl, I.turned (t' := s.toks) (fun b o hb q => eb b o hb q) f0 f1 f3 f4 f5⟩
  self := fun A i s Q E st h => by
    obtain ⟨⟨_, he⟩, _⟩ := st
    exact wpAny_pyIter_enum he h
def iEnumT (K : PySem.W.Frag) (ta : TA) : TI := fun σ H R => ta σ H fun vs H1 => ∃ a xs, vs = [.ref a] ∧ SqT K H1 a xs ∧ R (IteT K a) H1
theorem pi_enumT {X : Cx} {e : Expr} {ta : TA} {p pos tpos : Pos} {elts : List Expr} {kk : Nat} (hg : Gl X "enumerate") (hm : X.mg "enumerate" = none) (ha : PA X [e] ta) (hs : starEach [e] X.env = [(false, eval e X.env)] := by rfl) :
    PI X (.Tuple elts kk tpos) (.Call (.Name "enumerate" p) [e] [] pos) (iEnumT X.K ta) := by
  refine ⟨fun pins s σ H R I h => ?_⟩
  refine Call_ (ld_blt I hg hm boot_enumerate (PyProof.Rows.callWith_type1 (thn (ha.run pos pins s σ H _ I h) fun us s1 ⟨vs, H1, I1, r1, q1⟩ => ?_) hs rfl))
  obtain ⟨a, xs, ex, hq, q⟩ := q1
  subst ex
  obtain ⟨u, rfl, r⟩ := vals1 r1
  cases (show u = Value.ref a from r)
  obtain ⟨its, rv, p', hz⟩ := I1.tuple hq
  refine call_enumT p' fun h' he hit hsz hk => wpAny_pyIter_enum he ?_
  refine ⟨s1.heap.objs.size + 1, [s1.heap.objs.size + 1, s1.heap.objs.size], _, _, H1, rfl, I1.kept (t' := s1.toks) hk, turn_enumT a (s1.heap.objs.size + 1) s1.heap.objs.size, ⟨⟨.none, he⟩, hit, Nat.succ_ne_self _⟩, fun b hb => ?_, q⟩
  have hle : s1.heap.objs.size ≤ b := by
    rcases List.mem_cons.mp hb with z | hb
    · rw [z]
      exact Nat.le_add_right _ _
    · rw [List.mem_singleton.mp hb]
      exact Nat.le_refl _
  exact I1.fpOk hle (I1.hok.fresh hle)
theorem walk_enumT {K : PySem.W.Frag} {a : Addr} {xs : List V} : Walk (IteT K a) xs.length (fun H => SqT K H a xs) (YPair (fun i => some (.int (i : Nat))) (fun i => xs[i]?)) := by
  refine ⟨fun i _ hi q => ⟨xs, xs[i], q, List.getElem?_eq_getElem hi⟩, fun _ q => ⟨xs, q, rfl⟩, fun i H v H' _ q y => ?_⟩
  obtain ⟨T, x, h1, h2, h3, h4⟩ := y
  exact ⟨T, .int (i : Nat), x, h1, h2, h3, rfl, h4 xs q⟩
theorem walk_zipT {K : PySem.W.Frag} {a b : Addr} {xs ys : List V} {n : Nat} (hn : n = min xs.length ys.length) : Walk (RZ.ItzT K a b) n (fun H => SqT K H a xs ∧ SqT K H b ys) (YPair (fun i => xs[i]?) (fun i => ys[i]?)) := by
  subst hn
  refine ⟨fun i _ hi q => ?_, fun _ q => ⟨xs, ys, q.1, q.2, by omega⟩, fun i H v H' _ q y => ?_⟩
  · have h1 : i < xs.length := by omega
    have h2 : i < ys.length := by omega
    exact ⟨xs, ys, xs[i], ys[i], q.1, q.2, List.getElem?_eq_getElem h1, List.getElem?_eq_getElem h2⟩
  · obtain ⟨T, x, z, h1, h2, h3, h4, h5⟩ := y
    exact ⟨T, x, z, h1, h2, h3, h4 xs q.1, h5 ys q.2⟩
end Sb

/-! SbSort -/
namespace Sb
open PySem PySem.Spec PyProof.Rows L2 SB

/-! bags, families, pairs as data -/
def dN (n : Nat) : PyData := .int (n : Int)
def dB (b : Bag) : PyData := .tuple (b.map dN)
def dF (F : List Bag) : PyData := .tuple (F.map dB)
def dP (p : Nat × Nat) : PyData := .tuple [dN p.1, dN p.2]
/-- the order of data, the less or equal -/
def leD {γ : Type} (enc : γ → PyData) (a b : γ) : Bool := PySem.W.dataLe false enc a b
theorem leD_eq {γ : Type} (enc : γ → PyData) (a b : γ) : leD enc a b = !PySem.W.dataLt (enc b) (enc a) := rfl

theorem dNs (b : Bag) : b.map dN = (b.map Int.ofNat).map PyData.int := by
  rw [List.map_map]
  rfl
theorem eqv_dN (a b : Nat) : PyData.eqv (dN a) (dN b) = decide (a = b) := by
  unfold dN
  rw [PyData.eqv]
  by_cases h : a = b
  · subst h
    simp
  · rw [decide_eq_false h]
    exact beq_eq_false_iff_ne.mpr fun e => h (Int.ofNat.inj e)
theorem eqvAll_dN : ∀ a b : Bag, PyData.eqvAll (a.map dN) (b.map dN) = decide (a = b)
  | [], [] => by simp [PyData.eqvAll]
  | [], _ :: _ => by simp [PyData.eqvAll]
  | _ :: _, [] => by simp [PyData.eqvAll]
  | x :: a, y :: b => by
    rw [List.map_cons, List.map_cons, PyData.eqvAll, eqv_dN, eqvAll_dN a b]
    by_cases h1 : x = y <;> by_cases h2 : a = b <;> simp [h1, h2]
theorem eqv_dB (a b : Bag) : PyData.eqv (dB a) (dB b) = decide (a = b) := by
  unfold dB
  rw [PyData.eqv]
  exact eqvAll_dN a b
theorem eqvAll_dB : ∀ a b : List Bag, PyData.eqvAll (a.map dB) (b.map dB) = decide (a = b)
  | [], [] => by simp [PyData.eqvAll]
  | [], _ :: _ => by simp [PyData.eqvAll]
  | _ :: _, [] => by simp [PyData.eqvAll]
  | x :: a, y :: b => by
    rw [List.map_cons, List.map_cons, PyData.eqvAll, eqv_dB, eqvAll_dB a b]
    by_cases h1 : x = y <;> by_cases h2 : a = b <;> simp [h1, h2]
theorem eqv_dF (a b : List Bag) : PyData.eqv (dF a) (dF b) = decide (a = b) := by
  unfold dF
  rw [PyData.eqv]
  exact eqvAll_dB a b
theorem lt_cast : ∀ a b : List Nat, decide (a.map Int.ofNat < b.map Int.ofNat) = decide (a < b)
  | [], [] => by simp
  | [], _ :: _ => by simp
  | _ :: _, [] => by simp
  | x :: a, y :: b => by
    have ih := lt_cast a b
    rw [decide_eq_decide] at ih ⊢
    rw [List.map_cons, List.map_cons, List.cons_lt_cons_iff, List.cons_lt_cons_iff, ih]
    have e1 : Int.ofNat x < Int.ofNat y ↔ x < y := Int.ofNat_lt
    have e2 : Int.ofNat x = Int.ofNat y ↔ x = y := ⟨fun e => Int.ofNat.inj e, fun e => by rw [e]⟩
    rw [e1, e2]
theorem alike_dNs : ∀ a b : Bag, PySem.W.alikeAll (a.map dN) (b.map dN) = true := fun a b => by
  rw [dNs, dNs]
  exact PySem.W.alike_ints _ _
theorem alike_dB (a b : Bag) : PySem.W.alike (dB a) (dB b) = true := by
  unfold dB
  rw [PySem.W.alike]
  exact alike_dNs a b
theorem alike_dBs : ∀ a b : List Bag, PySem.W.alikeAll (a.map dB) (b.map dB) = true
  | [], _ => by simp [PySem.W.alikeAll]
  | _ :: _, [] => by simp [PySem.W.alikeAll]
  | x :: a, y :: b => by
    rw [List.map_cons, List.map_cons, PySem.W.alikeAll, alike_dBs a b, alike_dB]
    rfl
theorem alike_dF (a b : List Bag) : PySem.W.alike (dF a) (dF b) = true := by
  unfold dF
  rw [PySem.W.alike]
  exact alike_dBs a b
theorem alike_dP (a b : Nat × Nat) : PySem.W.alike (dP a) (dP b) = true := by
  unfold dP dN
  simp [PySem.W.alike, PySem.W.alikeAll]
theorem lt_dB (a b : Bag) : PySem.W.dataLt (dB a) (dB b) = decide (a < b) := by
  unfold dB
  rw [PySem.W.dataLt_tuple, dNs, dNs]
  have e := PySem.W.dataLt_ints (a.map Int.ofNat) (b.map Int.ofNat)
  unfold PySem.W.rowLt at e
  rw [e, lt_cast]
theorem not_lt_le {α : Type} [LT α] [LE α] [Std.IsLinearOrder α] [Std.LawfulOrderLT α] [DecidableLT α] [DecidableLE α] (a b : α) : (!decide (b < a)) = decide (a ≤ b) := by
  by_cases h : b < a
  · have h2 : ¬ a ≤ b := fun z => by
      rw [Std.lt_iff_le_and_not_ge] at h
      exact h.2 z
    rw [decide_eq_true h, decide_eq_false h2]
    rfl
  · have h2 : a ≤ b := by
      rcases Std.le_total (a := a) (b := b) with z | z
      · exact z
      · by_cases y : a ≤ b
        · exact y
        · exact absurd (Std.lt_iff_le_and_not_ge.mpr ⟨z, y⟩) h
    rw [decide_eq_false h, decide_eq_true h2]
    rfl
theorem leD_dB : leD dB = leB := by
  funext a b
  rw [leD_eq, lt_dB]
  exact not_lt_le a b
theorem rowLt_dB : ∀ a b : List Bag, PyProof.Rows.lexLt itemOrd (PySem.W.keyToksAll (a.map dB)) (PySem.W.keyToksAll (b.map dB)) = decide (a < b)
  | [], [] => by
    rw [List.map_nil, lex_irrefl]
    simp
  | [], y :: b => by
    rw [List.map_nil, List.map_cons, PySem.W.toks_all_cons]
    simp only [PySem.W.keyToksAll]
    rw [lex_diff (O := itemOrd) (by simp)]
    simp
    rfl
  | x :: a, [] => by
    rw [List.map_nil, List.map_cons, PySem.W.toks_all_cons]
    simp only [PySem.W.keyToksAll]
    rw [lex_diff (O := itemOrd) (by simp)]
    simp
    rfl
  | x :: a, y :: b => by
    rw [List.map_cons, List.map_cons, PySem.W.dataLt_cons (alike_dB x y), eqv_dB, rowLt_dB a b, lt_dB]
    by_cases h : x = y
    · rw [if_pos (decide_eq_true h)]
      rw [decide_eq_decide, List.cons_lt_cons_iff]
      subst h
      constructor
      · exact fun z => .inr ⟨rfl, z⟩
      · rintro (z | z)
        · exact absurd z (List.lt_irrefl _)
        · exact z.2
    · rw [if_neg (by rw [decide_eq_true_iff]; exact h)]
      rw [decide_eq_decide, List.cons_lt_cons_iff]
      constructor
      · exact fun z => .inl z
      · rintro (z | z)
        · exact z
        · exact absurd z.1 h
theorem lt_dF (a b : List Bag) : PySem.W.dataLt (dF a) (dF b) = decide (a < b) := by
  unfold dF
  rw [PySem.W.dataLt_tuple]
  exact rowLt_dB a b
theorem leD_dF : leD dF = leF := by
  funext a b
  rw [leD_eq, lt_dF]
  exact not_lt_le a b
theorem leD_dP : leD dP = leP := by
  have e := PySem.W.dataLe_ii (β := Nat × Nat) (fun p => (p.1 : Int)) (fun p => (p.2 : Int))
  funext p q
  have e2 := congrFun (congrFun e p) q
  refine Eq.trans (show leD dP p q = _ from e2) ?_
  unfold leP
  rw [decide_eq_decide]
  omega

/-! sorted of a list that reads as data -/
theorem eachIs_zip {γ : Type} : ∀ (ps : List (V × γ)) (vs : List Value), Vals (ps.map (·.1)) vs → PySem.W.EachIs (fun v p => RelV p.1 v) vs ps
  | [], _, .nil => .nil
  | p :: ps, _, .cons r t => .cons r (eachIs_zip ps _ t)
theorem vals_eachIs {γ : Type} : ∀ {ps : List (V × γ)} {vs : List Value}, PySem.W.EachIs (fun v p => RelV p.1 v) vs ps → Vals (ps.map (·.1)) vs
  | _, _, .nil => .nil
  | _, _, .cons r t => .cons r (vals_eachIs t)
theorem eachIs_reads {X : Cx} {pins : List (Addr × Obj)} {σ : L2.St} {H : Hp} {s : Shared} (I : Inv X pins σ H s) {γ : Type} (enc : γ → PyData) : ∀ (ps : List (V × γ)) (vs : List Value), Vals (ps.map (·.1)) vs → (∀ p ∈ ps, Dp X.K H p.1 (enc p.2)) → PySem.W.EachIs (fun v p => ∃ as, Reads s.heap v (enc p.2) as) vs ps
  | [], _, .nil, _ => .nil
  | p :: ps, _, .cons r t, h => .cons (Dp.reads I _ _ _ (h p (List.mem_cons_self ..)) r) (eachIs_reads I enc ps _ t fun q hq => h q (List.mem_cons_of_mem _ hq))
def rSD {γ : Type} (enc : γ → PyData) (K : PySem.W.Frag) : List V → Hp → VK → Prop := fun vs H Q => ∃ (a : Addr) (ps : List (V × γ)), vs = [V.ref a] ∧ SqL K H a (ps.map (·.1)) ∧ (∀ p ∈ ps, Dp K H p.1 (enc p.2)) ∧ PySem.W.Sortable (ps.map fun p => enc p.2) ∧
  ∀ (qs : List (V × γ)) (p : Addr), qs.Perm ps → qs.map (·.2) = (ps.map (·.2)).mergeSort (leD enc) → H p = none → Q (.ref p) (upd H p (.lst (qs.map (·.1))))
theorem cr_sortD {X : Cx} {γ : Type} (enc : γ → PyData) (hu : X.A.units + 64 < cLine) (hal : ∀ a b, PySem.W.alike (enc a) (enc b) = true) (hd : ∀ a, (enc a).depth ≤ 8) : CallR X (.builtin "sorted") (rSD enc X.K) := by
  intro pins s σ H vs us Q I r h
  obtain ⟨a, ps, rfl, hs, hD, hso, q⟩ := h
  obtain ⟨its, rv, hl, hz⟩ := I.list hs
  rw [Vals.ref1 r]
  refine PySem.W.sorted_data (bs := ps) (enc := fun p => enc p.2) (R := fun v p => RelV p.1 v) hl.isList (eachIs_zip ps its rv) (eachIs_reads I enc ps its rv hD) (PySem.W.AllAlike.of fun b b' => hal _ _) hso (by rw [List.length_map] at hz; exact hz) (fun b _ => by have := hd b.2; omega) fun out ho eo => ?_
  obtain ⟨ep, he'⟩ := PyProof.Rows.sortedAll_at s.heap its out.toArray
  have hv := vals_eachIs eo
  have hp : (ps.mergeSort (PySem.W.dataLe false fun p => enc p.2)).Perm ps := List.mergeSort_perm _ _
  have hlen : ((ps.mergeSort (PySem.W.dataLe false fun p => enc p.2)).map (·.1)).length ≤ sizeLine := by
    rw [List.length_map, hp.length_eq]
    rw [List.length_map] at hz
    exact hz
  refine ⟨.ref _, upd H (s.heap.objs.size + 1) (.lst _), I.laid (t' := s.toks) (fun _ _ => PyProof.Rows.sortedAll_old) (Nat.le_succ _) ⟨hlen, out, ep, hv, he'⟩, rfl, q _ _ hp ?_ (I.hok.fresh (Nat.le_succ _))⟩
  rw [List.map_mergeSort]
  exact fun _ _ _ _ => rfl
end Sb

/-! SbK -/
namespace Sb
open PySem PySem.Spec PyProof.Rows L2 SB
/-! rules with the written part named: for a comprehension's block -/
section
variable {X : Cx} {K : PySem.W.Frag} {tg l : Expr} {tl : TE}
theorem op_ltTK (hK : X.K = K) (hu : X.A.units < cLine) : OpR X (compareOp .Lt) (rLtT K) := hK ▸ op_ltT hu
theorem op_inK (hK : X.K = K) : OpR X (compareOp .In) (rIn K false) := hK ▸ op_in_seq
theorem op_notInK (hK : X.K = K) : OpR X (compareOp .NotIn) (rIn K true) := hK ▸ op_notIn_seq
theorem op_eqDK (hK : X.K = K) (hu : X.A.units + 64 < cLine) : OpR X (compareOp .Eq) (rEqD K) := hK ▸ op_eqD hu
theorem op_neDK (hK : X.K = K) (hu : X.A.units + 64 < cLine) : OpR X (compareOp .NotEq) (rNeD K) := hK ▸ op_neD hu
theorem pi_listK (hK : X.K = K) (hl : PE X l tl) : PI X tg l (iList K tl) := hK ▸ pi_list hl
theorem pi_tupK (hK : X.K = K) (hl : PE X l tl) : PI X tg l (iTup K tl) := hK ▸ pi_tup hl
theorem ix_listK (hK : X.K = K) : IxR X (rIxL K) := hK ▸ ix_list
theorem ix_tupK (hK : X.K = K) : IxR X (rIxT K) := hK ▸ ix_tup
theorem pg_tupK {es : List Expr} {k : Nat} {pos : Pos} {t : TGs} {n : Nat} (hK : X.K = K) (hc : X.calm = true) (h : PGs X es t)
    (hn : (assignEach es X.env).length = n := by rfl) (hst : (assignEach es X.env).findIdx? (·.1) = none := by rfl) : PG X (.Tuple es k pos) (gTup K n t) := by
  subst hK
  exact pg_tup hc h hn hst
def rLen (K : PySem.W.Frag) : List V → Hp → VK → Prop := fun xs H Q => ∃ p ys, xs = [.ref p] ∧ (SqL K H p ys ∨ SqT K H p ys) ∧ Q (.int ys.length) H
theorem call_lenK (hK : X.K = K) : CallR X (.builtin "len") (rLen K) := hK ▸ call_len_seq
def rTup (K : PySem.W.Frag) : List V → Hp → VK → Prop := fun xs H Q => ∃ p ys, xs = [.ref p] ∧ ((SqL K H p ys ∧ ∀ l, H l = none → Q (.ref l) (upd H l (.tup ys))) ∨ (SqT K H p ys ∧ Q (.ref p) H))
theorem call_tupK (hK : X.K = K) : CallR X (.type "tuple") (rTup K) := hK ▸ call_tuple_of
theorem call_isiK' (hK : X.K = K) : CallR X (.builtin "isinstance") (rIsi K) := hK ▸ call_isi
theorem call_isiTK (hK : X.K = K) : CallR X (.builtin "isinstance") (rIsiT K) := hK ▸ call_isiT
theorem cr_sortedK (hK : X.K = K) : CallR X (.builtin "sorted") (rSorted K) := hK ▸ cr_sorted
theorem cr_sortDK {γ : Type} (enc : γ → PyData) (hK : X.K = K) (hu : X.A.units + 64 < cLine) (hal : ∀ a b, PySem.W.alike (enc a) (enc b) = true) (hd : ∀ a, (enc a).depth ≤ 8) : CallR X (.builtin "sorted") (rSD enc K) := hK ▸ cr_sortD enc hu hal hd
end

/-! types -/
theorem ty_tup {K : PySem.W.Frag} {H : Hp} {a : Addr} {xs : List V} (h : SqT K H a xs) : TyX K H (.ref a) (.type "tuple") := by
  rcases h with (h | ⟨o, h⟩) | ⟨o, its, n, h1, h2, _⟩
  · exact .base (.tup h)
  · exact .fTuple h
  · exact .kTuple h1 h2
theorem ty_lst {K : PySem.W.Frag} {H : Hp} {a : Addr} {xs : List V} (h : SqL K H a xs) : TyX K H (.ref a) (.type "list") := by
  rcases h with (h | ⟨o, h⟩) | ⟨o, its, n, h1, h2, _⟩
  · exact .base (.lst h)
  · exact .base (.frz h)
  · exact .kList h1 h2

/-! data -/
theorem dp_ints {K : PySem.W.Frag} {H : Hp} : ∀ l : List Nat, DpAll K H (iv l) (l.map dN)
  | [] => .nil
  | n :: l => .cons (.int _) (dp_ints l)
theorem IsB.dp {K : PySem.W.Frag} {H : Hp} {v : V} {b : Bag} (h : IsB K H v b) : Dp K H v (dB b) := by
  obtain ⟨a, rfl, h⟩ := h
  exact .tup h (dp_ints b)
theorem dp_bags {K : PySem.W.Frag} {H : Hp} : ∀ {vs : List V} {F : List Bag}, Paired (IsB K H) vs F → DpAll K H vs (F.map dB)
  | _, _, .nil => .nil
  | _, _, .cons h t => .cons h.dp (dp_bags t)
theorem IsF.dp {K : PySem.W.Frag} {H : Hp} {v : V} {F : List Bag} (h : IsF K H v F) : Dp K H v (dF F) := by
  obtain ⟨a, vs, rfl, h, p⟩ := h
  exact .tup h (dp_bags p)
theorem lay_ints : ∀ l : List Nat, PyData.canLayAll0 (l.map dN) = true
  | [] => by simp [PyData.canLayAll0]
  | n :: l => by
    rw [List.map_cons, PyData.canLayAll0, lay_ints l]
    unfold dN
    simp [PyData.canLay0]
theorem lay_dB (b : Bag) : PyData.canLay0 (dB b) = true := by
  unfold dB
  rw [PyData.canLay0]
  exact lay_ints b
theorem lay_bags : ∀ F : List Bag, PyData.canLayAll0 (F.map dB) = true
  | [] => by simp [PyData.canLayAll0]
  | b :: F => by
    rw [List.map_cons, PyData.canLayAll0, lay_bags F, lay_dB]
    rfl
theorem lay_dF (F : List Bag) : PyData.canLay0 (dF F) = true := by
  unfold dF
  rw [PyData.canLay0]
  exact lay_bags F
theorem dep_ints : ∀ l : List Nat, PyData.depthAll (l.map dN) = 0
  | [] => by simp [PyData.depthAll]
  | n :: l => by
    rw [List.map_cons, PyData.depthAll, dep_ints l]
    unfold dN
    simp [PyData.depth]
theorem dep_dB (b : Bag) : (dB b).depth = 1 := by
  unfold dB
  rw [PyData.depth, dep_ints]
theorem dep_bags : ∀ F : List Bag, PyData.depthAll (F.map dB) ≤ 1
  | [] => by simp [PyData.depthAll]
  | b :: F => by
    rw [List.map_cons, PyData.depthAll, dep_dB]
    have := dep_bags F
    omega
theorem dep_dF (F : List Bag) : (dF F).depth ≤ 2 := by
  unfold dF
  rw [PyData.depth]
  have := dep_bags F
  omega
theorem dep_dP (p : Nat × Nat) : (dP p).depth = 1 := by
  unfold dP dN
  simp [PyData.depth, PyData.depthAll]
theorem shaped_of {d : PyData} (h : PyData.canLay0 d = true) (h2 : d.depth ≤ 64) : SeqAt.shaped d = true := by
  unfold SeqAt.shaped
  rw [h, decide_eq_true h2]
  rfl
/-- lists of numbers -/
def dL (l : List Nat) : PyData := .list (l.map dN)
theorem shaped_dL (l : List Nat) : SeqAt.shaped (dL l) = true := by
  refine shaped_of ?_ ?_
  · unfold dL
    rw [PyData.canLay0]
    exact lay_ints l
  · unfold dL
    rw [PyData.depth, dep_ints]
    decide
theorem shaped_dF (F : List Bag) : SeqAt.shaped (dF F) = true := shaped_of (lay_dF F) (by have := dep_dF F; omega)
theorem shaped_nilL : SeqAt.shaped (.list []) = true := by decide +kernel
theorem shaped_nilT : SeqAt.shaped (.tuple []) = true := by decide +kernel
/-- a list against the empty one -/
theorem eqv_nilL (ds : List PyData) : PyData.eqv (.list ds) (.list []) = ds.isEmpty := by
  cases ds <;> simp [PyData.eqv, PyData.eqvAll]
theorem eqv_nilT (ds : List PyData) : PyData.eqv (.tuple ds) (.tuple []) = ds.isEmpty := by
  cases ds <;> simp [PyData.eqv, PyData.eqvAll]

/-- HandS's order of tuples of numbers is the lists' -/
theorem lexLt_ints : ∀ a b : List Nat, a < b → HT.lexLt (a.map Int.ofNat) (b.map Int.ofNat) = true
  | [], [], h => absurd h (List.lt_irrefl _)
  | [], _ :: _, _ => rfl
  | _ :: _, [], h => by simp at h
  | x :: a, y :: b, h => by
    rw [List.cons_lt_cons_iff] at h
    show (if Int.ofNat x = Int.ofNat y then HT.lexLt (a.map Int.ofNat) (b.map Int.ofNat) else decide (Int.ofNat x < Int.ofNat y)) = true
    by_cases e : x = y
    · rw [if_pos (by rw [e])]
      subst e
      rcases h with h | h
      · exact absurd h (Nat.lt_irrefl _)
      · exact lexLt_ints a b h.2
    · rw [if_neg fun z => e (Int.ofNat.inj z)]
      rcases h with h | h
      · exact decide_eq_true (Int.ofNat_lt.mpr h)
      · exact absurd h.1 e
end Sb

/-! SbA -/
namespace Sb
open PySem PySem.Spec PyProof.Rows L2 SB
section
variable {P : Program} {w : World} {K : PySem.W.Frag} {mg : Str → Option Value} {base : Heap}

/-! is_int -/
theorem scIsInt : FnScope ["value"] ["value"] (defScope sIsInt) := ⟨rfl, rfl, rfl, by decide +kernel, rfl, by decide +kernel, by decide +kernel⟩
def spIsInt : Sp := fun vs H Q _ => ∃ i : Int, vs = [.int i] ∧ Q (.bl true) H
theorem ok_isInt {f : Addr} {fd : FuncData} (F : Fun K "is_int" "is_int" sIsInt f fd) (B : Blt mg) : FnOk P w K mg base CX0 1 f fd ["value"] spIsInt := by
  refine F.ok scIsInt (fun vs H Q E h => ?_) (fun cdv A outer s H vs Q E hr h => ?_)
  · obtain ⟨i, rfl, _⟩ := h
    rfl
  · obtain ⟨i, rfl, q⟩ := h
    refine ⟨_, pss_one (ps_ret (pe_and (pe_callB call_isi (by rfl) B.isi (by decide +kernel) (pa_cons (pv 0) (pa_cons (pe_bltn (v := .ty "int") (by rfl) B.int (by decide +kernel) rfl) pa_nil)))
      (pe_one (pe_not (pe_callB call_isi (by rfl) B.isi (by decide +kernel) (pa_cons (pv 0) (pa_cons (pe_bltn (v := .ty "bool") (by rfl) B.bool (by decide +kernel) rfl) pa_nil))))))), ?_⟩
    refine ⟨.int i, rfl, _, _, .type "int", .type "int", true, rfl, .ty _, .base (.int i), kit_ty (by decide +kernel), true, rfl, ?_⟩
    refine iteT ?_
    refine ⟨.int i, rfl, _, _, .type "int", .type "bool", false, rfl, .ty _, .base (.int i), kit_ty (by decide +kernel), false, rfl, ?_⟩
    exact q

/-! is_in -/
theorem scIsIn : FnScope ["value", "least", "most"] ["value", "least", "most"] (defScope sIsIn) := ⟨rfl, rfl, rfl, by decide +kernel, rfl, by decide +kernel, by decide +kernel⟩
def spIsIn : Sp := fun vs H Q _ => ∃ i l m : Int, vs = [.int i, .int l, .int m] ∧ l ≤ i ∧ i ≤ m ∧ Q (.bl true) H
theorem ok_isIn {f : Addr} {fd : FuncData} (F : Fun K "is_in" "is_in" sIsIn f fd) (C : Cal P w K mg base "is_int" 1 ["value"] spIsInt) : FnOk P w K mg base CX0 2 f fd ["value", "least", "most"] spIsIn := by
  obtain ⟨f1, fd1, G1, g1, k1, b1⟩ := C
  refine F.ok scIsIn (fun vs H Q E h => ?_) (fun cdv A outer s H vs Q E hr h => ?_)
  · obtain ⟨i, l, m, rfl, _⟩ := h
    rfl
  · obtain ⟨i, l, m, rfl, h1, h2, q⟩ := h
    refine ⟨_, pss_one (ps_ret (pe_and (pe_call G1 hr (by rfl) g1 k1 b1 .nil pass0 (pa_cons (pv 0) pa_nil))
      (pe_one (pe_chain op_le op_le (pv 1) (pv 0) (pv 2))))), ?_⟩
    refine ⟨.int i, rfl, i, rfl, true, rfl, iteT ?_⟩
    refine ⟨.int l, rfl, .int i, rfl, l, i, rfl, rfl, true, ?_, iteT ⟨.int m, rfl, i, m, rfl, rfl, ?_⟩⟩
    · show V.bl (decide (l ≤ i)) = V.bl true
      rw [decide_eq_true h1]
    · show Q (V.bl (decide (i ≤ m))) H
      rw [decide_eq_true h2]
      exact q

/-! is_rising -/
theorem cut1 (xs : List V) : cutV xs (some 1) none = xs.drop 1 := by
  unfold cutV
  rw [show HT.sIx xs.length 0 (some 1) = min 1 xs.length from HT.sIx_nat xs.length 0 1, HT.sIx_none]
  cases xs with
  | nil => rfl
  | cons x r =>
    rw [show min 1 (x :: r).length = 1 by
      rw [List.length_cons]
      omega]
    show List.take ((x :: r).length - 1) r = r
    rw [List.length_cons, Nat.add_sub_cancel]
    exact List.take_length
theorem notWhole {xs : List V} (h : 0 < xs.length) : ¬ (HT.sIx xs.length 0 (some 1) = 0 ∧ HT.sIx xs.length xs.length none = xs.length) := by
  rw [show HT.sIx xs.length 0 (some 1) = min 1 xs.length from HT.sIx_nat xs.length 0 1]
  omega
/-- two things of which the first is less: numbers, or tuples of numbers -/
def LtV (K : PySem.W.Frag) (H : Hp) (x y : V) : Prop := (∃ i j : Int, x = .int i ∧ y = .int j ∧ i < j) ∨ ∃ a b ns ms, x = .ref a ∧ y = .ref b ∧ SqT K H a (ns.map V.int) ∧ SqT K H b (ms.map V.int) ∧ HT.lexLt ns ms = true
theorem LtV.same {H H' : Hp} {x y : V} (h : LtV K H x y) (s : Same H H') : LtV K H' x y := by
  rcases h with h | ⟨a, b, ns, ms, h1, h2, h3, h4, h5⟩
  · exact .inl h
  · exact .inr ⟨a, b, ns, ms, h1, h2, seqT s h3, seqT s h4, h5⟩
theorem scRising : FnScope ["value", "one", "other"] ["value"] (defScope sRising) := ⟨rfl, rfl, rfl, by decide +kernel, rfl, by decide +kernel, by decide +kernel⟩
def spRising (K : PySem.W.Frag) : Sp := fun vs H Q _ => ∃ (a : Addr) (xs : List V), vs = [.ref a] ∧ SqT K H a xs ∧ 0 < xs.length ∧ xs.length ≤ 1000 ∧ (∀ i x y, xs[i]? = some x → xs[i + 1]? = some y → LtV K H x y) ∧ ∀ H', Same H H' → Q (.bl true) H'
theorem ok_rising {f : Addr} {fd : FuncData} (F : Fun K "is_rising" "is_rising" sRising f fd) (B : Blt mg) : FnOk P w K mg base CX0 1 f fd ["value"] (spRising K) := by
  refine F.ok scRising (fun vs H Q E h => ?_) (fun cdv A outer s H vs Q E hr h => ?_)
  · obtain ⟨a, xs, rfl, _⟩ := h
    rfl
  · obtain ⟨a, xs, rfl, hS, hpos, hlen, hlt, q⟩ := h
    refine ⟨_, pss_one (ps_ret (pe_callB (cr_all rfl) (by rfl) B.all (by decide +kernel) (pa_cons
      (pe_lc (own := [("one", 1), ("other", 2)]) (tt := tYes) rfl scRising.nd
        (RZ.pi_zipA (by rfl) B.zip (pa_cons (pv 0) (pa_cons (pe_slice sl_tup (pv 0) (po_some pe_int) po_none) pa_nil)))
        (blkOk_by (N := ["value", "one", "other"]) (sc := defScope sRising) (by decide +kernel))
        (fun _ _ _ _ _ => pg_tupK (K := K) (n := 2) rfl rfl (pgs_cons (pg_name (i := 1) scRising.nd rfl (.inl rfl) (.inr rfl)) (pgs_cons (pg_name (i := 2) scRising.nd rfl (.inl rfl) (.inr rfl)) pgs_nil)))
        (fun _ _ _ _ _ => pts_nil)
        (fun _ _ _ _ _ => pe_cmpR (op_lt.or (op_ltTK (K := K) rfl hr.units0)) (pv 1) (pv 2) (nomark _))) pa_nil))), ?_⟩
    refine ⟨.ref a, rfl, .ref a, rfl, 1, rfl, a, xs, rfl, hS, notWhole hpos, fun c nc => ?_⟩
    have s1 : Same H (upd H c (.tup (cutV xs (some 1) none))) := sameU nc
    refine ⟨a, c, xs, _, rfl, .inr ⟨seqT s1 hS, .inl (.inl upd_same), fun D nD => ?_⟩⟩
    have s2 : Same (upd H c (.tup (cutV xs (some 1) none))) (upd (upd H c (.tup (cutV xs (some 1) none))) D (.lst [])) := sameU nD
    have hcut : (cutV xs (some 1) none).length = xs.length - 1 := by
      rw [cut1, List.length_drop]
    have hDH : H D = none := s1.free nD
    refine lc_it (walk_zipT (n := xs.length - 1) (by rw [hcut]; omega)) (fun i H' => Same (upd H c (.tup (cutV xs (some 1) none))) H' ∧ H' D = some (.lst (List.replicate i (V.bl true)))) ⟨s2, upd_same⟩
      (fun i H' _ p => ⟨seqT (s1.trans p.1) hS, seqT p.1 (.inl (.inl upd_same))⟩) (fun i x H3 H4 hi p y => ?_) (fun H' p => ?_)
    · obtain ⟨T, u, v, rfl, nT, rfl, hu, hv⟩ := y
      have s3 : Same H3 (upd H3 T (.tup [u, v])) := sameU nT
      refine ⟨T, [u, v], rfl, .inl (.inl upd_same), rfl, u, [v], rfl, v, [], rfl, rfl, rfl, ?_⟩
      dsimp only [tYes]
      rw [if_pos rfl]
      refine ⟨u, rfl, v, rfl, ?_⟩
      have e : (cutV xs (some 1) none)[i]? = xs[i + 1]? := by
        rw [cut1, List.getElem?_drop, Nat.add_comm]
      have hv : (cutV xs (some 1) none)[i]? = some v := hv
      rw [e] at hv
      have fin : ∃ acc, (upd H3 T (.tup [u, v])) D = some (.lst acc) ∧ acc.length < sizeLine ∧ (Same (upd H c (.tup (cutV xs (some 1) none))) (upd (upd H3 T (.tup [u, v])) D (.lst (acc ++ [V.bl true]))) ∧ (upd (upd H3 T (.tup [u, v])) D (.lst (acc ++ [V.bl true]))) D = some (.lst (List.replicate (i + 1) (V.bl true)))) := by
        refine ⟨List.replicate i (V.bl true), s3 _ _ p.2, ?_, ?_, ?_⟩
        · rw [List.length_replicate]
          exact small1000 (by omega)
        · exact sameU2 (p.1.trans s3) nD
        · rw [upd_same, List.replicate_succ']
      rcases (hlt i u v hu hv).same ((s1.trans p.1).trans s3) with ⟨k, l, rfl, rfl, hkl⟩ | ⟨b1, b2, ns, ms, rfl, rfl, h1, h2, h3⟩
      · refine .inl ⟨k, l, rfl, rfl, ?_⟩
        dsimp only
        rw [decide_eq_true hkl]
        exact fin
      · refine .inr ⟨b1, b2, ns, ms, rfl, rfl, h1, h2, ?_⟩
        rw [h3]
        exact fin
    · refine ⟨D, List.replicate (xs.length - 1) true, rfl, ?_, ?_⟩
      · rw [List.map_replicate]
        exact .inl (.inl p.2)
      · have e : (List.replicate (xs.length - 1) true).all id = true := by
          rw [List.all_eq_true]
          intro x hx
          exact (List.mem_replicate.mp hx).2
        rw [e]
        exact q _ (s1.trans p.1)
end
end Sb

/-! SbB -/
namespace Sb
open PySem PySem.Spec PyProof.Rows L2 SB
section
variable {P : Program} {w : World} {K : PySem.W.Frag} {mg : Str → Option Value} {base : Heap}

/-! is_bag -/
theorem scIsBag : FnScope ["value", "bead"] ["value"] (defScope sIsBag) := ⟨rfl, rfl, rfl, by decide +kernel, rfl, by decide +kernel, by decide +kernel⟩
def spIsBag (K : PySem.W.Frag) : Sp := fun vs H Q _ => ∃ (v : V) (b : Bag), vs = [v] ∧ IsB K H v b ∧ 2 ≤ b.length ∧ b.length ≤ 1000 ∧ b.Pairwise (· < ·) ∧ (∀ x ∈ b, x < 60) ∧ ∀ H', Same H H' → Q (.bl true) H'
theorem ok_isBag {f : Addr} {fd : FuncData} {tk : Tok} (F : Fun K "is_bag" "is_bag" sIsBag f fd) (B : Blt mg) (gM : mg "MOST_BEADS" = some (.int 60 tk)) (C1 : Cal P w K mg base "is_in" 2 ["value", "least", "most"] spIsIn) (C2 : Cal P w K mg base "is_rising" 1 ["value"] (spRising K)) : FnOk P w K mg base CX0 3 f fd ["value"] (spIsBag K) := by
  obtain ⟨f1, fd1, G1, g1, k1, b1⟩ := C1
  obtain ⟨f2, fd2, G2, g2, k2, b2⟩ := C2
  refine F.ok scIsBag (fun vs H Q E h => ?_) (fun cdv A outer s H vs Q E hr h => ?_)
  · obtain ⟨v, b, rfl, _⟩ := h
    rfl
  · obtain ⟨v, b, rfl, ⟨a, rfl, hS⟩, h2, hm, hasc, hlt, q⟩ := h
    refine ⟨_, pss_cons (ps_if (PW.pt (pw_or (pt_not (pt_val (pe_callB call_isi (by rfl) B.isi (by decide +kernel) (pa_cons (pv 0) (pa_cons (pe_bltn (v := .ty "tuple") (by rfl) B.tuple (by decide +kernel) rfl) pa_nil)))))
        (pw_or1 (pt_cmpR op_lt (pe_callB call_len_seq (by rfl) B.len PySem.boot_len (pa_cons (pv 0) pa_nil)) pe_int (nomark _))))) pss_never pss_nil)
      (pss_one (ps_ret (pe_and (pe_callB (cr_all rfl) (by rfl) B.all (by decide +kernel) (pa_cons
        (pe_lc (own := [("bead", 1)]) (g := gName 1) (tt := tYes) rfl scIsBag.nd (pi_tup (pv 0))
          (blkOk_by (N := ["value", "bead"]) (sc := defScope sIsBag) (by decide +kernel))
          (fun _ _ _ _ _ => pg_name (i := 1) scIsBag.nd rfl (.inl rfl) (.inr rfl))
          (fun _ _ _ _ _ => pts_nil)
          (fun _ _ _ _ _ => pe_call G1 hr (by rfl) g1 k1 b1 .nil pass0 (pa_cons (pv 1) (pa_cons pe_int (pa_cons (pe_op op_sub (pe_glob (v := .int 60) (by rfl) gM ⟨_, rfl⟩) pe_int) pa_nil))))) pa_nil))
        (pe_one (pe_call G2 (hr.mono (by decide)) (by rfl) g2 k2 b2 .nil pass0 (pa_cons (pv 0) pa_nil)))))), ?_⟩
    -- the tests
    refine ⟨.ref a, rfl, _, _, .type "tuple", .type "tuple", true, rfl, .ty _, ty_tup hS, kit_ty (by decide +kernel), true, rfl, ?_⟩
    refine iteF ?_
    refine ⟨.ref a, rfl, a, iv b, rfl, .inr hS, ?_⟩
    refine ⟨_, _, rfl, rfl, false, ?_, iteF ?_⟩
    · dsimp only
      rw [iv_len, decide_eq_false (by omega)]
    -- all
    refine ⟨.ref a, rfl, a, rfl, ⟨_, hS⟩, fun D nD => ?_⟩
    have s1 : Same H (upd H D (.lst [])) := sameU nD
    refine lc_it walk_tup (fun i H' => Same H H' ∧ H' D = some (.lst (List.replicate i (V.bl true)))) ⟨s1, upd_same⟩ (fun i H' _ p => seqT p.1 hS) (fun i x H3 H4 hi p y => ?_) (fun H' p => ?_)
    · obtain ⟨rfl, hx⟩ := y
      obtain ⟨n, hn, rfl⟩ := iv_get hx
      dsimp only [tYes]
      refine ⟨rfl, ?_⟩
      rw [if_pos rfl]
      have hn60 := hlt n (List.mem_of_getElem? hn)
      refine ⟨_, rfl, 60, 1, rfl, rfl, (n : Int), 0, _, rfl, Int.natCast_nonneg _, by omega, ?_⟩
      rw [iv_len] at hi
      refine ⟨List.replicate i (V.bl true), p.2, ?_, sameU2 p.1 nD, ?_⟩
      · rw [List.length_replicate]
        exact small1000 (by omega)
      · rw [upd_same, List.replicate_succ']
    · refine ⟨D, List.replicate (iv b).length true, rfl, ?_, ?_⟩
      · rw [List.map_replicate]
        exact .inl (.inl p.2)
      · refine ⟨true, ?_, iteT ?_⟩
        · have e : (List.replicate (iv b).length true).all id = true := by
            rw [List.all_eq_true]
            intro x hx
            exact (List.mem_replicate.mp hx).2
          rw [e]
        · refine ⟨.ref a, rfl, a, iv b, rfl, seqT p.1 hS, by rw [iv_len]; omega, by rw [iv_len]; omega, fun i x y hx hy => ?_, fun H'' s2 => q _ (p.1.trans s2)⟩
          obtain ⟨n, hn, rfl⟩ := iv_get hx
          obtain ⟨m, hm, rfl⟩ := iv_get hy
          refine .inl ⟨n, m, rfl, rfl, ?_⟩
          rw [List.pairwise_iff_getElem] at hasc
          obtain ⟨z1, e1⟩ := List.getElem?_eq_some_iff.mp hn
          obtain ⟨z2, e2⟩ := List.getElem?_eq_some_iff.mp hm
          have := hasc i (i + 1) z1 z2 (by omega)
          omega

/-! need_bags -/
structure Bags (F : List Bag) : Prop where
  some : 0 < F.length
  few : F.length ≤ 1000
  big : ∀ B ∈ F, 2 ≤ B.length
  short : ∀ B ∈ F, B.length ≤ 1000
  asc : ∀ B ∈ F, B.Pairwise (· < ·)
  lt : ∀ B ∈ F, ∀ x ∈ B, x < 60
  rise : F.Pairwise (· < ·)
theorem scNeedBags : FnScope ["value", "bag"] ["value"] (defScope sNeedBags) := ⟨rfl, rfl, rfl, by decide +kernel, rfl, by decide +kernel, by decide +kernel⟩
def spNeedBags (K : PySem.W.Frag) : Sp := fun vs H Q _ => ∃ (v : V) (F : List Bag), vs = [v] ∧ IsF K H v F ∧ Bags F ∧ ∀ H', Same H H' → Q .non H'
theorem ok_needBags {f : Addr} {fd : FuncData} (F : Fun K "need_bags" "need_bags" sNeedBags f fd) (B : Blt mg) (C1 : Cal P w K mg base "is_bag" 3 ["value"] (spIsBag K)) (C2 : Cal P w K mg base "is_rising" 1 ["value"] (spRising K)) : FnOk P w K mg base CX0 4 f fd ["value"] (spNeedBags K) := by
  obtain ⟨f1, fd1, G1, g1, k1, b1⟩ := C1
  obtain ⟨f2, fd2, G2, g2, k2, b2⟩ := C2
  refine F.ok scNeedBags (fun vs H Q E h => ?_) (fun cdv A outer s H vs Q E hr h => ?_)
  · obtain ⟨v, b, rfl, _⟩ := h
    rfl
  · obtain ⟨v, Fm, rfl, ⟨a, xs, rfl, hS, hP⟩, hB, q⟩ := h
    refine ⟨_, pss_cons (ps_if (PW.pt (pw_or (pt_not (pt_val (pe_callB call_isi (by rfl) B.isi (by decide +kernel) (pa_cons (pv 0) (pa_cons (pe_bltn (v := .ty "tuple") (by rfl) B.tuple (by decide +kernel) rfl) pa_nil)))))
        (pw_or (pt_cmpR (op_eqD hr.units) (pv 0) (pe_tup pa_nil) (nomark _))
          (pw_or1 (pt_not (pt_val (pe_callB (cr_all rfl) (by rfl) B.all (by decide +kernel) (pa_cons
            (pe_lc (own := [("bag", 1)]) (g := gName 1) (tt := tYes) rfl scNeedBags.nd (pi_tup (pv 0))
              (blkOk_by (N := ["value", "bag"]) (sc := defScope sNeedBags) (by decide +kernel))
              (fun _ _ _ _ _ => pg_name (i := 1) scNeedBags.nd rfl (.inl rfl) (.inr rfl))
              (fun _ _ _ _ _ => pts_nil)
              (fun _ _ _ _ _ => pe_call G1 hr (by rfl) g1 k1 b1 .nil pass0 (pa_cons (pv 1) pa_nil))) pa_nil)))))))) pss_never pss_nil)
      (pss_one (ps_if (pt_not (pt_val (pe_call G2 (hr.mono (by decide)) (by rfl) g2 k2 b2 .nil pass0 (pa_cons (pv 0) pa_nil)))) pss_never pss_nil)), ?_⟩
    have hlen : xs.length = Fm.length := pr_len hP
    refine ⟨.ref a, rfl, _, _, .type "tuple", .type "tuple", true, rfl, .ty _, ty_tup hS, kit_ty (by decide +kernel), true, rfl, ?_⟩
    refine iteF ?_
    refine ⟨.ref a, rfl, by decide, fun p np => ?_⟩
    have s1 : Same H (upd H p (.tup [])) := sameU np
    refine ⟨dF Fm, .tuple [], IsF.dp ⟨a, xs, rfl, seqT s1 hS, pB_same hP s1⟩, .tup (.inl (.inl upd_same)) .nil, shaped_dF Fm, shaped_nilT, false, ?_, iteF ?_⟩
    · unfold dF
      rw [eqv_nilT]
      have := hB.some
      cases Fm with
      | nil => simp at this
      | cons x r => rfl
    refine ⟨.ref a, rfl, a, rfl, ⟨_, seqT s1 hS⟩, fun D nD => ?_⟩
    have nD' : H D = none := s1.free nD
    have s2 : Same H (upd (upd H p (.tup [])) D (.lst [])) := s1.trans (sameU nD)
    refine lc_it walk_tup (fun i H' => Same H H' ∧ H' D = some (.lst (List.replicate i (V.bl true)))) ⟨s2, upd_same⟩ (fun i H' _ p => seqT p.1 hS) (fun i x H3 H4 hi p y => ?_) (fun H' p => ?_)
    · obtain ⟨rfl, hx⟩ := y
      obtain ⟨b, hb, hb2⟩ := pr_get hP hx
      have hbm := List.mem_of_getElem? hb
      dsimp only [tYes]
      refine ⟨rfl, ?_⟩
      rw [if_pos rfl]
      refine ⟨_, rfl, x, b, rfl, hb2.same p.1, hB.big b hbm, hB.short b hbm, hB.asc b hbm, hB.lt b hbm, fun H5 s5 => ?_⟩
      have := hB.few
      refine ⟨List.replicate i (V.bl true), s5 _ _ p.2, ?_, sameU2 (p.1.trans s5) nD', ?_⟩
      · rw [List.length_replicate]
        exact small1000 (by omega)
      · rw [upd_same, List.replicate_succ']
    · refine ⟨D, List.replicate xs.length true, rfl, ?_, ?_⟩
      · rw [List.map_replicate]
        exact .inl (.inl p.2)
      · refine ⟨true, ?_, iteF ?_⟩
        · have e : (List.replicate xs.length true).all id = true := by
            rw [List.all_eq_true]
            intro x hx
            exact (List.mem_replicate.mp hx).2
          rw [e]
        · have := hB.some
          have := hB.few
          refine ⟨.ref a, rfl, a, xs, rfl, seqT p.1 hS, by omega, by omega, fun i x y hx hy => ?_, fun H'' s2 => ⟨true, rfl, iteF (q _ (p.1.trans s2))⟩⟩
          obtain ⟨b, hb, ⟨a1, rfl, h1⟩⟩ := pr_get hP hx
          obtain ⟨c, hc, ⟨a2, rfl, h2⟩⟩ := pr_get hP hy
          have hr2 := hB.rise
          rw [List.pairwise_iff_getElem] at hr2
          obtain ⟨z1, e1⟩ := List.getElem?_eq_some_iff.mp hb
          obtain ⟨z2, e2⟩ := List.getElem?_eq_some_iff.mp hc
          have hbc := hr2 i (i + 1) z1 z2 (by omega)
          rw [e1, e2] at hbc
          exact .inr ⟨a1, a2, _, _, rfl, rfl, seqT p.1 h1, seqT p.1 h2, lexLt_ints b c hbc⟩
end
end Sb

/-! SbC -/
namespace Sb
open PySem PySem.Spec PyProof.Rows L2 SB

theorem fam_some {n : Nat} {F : List Bag} (h : Fam n F) : 0 < F.length := by
  have hf := h.tree.few
  obtain ⟨B, hB, _⟩ := h.tree.all 0 (by omega)
  exact List.length_pos_of_mem hB
theorem fam_bags {n : Nat} {F : List Bag} (h : Fam n F) : Bags F := by
  have hf := h.tree.few
  have hm := h.most
  refine ⟨fam_some h, by omega, h.tree.big, fun B hB => ?_, h.asc, fun B hB x hx => ?_, h.rise⟩
  · have := h.tree.short hB
    omega
  · have := h.tree.lt B hB x hx
    omega
theorem fam_pos {n : Nat} {F : List Bag} (h : Fam n F) : 2 ≤ n := by
  have := h.tree.few
  have := fam_some h
  omega

/-- the last bead of a bag -/
def lastB (b : Bag) : Nat := b.getLastD 0
theorem last_iv {b : Bag} (h : 0 < b.length) : atI (iv b) (-1) = some (.int (lastB b : Int)) := by
  have hne : b ≠ [] := fun e => by simp [e] at h
  have e : b = b.dropLast ++ [lastB b] := by
    unfold lastB
    rw [List.getLastD_eq_getLast?, List.getLast?_eq_getLast hne]
    exact (List.dropLast_concat_getLast hne).symm
  have e2 : iv b = iv b.dropLast ++ [.int (lastB b : Int)] := by
    rw [← show iv [lastB b] = [V.int (lastB b : Int)] from rfl, ← iv_append, ← e]
  rw [e2]
  exact atI_last _ _
theorem last_mem {b : Bag} (h : 0 < b.length) : lastB b ∈ b := by
  have hne : b ≠ [] := fun e => by simp [e] at h
  unfold lastB
  rw [List.getLastD_eq_getLast?, List.getLast?_eq_getLast hne]
  exact List.getLast_mem hne
theorem last_ge : ∀ {b : Bag}, b.Pairwise (· < ·) → ∀ x ∈ b, x ≤ lastB b
  | [], _, x, hx => by cases hx
  | [y], _, x, hx => by
    rw [List.mem_singleton.mp hx]
    exact Nat.le_refl _
  | y :: z :: r, h, x, hx => by
    have h2 := (List.pairwise_cons.mp h)
    have ih := last_ge h2.2
    have e : lastB (y :: z :: r) = lastB (z :: r) := rfl
    rw [e]
    rcases List.mem_cons.mp hx with q | q
    · rw [q]
      have := h2.1 z (List.mem_cons_self ..)
      have := ih z (List.mem_cons_self ..)
      omega
    · exact ih x q

/-- the dict of some numbers, each True -/
def kd (D : List Nat) : List (Key × V) := D.map fun (i : Nat) => ((Sum.inl (i : Int) : Key), V.bl true)
theorem kd_val (j : Nat) : ∀ D : List Nat, valV (kd D) (Sum.inl (j : Int)) = if j ∈ D then some (V.bl true) else none
  | [] => rfl
  | i :: D => by
    by_cases h : i = j
    · subst h
      rw [if_pos (List.mem_cons_self ..)]
      exact valV_pos rfl
    · have e : ¬ ((Sum.inl (i : Int) : Key)) = Sum.inl (j : Int) := fun z => h (Int.ofNat.inj (Sum.inl.inj z))
      show valV (((Sum.inl (i : Int) : Key), V.bl true) :: kd D) _ = _
      rw [valV_neg e, kd_val j D]
      have e2 : (j ∈ i :: D) ↔ j ∈ D := by
        rw [List.mem_cons]
        exact ⟨fun z => z.resolve_left fun q => h q.symm, .inr⟩
      by_cases q : j ∈ D
      · rw [if_pos q, if_pos (e2.mpr q)]
      · rw [if_neg q, if_neg fun z => q (e2.mp z)]
theorem kd_new {D : List Nat} {j : Nat} (h : j ∉ D) : putK (kd D) (Sum.inl (j : Int)) (V.bl true) = kd (D ++ [j]) := by
  rw [putK_new _ (by rw [kd_val, if_neg h])]
  unfold kd
  rw [List.map_append]
  rfl
theorem kd_old {D : List Nat} {j : Nat} (h : j ∈ D) : putK (kd D) (Sum.inl (j : Int)) (V.bl true) = kd D := by
  have e : (valV (kd D) (Sum.inl (j : Int))).isSome = true := by
    rw [kd_val, if_pos h]
    rfl
  unfold putK
  rw [valV_any, e, if_pos rfl]
  unfold kd
  rw [List.map_map]
  refine List.map_congr_left fun i _ => ?_
  show (if (Sum.inl (i : Int) : Key) = Sum.inl (j : Int) then ((Sum.inl (i : Int) : Key), V.bl true) else ((Sum.inl (i : Int) : Key), V.bl true)) = _
  by_cases q : (Sum.inl (i : Int) : Key) = Sum.inl (j : Int)
  · rw [if_pos q]
  · rw [if_neg q]
theorem kd_put (D : List Nat) (j : Nat) : putK (kd D) (Sum.inl (j : Int)) (V.bl true) = kd (if j ∈ D then D else D ++ [j]) := by
  by_cases h : j ∈ D
  · rw [if_pos h, kd_old h]
  · rw [if_neg h, kd_new h]
theorem kd_len (D : List Nat) : (kd D).length = D.length := by
  unfold kd
  rw [List.length_map]
/-- the numbers of a list, each once -/
structure Once (D l : List Nat) : Prop where
  nd : D.Nodup
  mem : ∀ x, x ∈ D ↔ x ∈ l
  len : D.length ≤ l.length
theorem once_nil : Once [] [] := ⟨List.nodup_nil, fun _ => Iff.rfl, Nat.le_refl _⟩
theorem Once.step {D l : List Nat} {j : Nat} (h : Once D l) : Once (if j ∈ D then D else D ++ [j]) (l ++ [j]) := by
  by_cases q : j ∈ D
  · rw [if_pos q]
    refine ⟨h.nd, fun x => ?_, ?_⟩
    · rw [h.mem, List.mem_append, List.mem_singleton]
      constructor
      · exact fun z => .inl z
      · rintro (z | z)
        · exact z
        · rw [z]
          exact (h.mem j).mp q
    · have := h.len
      rw [List.length_append]
      omega
  · rw [if_neg q]
    refine ⟨?_, fun x => ?_, ?_⟩
    · rw [List.nodup_append]
      refine ⟨h.nd, by simp, fun a ha b hb e => ?_⟩
      rw [List.mem_singleton.mp hb] at e
      exact q (e ▸ ha)
    · rw [List.mem_append, List.mem_append, h.mem]
    · have := h.len
      rw [List.length_append, List.length_append]
      simp
      omega

section
variable {P : Program} {w : World} {K : PySem.W.Frag} {mg : Str → Option Value} {base : Heap}

/-! size_of -/
theorem scSize : FnScope ["bags", "bag"] ["bags"] (defScope sSize) := ⟨rfl, rfl, rfl, by decide +kernel, rfl, by decide +kernel, by decide +kernel⟩
def spSize (K : PySem.W.Frag) : Sp := fun vs H Q _ => ∃ (v : V) (F : List Bag) (n : Nat), vs = [v] ∧ IsF K H v F ∧ Fam n F ∧ ∀ H', Same H H' → Q (.int (n : Int)) H'
theorem ok_size {f : Addr} {fd : FuncData} (F : Fun K "size_of" "size_of" sSize f fd) (B : Blt mg) : FnOk P w K mg base CX0 1 f fd ["bags"] (spSize K) := by
  refine F.ok scSize (fun vs H Q E h => ?_) (fun cdv A outer s H vs Q E hr h => ?_)
  · obtain ⟨v, b, n, rfl, _⟩ := h
    rfl
  · obtain ⟨v, Fm, n, rfl, ⟨a, xs, rfl, hS, hP⟩, hF, q⟩ := h
    refine ⟨_, pss_one (ps_ret (pe_op op_add pe_int (pe_callB (cr_max rfl) (by rfl) B.max (by decide +kernel) (pa_cons
      (pe_lc (own := [("bag", 1)]) (g := gName 1) (tt := tYes) rfl scSize.nd (pi_tup (pv 0))
        (blkOk_by (N := ["bags", "bag"]) (sc := defScope sSize) (by decide +kernel))
        (fun _ _ _ _ _ => pg_name (i := 1) scSize.nd rfl (.inl rfl) (.inr rfl))
        (fun _ _ _ _ _ => pts_nil)
        (fun _ _ _ _ _ => pe_ix (ix_tupK (K := K) rfl) (pv 1) (pe_un un_neg pe_int) (fun _ _ => rfl))) pa_nil)))), ?_⟩
    have hB := fam_bags hF
    have hlen : xs.length = Fm.length := pr_len hP
    refine ⟨.ref a, rfl, a, rfl, ⟨_, hS⟩, fun D nD => ?_⟩
    have s1 : Same H (upd H D (.lst [])) := sameU nD
    refine lc_it walk_tup (fun i H' => Same H H' ∧ H' D = some (.lst (iv ((Fm.take i).map lastB)))) ⟨s1, upd_same⟩ (fun i H' _ p => seqT p.1 hS) (fun i x H3 H4 hi p y => ?_) (fun H' p => ?_)
    · obtain ⟨rfl, hx⟩ := y
      obtain ⟨b, hb, ⟨a1, rfl, h1⟩⟩ := pr_get hP hx
      have hbm := List.mem_of_getElem? hb
      have hb2 := hB.big b hbm
      dsimp only [tYes]
      refine ⟨rfl, ?_⟩
      rw [if_pos rfl]
      refine ⟨_, rfl, 1, rfl, a1, iv b, -1, _, rfl, rfl, seqT p.1 h1, last_iv (by omega), ?_⟩
      have := hB.few
      refine ⟨_, p.2, ?_, sameU2 p.1 nD, ?_⟩
      · rw [iv_len, List.length_map, List.length_take]
        exact small1000 (by omega)
      · rw [upd_same, List.take_add_one, hb]
        simp [iv]
    · refine ⟨D, (Fm.map lastB).map Int.ofNat, rfl, ?_, ?_, fun m hm hle => ?_⟩
      · have e := p.2
        rw [List.take_of_length_le (by omega)] at e
        exact .inl (.inl e)
      · rw [List.length_map, List.length_map]
        exact hB.some
      · have hn := fam_pos hF
        have e : m = ((n - 1 : Nat) : Int) := by
          obtain ⟨l, hl, rfl⟩ := List.mem_map.mp hm
          obtain ⟨b, hb, rfl⟩ := List.mem_map.mp hl
          have h1 : lastB b < n := hF.tree.lt b hb _ (last_mem (by have := hB.big b hb; omega))
          obtain ⟨c, hc, hc2⟩ := hF.tree.all (n - 1) (by omega)
          have h2 := last_ge (hF.asc c hc) _ hc2
          have h3 := hle (Int.ofNat (lastB c)) (List.mem_map.mpr ⟨_, List.mem_map.mpr ⟨c, hc, rfl⟩, rfl⟩)
          have h4 : lastB c ≤ lastB b := Int.ofNat_le.mp h3
          have : lastB b = n - 1 := by omega
          rw [this]
          rfl
        refine ⟨1, _, rfl, rfl, ?_⟩
        have e2 : (1 : Int) + m = (n : Int) := by omega
        show Q (.int (1 + m)) _
        rw [e2]
        exact q _ p.1

/-! shared_by -/
theorem scShared : FnScope ["one", "other", "told", "bead"] ["one", "other"] (defScope sShared) := ⟨rfl, rfl, rfl, by decide +kernel, rfl, by decide +kernel, by decide +kernel⟩
def meet (A B : Bag) : Bag := A.filter fun x => decide (x ∈ B)
def spShared (K : PySem.W.Frag) : Sp := fun vs H Q _ => ∃ (u v : V) (A B : Bag), vs = [u, v] ∧ IsB K H u A ∧ IsB K H v B ∧ A.length ≤ 1000 ∧ B.length ≤ 1000 ∧
  ∀ p H', Same H H' → H p = none → H' p = some (.lst (iv (meet A B))) → Q (.ref p) H'
theorem ok_shared {f : Addr} {fd : FuncData} (F : Fun K "shared_by" "shared_by" sShared f fd) : FnOk P w K mg base CX0 1 f fd ["one", "other"] (spShared K) := by
  refine F.ok scShared (fun vs H Q E h => ?_) (fun cdv A outer s H vs Q E hr h => ?_)
  · obtain ⟨u, v, A, B, rfl, _⟩ := h
    rfl
  · obtain ⟨u, v, A, B, rfl, ⟨a, rfl, hA⟩, ⟨b, rfl, hB⟩, lA, lB, q⟩ := h
    refine ⟨_, pss_cons (ps_set (i := 2) scShared.nd rfl (.inr rfl) (pe_dc (own := [("bead", 3)]) (g := gName 3) (tt := tYes) rfl scShared.nd (pi_tup (pv 1))
        (blkOk_by (N := ["one", "other", "told", "bead"]) (sc := defScope sShared) (by decide +kernel))
        (fun _ _ _ _ _ => pg_name (i := 3) scShared.nd rfl (.inl rfl) (.inr rfl))
        (fun _ _ _ _ _ => pts_nil) (fun _ _ _ _ _ => pv 3) (fun _ _ _ _ _ => pe_bl)))
      (pss_one (ps_ret (pe_lc (own := [("bead", 3)]) (g := gName 3) rfl scShared.nd (pi_tup (pv 0))
        (blkOk_by (N := ["one", "other", "told", "bead"]) (sc := defScope sShared) (by decide +kernel))
        (fun _ _ _ _ _ => pg_name (i := 3) scShared.nd rfl (.inl rfl) (.inr rfl))
        (fun _ _ _ _ _ => pts_one (pt_cmp (pc_din (hu_of hr) (pv 3) (pv 2)))) (fun _ _ _ _ _ => pv 3)))), ?_⟩
    refine ⟨.ref b, rfl, b, rfl, ⟨_, hB⟩, fun D nD => ?_⟩
    have s1 : Same H (upd H D (.dK [])) := sameU nD
    refine dc_tup (K := K) (xs := iv B) (fun i H' => Same H H' ∧ ∃ D0, H' D = some (.dK (kd D0)) ∧ Once D0 (B.take i)) ⟨s1, [], upd_same, once_nil⟩ (fun i H' _ p => seqT p.1 hB) (fun i x H3 hx p => ?_) (fun H' p => ?_)
    · obtain ⟨n, hn, rfl⟩ := iv_get hx
      obtain ⟨p1, D0, p2, p3⟩ := p
      dsimp only [tYes]
      refine ⟨rfl, ?_⟩
      rw [if_pos rfl]
      refine ⟨_, rfl, kd D0, Sum.inl (n : Int), rfl, p2, ?_, sameU2 p1 nD, if n ∈ D0 then D0 else D0 ++ [n], ?_, ?_⟩
      · rw [kd_len]
        have := p3.len
        rw [List.length_take] at this
        exact small1000 (by omega)
      · rw [upd_same, kd_put]
      · rw [List.take_add_one, hn]
        exact p3.step
    · obtain ⟨p1, D0, p2, p3⟩ := p
      rw [iv_len, List.take_length] at p3
      refine ⟨.ref a, rfl, a, rfl, ⟨_, seqT p1 hA⟩, fun L nL => ?_⟩
      have nL' : H L = none := p1.free nL
      have s2 : Same H' (upd H' L (.lst [])) := sameU nL
      refine lc_it walk_tup (fun i H2 => Same H' H2 ∧ H2 L = some (.lst (iv (meet (A.take i) B)))) ⟨s2, upd_same⟩ (fun i H2 _ p => seqT (p1.trans p.1) hA) (fun i x H3 H4 hi p y => ?_) (fun H2 p => ?_)
      · obtain ⟨rfl, hx⟩ := y
        obtain ⟨n, hn, rfl⟩ := iv_get hx
        rw [iv_len] at hi
        have e : (A.take (i + 1)) = A.take i ++ [n] := by
          rw [List.take_add_one, hn]
          rfl
        refine ⟨rfl, _, rfl, .ref D, rfl, D, _, rfl, DGet.k (k := Sum.inl (n : Int)) (p.1 _ _ p2), _, rfl, ?_⟩
        rw [kd_val]
        by_cases hm : n ∈ B
        · rw [if_pos ((p3.mem n).mpr hm)]
          refine iteT ⟨_, rfl, _, p.2, ?_, sameU2 p.1 nL, ?_⟩
          · rw [iv_len]
            have h1 : (meet (A.take i) B).length ≤ (A.take i).length := List.length_filter_le _ _
            rw [List.length_take] at h1
            exact small1000 (by omega)
          · rw [upd_same, e]
            unfold meet
            rw [List.filter_append]
            simp [hm, iv]
        · rw [if_neg fun z => hm ((p3.mem n).mp z)]
          refine iteF ⟨p.1, ?_⟩
          rw [p.2, e]
          unfold meet
          rw [List.filter_append]
          simp [hm, iv]
      · have e := p.2
        rw [iv_len, List.take_length] at e
        exact q _ _ (p1.trans p.1) nL' e
end
end Sb

/-! SbD -/
namespace Sb
open PySem PySem.Spec PyProof.Rows L2 SB

/-- the bags below i that hold a bead -/
def hom (F : List Bag) (i b : Nat) : List Nat := (List.range i).filter fun k => decide (b ∈ bagAt F k)
theorem hom_all (F : List Bag) (b : Nat) : hom F F.length b = homesAt F b := rfl
theorem hom_len (F : List Bag) (i b : Nat) : (hom F i b).length ≤ i := by
  have h := List.length_filter_le (fun k => decide (b ∈ bagAt F k)) (List.range i)
  rw [List.length_range] at h
  exact h
theorem hom_succ (F : List Bag) (i b : Nat) : hom F (i + 1) b = hom F i b ++ (if b ∈ bagAt F i then [i] else []) := by
  unfold hom
  rw [List.range_succ, List.filter_append]
  congr 1
  by_cases h : b ∈ bagAt F i
  · rw [if_pos h]
    simp [h]
  · rw [if_neg h]
    simp [h]
/-- a list of lists of numbers, new against H0 -/
structure HomeS (H0 : Hp) (D : Addr) (rs : List Addr) (f : Nat → List Nat) (H' : Hp) : Prop where
  same : Same H0 H'
  top : H' D = some (.lst (rs.map V.ref))
  at' : ∀ b r, rs[b]? = some r → H' r = some (.lst (iv (f b)))
theorem HomeS.mono {H0 H' H2 : Hp} {D : Addr} {rs : List Addr} {f : Nat → List Nat} (h : HomeS H0 D rs f H') (s : Same H' H2) : HomeS H0 D rs f H2 :=
  ⟨h.same.trans s, s _ _ h.top, fun b r e => s _ _ (h.at' b r e)⟩
theorem HomeS.congr {H0 H' : Hp} {D : Addr} {rs : List Addr} {f g : Nat → List Nat} (h : HomeS H0 D rs f H') (e : ∀ b, f b = g b) : HomeS H0 D rs g H' :=
  ⟨h.same, h.top, fun b r q => by rw [← e]; exact h.at' b r q⟩
theorem HomeS.app {H0 H' : Hp} {D : Addr} {rs : List Addr} {f : Nat → List Nat} (h : HomeS H0 D rs f H') (nd : rs.Nodup) (nD : D ∉ rs) {x i : Nat} {r : Addr} (hr : rs[x]? = some r) (n0 : H0 r = none) :
    HomeS H0 D rs (fun b => if b = x then f b ++ [i] else f b) (upd H' r (.lst (iv (f x) ++ [.int (i : Int)]))) := by
  refine ⟨sameU2 h.same n0, ?_, fun b q e => ?_⟩
  · rw [upd_ne (show D ≠ r from fun z => nD (by rw [z]; exact List.mem_of_getElem? hr))]
    exact h.top
  · by_cases hb : b = x
    · subst hb
      have e2 : q = r := Option.some.inj (e.symm.trans hr)
      subst e2
      rw [upd_same, if_pos rfl, iv_append]
      rfl
    · have hq : q ≠ r := fun z => by
        subst z
        exact hb (nd_ix nd e hr)
      rw [upd_ne hq, if_neg hb]
      exact h.at' b q e

section
variable {P : Program} {w : World} {K : PySem.W.Frag} {mg : Str → Option Value} {base : Heap}

/-! homes_of -/
theorem scHomes : FnScope ["bags", "bead", "found", "index", "bag"] ["bags"] (defScope sHomes) := ⟨rfl, rfl, rfl, by decide +kernel, rfl, by decide +kernel, by decide +kernel⟩
def spHomes (K : PySem.W.Frag) : Sp := fun vs H Q _ => ∃ (v : V) (F : List Bag) (n : Nat), vs = [v] ∧ IsF K H v F ∧ Fam n F ∧
  ∀ (p : Addr) (rs : List Addr) (H' : Hp), Same H H' → H p = none → H' p = some (.lst (rs.map V.ref)) → rs.length = n → (∀ b r, rs[b]? = some r → H' r = some (.lst (iv (homesAt F b)))) → Q (.ref p) H'
theorem ok_homes {f : Addr} {fd : FuncData} (F : Fun K "homes_of" "homes_of" sHomes f fd) (B : Blt mg) (C1 : Cal P w K mg base "size_of" 1 ["bags"] (spSize K)) : FnOk P w K mg base CX0 2 f fd ["bags"] (spHomes K) := by
  obtain ⟨f1, fd1, G1, g1, k1, b1⟩ := C1
  refine F.ok scHomes (fun vs H Q E h => ?_) (fun cdv A outer s H vs Q E hr h => ?_)
  · obtain ⟨v, b, n, rfl, _⟩ := h
    rfl
  · obtain ⟨v, Fm, n, rfl, hIs, hF, q⟩ := h
    have hIs0 := hIs
    obtain ⟨a, xs, rfl, hS, hP⟩ := hIs
    have hB := fam_bags hF
    have hlen : xs.length = Fm.length := pr_len hP
    have hfew := hF.tree.few
    have hmost := hF.most
    refine ⟨_, pss_cons (ps_setLc (i := 2) (own := [("bead", 1)]) (g := gName 1) (tt := tYes) rfl scHomes.nd rfl rfl (sw_true rfl rfl rfl (by decide +kernel))
        (pi_range1 (by rfl) B.range (pa_cons (pe_call G1 hr (by rfl) g1 k1 b1 .nil pass0 (pa_cons (pv 0) pa_nil)) pa_nil))
        (blkOk_by (N := ["bags", "bead", "found", "index", "bag"]) (sc := defScope sHomes) (by decide +kernel))
        (fun _ _ _ _ _ => pg_name (i := 1) scHomes.nd rfl (.inl rfl) (.inr rfl)) (fun _ _ _ _ _ => pts_nil) (fun _ _ _ _ _ => pe_lst pa_nil))
      (pss_cons (ps_for PassesOwn.never rfl (pi_enumT (by rfl) B.enum (pa_cons (pv 0) pa_nil))
        (pg_tup rfl (pgs_cons (pg_name (i := 3) scHomes.nd rfl (.inl rfl)) (pgs_cons (pg_name (i := 4) scHomes.nd rfl (.inl rfl)) pgs_nil)))
        (pss_one (ps_for PassesOwn.never rfl (pi_tup (pv 4)) (pg_name (i := 1) scHomes.nd rfl (.inl rfl))
          (pss_one (ps_expr (pe_bm PySem.F.plainAttrs_list PySem.F.slot_list_append PySem.F.type_list_append mt_append (pe_ix ix_list (pv 2) (pv 1) (fun _ _ => rfl)) (pa_cons (pv 3) pa_nil)))))))
      (pss_one (ps_ret (pv 2)))), ?_⟩
    refine ⟨.ref a, rfl, _, Fm, n, rfl, hIs0, hF, fun H1 s1 => ?_⟩
    refine ⟨(n : Int), rfl, by omega, by omega, fun D nD => ?_⟩
    have s2 : Same H1 (upd H1 D (.lst [])) := sameU nD
    have nD0 : H D = none := s1.free nD
    refine lc_it walk_range (fun i H' => ∃ rs : List Addr, rs.length = i ∧ rs.Nodup ∧ D ∉ rs ∧ (∀ r ∈ rs, H1 r = none) ∧ HomeS H1 D rs (fun _ => []) H') ⟨[], rfl, List.nodup_nil, (by simp), (by simp), s2, upd_same, fun b r e => by simp at e⟩ (fun i H' _ p => True.intro) (fun i x H3 H4 hi p y => ?_) (fun H' p => ?_)
    · obtain ⟨rfl, rfl⟩ := y
      obtain ⟨rs, h1, h2, h3, h4, h5⟩ := p
      dsimp only [tYes]
      refine ⟨rfl, ?_⟩
      rw [if_pos rfl]
      refine ⟨by decide, fun r nr => ?_⟩
      have hrD : r ≠ D := fun z => by
        rw [z, h5.top] at nr
        cases nr
      have h6 := h5.mono (sameU (o := .lst []) nr)
      refine ⟨rs.map V.ref, h6.top, ?_, rs ++ [r], ?_, ?_, ?_, ?_, ?_⟩
      · rw [List.length_map]
        rw [Int.toNat_natCast] at hi
        exact small1000 (by omega)
      · rw [List.length_append, h1]
        rfl
      · rw [List.nodup_append]
        refine ⟨h2, by simp, fun b hb c hc e => ?_⟩
        rw [List.mem_singleton.mp hc] at e
        obtain ⟨j, hj⟩ := List.getElem?_of_mem hb
        have := h5.at' j b hj
        rw [e, nr] at this
        cases this
      · rw [List.mem_append, List.mem_singleton]
        rintro (z | z)
        · exact h3 z
        · exact hrD z.symm
      · intro c hc
        rcases List.mem_append.mp hc with z | z
        · exact h4 c z
        · rw [List.mem_singleton.mp z]
          exact h5.same.free nr
      · refine ⟨sameU2 h6.same nD, ?_, fun b c e => ?_⟩
        · rw [upd_same, List.map_append]
          rfl
        · have hcm := List.mem_of_getElem? e
          have hcD : c ≠ D := fun z => by
            subst z
            rcases List.mem_append.mp hcm with y | y
            · exact h3 y
            · exact hrD (List.mem_singleton.mp y).symm
          rw [upd_ne hcD]
          by_cases hb : b < rs.length
          · rw [List.getElem?_append_left hb] at e
            exact h6.at' b c e
          · rw [List.getElem?_append_right (by omega)] at e
            have e2 : c = r := by
              cases hz : b - rs.length with
              | zero =>
                rw [hz] at e
                simpa using e.symm
              | succ z =>
                rw [hz] at e
                simp at e
            rw [e2, upd_same]
            rfl
    · obtain ⟨rs, h1, h2, h3, h4, h5⟩ := p
      rw [Int.toNat_natCast] at h1
      have hS' : ∀ {H'}, Same H1 H' → SqT K H' a xs := fun s => seqT (s1.trans s) hS
      refine ⟨.ref a, rfl, a, xs, rfl, hS' h5.same, ?_⟩
      refine for_it walk_enumT (fun i σ H2 => ∃ y1 y3 y4, σ = [some (.ref a), y1, some (.ref D), y3, y4] ∧ HomeS H1 D rs (hom Fm i) H2) ⟨_, _, _, rfl, h5.congr fun b => by simp [hom]⟩ (fun i σ H2 _ p => by
        obtain ⟨_, _, _, _, p⟩ := p
        exact hS' p.same) (fun i x σ H3 H4 hi p y => ?_) (fun σ H2 p => ?_)
      · obtain ⟨y1, y3, y4, rfl, p⟩ := p
        obtain ⟨T, u, v, rfl, nT, rfl, hu, hv⟩ := y
        have hu : u = .int (i : Int) := (Option.some.inj hu).symm
        subst hu
        obtain ⟨bag, hb, ⟨a1, rfl, ha1⟩⟩ := pr_get hP hv
        have hbag := bagAt_of hb
        have hbm := List.mem_of_getElem? hb
        have p0 := p.mono (sameU (o := .tup [.int (i : Nat), .ref a1]) nT)
        refine ⟨T, [.int (i : Nat), .ref a1], rfl, .inl (.inl upd_same), rfl, .int (i : Nat), [.ref a1], rfl, .ref a1, [], rfl, rfl, ?_⟩
        have hA : ∀ {H'}, Same H1 H' → SqT K H' a1 (iv bag) := fun s => seqT (s1.trans s) ha1
        refine ⟨.ref a1, rfl, a1, rfl, ⟨_, hA p0.same⟩, ?_⟩
        refine for_it walk_tup (fun j σ H2 => ∃ y1, σ = [some (.ref a), y1, some (.ref D), some (.int (i : Nat)), some (.ref a1)] ∧ HomeS H1 D rs (fun b => hom Fm i b ++ (if b ∈ bag.take j then [i] else [])) H2) ⟨_, rfl, p0.congr fun b => by simp⟩ (fun j σ H2 _ p => by
          obtain ⟨_, _, p⟩ := p
          exact hA p.same) (fun j x σ H5 H6 hj p y => ?_) (fun σ H2 p => ?_)
        · obtain ⟨z1, rfl, p⟩ := p
          obtain ⟨rfl, hx⟩ := y
          obtain ⟨m, hm, rfl⟩ := iv_get hx
          have hmn : m < n := hF.tree.lt bag hbm m (List.mem_of_getElem? hm)
          obtain ⟨r, hr1⟩ : ∃ r, rs[m]? = some r := ⟨rs[m]'(by omega), List.getElem?_eq_getElem (by omega)⟩
          have hnot : m ∉ bag.take j := fun z => by
            obtain ⟨t, ht⟩ := List.getElem?_of_mem z
            rw [List.getElem?_take] at ht
            split at ht
            · rename_i htj
              have := nd_ix (hF.tree.nd bag hbm) ht hm
              omega
            · cases ht
          have eR := p.at' m r hr1
          refine ⟨.ref D, rfl, .int (m : Int), rfl, D, rs.map V.ref, (m : Int), .ref r, rfl, rfl, .inl (.inl p.top), atI_nat (by rw [List.getElem?_map, hr1]; rfl), .inl ⟨rfl, _, .inl (.inl eR)⟩, .int (i : Nat), rfl, r, _, _, rfl, rfl, eR, ?_, ?_⟩
          · rw [iv_len, if_neg hnot, List.append_nil]
            have := hom_len Fm i m
            exact small1000 (by omega)
          · refine ⟨_, rfl, (p.app h2 h3 hr1 (h4 r (List.mem_of_getElem? hr1))).congr fun b => ?_⟩
            have et : bag.take (j + 1) = bag.take j ++ [m] := by
              rw [List.take_add_one, hm]
              rfl
            rw [et]
            by_cases hbm2 : b = m
            · subst hbm2
              rw [if_pos rfl, if_neg hnot, if_pos (by simp), List.append_nil]
            · rw [if_neg hbm2]
              have e2 : (b ∈ bag.take j ++ [m]) ↔ b ∈ bag.take j := by
                rw [List.mem_append, List.mem_singleton]
                exact ⟨fun z => z.resolve_right hbm2, .inl⟩
              by_cases z : b ∈ bag.take j
              · rw [if_pos z, if_pos (e2.mpr z)]
              · rw [if_neg z, if_neg fun y => z (e2.mp y)]
        · obtain ⟨z1, rfl, p⟩ := p
          refine ⟨_, _, _, rfl, p.congr fun b => ?_⟩
          rw [iv_len, List.take_length, hom_succ, hbag]
      · obtain ⟨y1, y3, y4, rfl, p⟩ := p
        rw [hlen] at p
        exact ⟨.ref D, rfl, q D rs H2 (s1.trans p.same) nD0 p.top h1 fun b r e => p.at' b r e⟩
end
end Sb

/-! SbE -/
namespace Sb
open PySem PySem.Spec PyProof.Rows L2 SB

/-- the search's state: D found, R the rim; i: the bag at work -/
structure Dfs (F : List Bag) (i : Option Nat) (D R : List Nat) : Prop where
  nd : D.Nodup
  lt : ∀ k ∈ D, k < F.length
  zero : 0 ∈ D
  sub : ∀ k ∈ R, k ∈ D
  rl : R.length ≤ D.length
  clo : ∀ k ∈ D, k ∉ R → some k ≠ i → ∀ b ∈ bagAt F k, ∀ j, j < F.length → b ∈ bagAt F j → j ∈ D
theorem Dfs.len {F : List Bag} {i : Option Nat} {D R : List Nat} (h : Dfs F i D R) : D.length ≤ F.length := by
  have q := h.nd.length_le_of_subset (l₂ := List.range F.length) fun x hx => List.mem_range.mpr (h.lt x hx)
  rw [List.length_range] at q
  exact q
theorem Dfs.add {F : List Bag} {i : Option Nat} {D R : List Nat} {k : Nat} (h : Dfs F i D R) (hk : k < F.length) (hn : k ∉ D) : Dfs F i (D ++ [k]) (R ++ [k]) := by
  refine ⟨?_, fun x hx => ?_, List.mem_append_left _ h.zero, fun x hx => ?_, (by have := h.rl; rw [List.length_append, List.length_append]; simp; omega), fun x hx hr hi b hb j hj hbj => ?_⟩
  · rw [List.nodup_append]
    refine ⟨h.nd, by simp, fun a ha b hb e => ?_⟩
    rw [List.mem_singleton.mp hb] at e
    exact hn (by rw [← e]; exact ha)
  · rcases List.mem_append.mp hx with z | z
    · exact h.lt x z
    · rw [List.mem_singleton.mp z]
      exact hk
  · rcases List.mem_append.mp hx with z | z
    · exact List.mem_append_left _ (h.sub x z)
    · exact List.mem_append_right _ z
  · rw [List.mem_append] at hr
    rcases List.mem_append.mp hx with z | z
    · exact List.mem_append_left _ (h.clo x z (fun y => hr (.inl y)) hi b hb j hj hbj)
    · exact absurd (.inr z) hr
theorem Dfs.pop {F : List Bag} {D R : List Nat} {i : Nat} (h : Dfs F none D (R ++ [i])) : Dfs F (some i) D R := by
  refine ⟨h.nd, h.lt, h.zero, fun k hk => h.sub k (List.mem_append_left _ hk), (by have := h.rl; rw [List.length_append] at this; simp at this; omega), fun k hk hr hi => h.clo k hk (fun z => ?_) (fun z => nomatch z)⟩
  rcases List.mem_append.mp z with z | z
  · exact hr z
  · exact hi (by rw [List.mem_singleton.mp z])
theorem Dfs.close {F : List Bag} {D R : List Nat} {i : Nat} (h : Dfs F (some i) D R) (hc : ∀ b ∈ bagAt F i, ∀ j, j < F.length → b ∈ bagAt F j → j ∈ D) : Dfs F none D R := by
  refine ⟨h.nd, h.lt, h.zero, h.sub, h.rl, fun k hk hr _ b hb j hj hbj => ?_⟩
  by_cases e : k = i
  · subst e
    exact hc b hb j hj hbj
  · exact h.clo k hk hr (fun z => e (Option.some.inj z)) b hb j hj hbj
theorem Dfs.start {F : List Bag} (h : 0 < F.length) : Dfs F none [0] [0] := by
  refine ⟨by simp, fun k hk => ?_, by simp, fun k hk => hk, Nat.le_refl _, fun k hk hr => absurd hk hr⟩
  rw [List.mem_singleton.mp hk]
  exact h

section
variable {P : Program} {w : World} {K : PySem.W.Frag} {mg : Str → Option Value} {base : Heap}

/-! reached_from -/
theorem scReached : FnScope ["bags", "homes", "first", "found", "rim", "bead", "index"] ["bags", "homes", "first"] (defScope sReached) := ⟨rfl, rfl, rfl, by decide +kernel, rfl, by decide +kernel, by decide +kernel⟩
def spReached (K : PySem.W.Frag) : Sp := fun vs H Q _ => ∃ (v : V) (F : List Bag) (n : Nat) (hp : Addr) (rs : List Addr), vs = [v, .ref hp, .int 0] ∧ IsF K H v F ∧ Fam n F ∧
  H hp = some (.lst (rs.map V.ref)) ∧ rs.length = n ∧ (∀ b r, rs[b]? = some r → H r = some (.lst (iv (homesAt F b)))) ∧
  ∀ (p : Addr) (D : List Nat) (H' : Hp), Same H H' → H p = none → H' p = some (.dK (kd D)) → D.length = F.length → Q (.ref p) H'
theorem ok_reached {f : Addr} {fd : FuncData} (F : Fun K "reached_from" "reached_from" sReached f fd) : FnOk P w K mg base CX0 1 f fd ["bags", "homes", "first"] (spReached K) := by
  refine F.ok scReached (fun vs H Q E h => ?_) (fun cdv A outer s H vs Q E hr h => ?_)
  · obtain ⟨v, b, n, hp, rs, rfl, _⟩ := h
    rfl
  · obtain ⟨v, Fm, n, hp, rs, rfl, hIs, hF, hH, hrs, hrr, q⟩ := h
    obtain ⟨a, xs, rfl, hS, hP⟩ := hIs
    have hB := fam_bags hF
    have hlen : xs.length = Fm.length := pr_len hP
    have hfew := hF.tree.few
    have hmost := hF.most
    refine ⟨_, pss_cons (ps_par (i := 3) (j := 4) (by rfl) scReached.nd rfl rfl (by decide) rfl rfl
        (pa_cons (pe_disp (pps_cons (pv 2) pe_bl pps_nil) (by rfl) (by rfl) (fun z => by cases z) (by decide)) (pa_cons (pe_lst (pa_cons (pv 2) pa_nil)) pa_nil)) (by rfl))
      (pss_cons (ps_while PassesOwn.never (pt_cmpR (op_neD hr.units) (pv 4) (pe_lst pa_nil) (nomark _))
        (pss_one (ps_for PassesOwn.never rfl (pi_tup (pe_ix ix_tup (pv 0) (pe_bm0 PySem.F.plainAttrs_list PySem.F.slot_list_pop PySem.F.type_list_pop mt_pop (pv 4)) (fun _ _ => rfl))) (pg_name (i := 5) scReached.nd rfl (.inl rfl))
          (pss_one (ps_for PassesOwn.never rfl (pi_list (pe_ix ix_list (pv 1) (pv 5) (fun _ _ => rfl))) (pg_name (i := 6) scReached.nd rfl (.inl rfl))
            (pss_one (ps_if (pt_cmp (pc_dnotin (hu_of hr) (pv 6) (pv 3)))
              (pss_cons (ps_dput (hu_of hr) (pv 3) (pv 6) pe_bl rfl)
                (pss_one (ps_expr (pe_bm PySem.F.plainAttrs_list PySem.F.slot_list_append PySem.F.type_list_append mt_append (pv 4) (pa_cons (pv 6) pa_nil))))) pss_nil)))))))
      (pss_one (ps_ret (pv 3)))), ?_⟩
    refine fun d nd => ⟨.int 0, rfl, upd_same, [(Sum.inl 0, V.bl true)], rfl, by decide, .int 0, rfl, by decide, fun r nr => ?_⟩
    have s1 : Same H (upd (upd H d (.dK [])) d (.dK (mergeK [] [(Sum.inl 0, V.bl true)]))) := sameU2 (sameU nd) nd
    have nr0 : H r = none := s1.free nr
    have hdr : d ≠ r := fun z => by
      rw [← z, upd_same] at nr
      cases nr
    generalize hG : upd (upd (upd H d (.dK [])) d (.dK (mergeK [] [(Sum.inl 0, V.bl true)]))) r (.lst [V.int 0]) = G
    have sG : Same H G := by
      rw [← hG]
      exact sameU2 s1 nr0
    have gd : G d = some (.dK (kd [0])) := by
      rw [← hG, upd_ne hdr, upd_same]
      rfl
    have gr : G r = some (.lst (iv [0])) := by
      rw [← hG, upd_same]
      rfl
    refine ⟨.ref d, .ref r, rfl, ?_⟩
    -- the state
    let St : List Nat → List Nat → Hp → Prop := fun D R H' => Same H H' ∧ H' d = some (.dK (kd D)) ∧ H' r = some (.lst (iv R))
    have stP : ∀ {D R : List Nat} {H' : Hp} {e : Addr} {o : HO}, St D R H' → H' e = none → St D R (upd H' e o) := fun {D R H' e o} h ne =>
      ⟨h.1.trans (sameU ne), by rw [upd_ne (ne_of_none h.2.1 ne)]; exact h.2.1, by rw [upd_ne (ne_of_none h.2.2 ne)]; exact h.2.2⟩
    have stR : ∀ {D R R' : List Nat} {H' : Hp}, St D R H' → St D R' (upd H' r (.lst (iv R'))) := fun {D R R' H'} h =>
      ⟨sameU2 h.1 nr0, by rw [upd_ne hdr]; exact h.2.1, upd_same⟩
    have stD : ∀ {D D' R : List Nat} {H' : Hp}, St D R H' → St D' R (upd H' d (.dK (kd D'))) := fun {D D' R H'} h =>
      ⟨sameU2 h.1 nd, upd_same, by rw [upd_ne hdr.symm]; exact h.2.2⟩
    refine ⟨fun μ σ H' => ∃ D R y5 y6, σ = [some (.ref a), some (.ref hp), some (.int 0), some (.ref d), some (.ref r), y5, y6] ∧ St D R H' ∧ Dfs Fm none D R ∧ μ = (Fm.length - D.length) + R.length,
      ⟨_, [0], [0], none, none, rfl, ⟨sG, gd, gr⟩, Dfs.start hB.some, rfl⟩, fun μ σ H' hW => ?_⟩
    obtain ⟨D, R, y5, y6, rfl, hSt, hD, rfl⟩ := hW
    refine ⟨.ref r, rfl, by decide, fun e ne => ?_⟩
    have hSt1 : St D R (upd H' e (.lst [])) := stP hSt ne
    refine ⟨dL R, .list [], .lst (.inl (.inl hSt1.2.2)) (dp_ints R), .lst (.inl (.inl upd_same)) .nil, shaped_dL R, shaped_nilL, !(R.map dN).isEmpty, ?_, ?_⟩
    · unfold dL
      rw [eqv_nilL]
    by_cases hR : R = []
    · -- the end
      subst hR
      refine iteF ⟨.ref d, rfl, q d D _ hSt1.1 nd hSt1.2.1 (reach_all hF.tree hD.nd hD.lt hD.zero fun i hi b hb j hj hbj => hD.clo i hi (by simp) (fun z => nomatch z) b hb j hj hbj)⟩
    · obtain ⟨R0, i, rfl⟩ : ∃ R0 i, R = R0 ++ [i] := ⟨R.dropLast, R.getLast hR, (List.dropLast_concat_getLast hR).symm⟩
      have eI : (!((R0 ++ [i]).map dN).isEmpty) = true := by
        rw [List.map_append]
        simp
      rw [eI]
      refine iteT ?_
      have hi : i < Fm.length := hD.lt i (hD.sub i (by simp))
      have hbag := bagAt_get hi
      obtain ⟨x, hx, ⟨a1, rfl, ha1⟩⟩ := pr_get' hP hbag
      have hpop := hD.pop
      refine ⟨fun σ' H2 => ∃ D2 R2 z5 z6, σ' = [some (.ref a), some (.ref hp), some (.int 0), some (.ref d), some (.ref r), z5, z6] ∧ St D2 R2 H2 ∧ Dfs Fm none D2 R2 ∧ (Fm.length - D2.length) + R2.length + 1 = (Fm.length - D.length) + (R0 ++ [i]).length, ?_, ?_⟩
      · rintro σ' H2 ⟨D2, R2, z5, z6, rfl, k1, k2, k3⟩
        exact ⟨_, by omega, D2, R2, z5, z6, rfl, k1, k2, rfl⟩
      -- for bead in bags[rim.pop()]
      have eP : (iv (R0 ++ [i]))[(iv (R0 ++ [i])).length - 1]? = some (.int (i : Int)) := by
        rw [iv_len]
        refine iv_at ?_
        rw [List.length_append, List.length_singleton, Nat.add_sub_cancel, List.getElem?_append_right (Nat.le_refl _), Nat.sub_self]
        rfl
      have eD : (iv (R0 ++ [i])).dropLast = iv R0 := by
        rw [iv_append]
        exact List.dropLast_concat
      have hSt2 : St D R0 (upd (upd H' e (.lst [])) r (.lst (iv R0))) := stR hSt1
      refine ⟨.ref a, rfl, .ref r, rfl, .inl ⟨rfl, _, .inl (.inl hSt1.2.2)⟩, r, _, .int (i : Int), rfl, rfl, hSt1.2.2, eP, a, xs, (i : Int), .ref a1, rfl, rfl, ?_, atI_nat hx, a1, rfl, ⟨iv (bagAt Fm i), ?_⟩, ?_⟩
      · rw [eD]
        exact seqT hSt2.1 hS
      · rw [eD]
        exact seqT hSt2.1 ha1
      rw [eD]
      refine for_it (walk_tup (xs := iv (bagAt Fm i))) (fun j σ' H2 => ∃ D2 R2 z5 z6, σ' = [some (.ref a), some (.ref hp), some (.int 0), some (.ref d), some (.ref r), z5, z6] ∧ St D2 R2 H2 ∧ Dfs Fm (some i) D2 R2 ∧ (Fm.length - D2.length) + R2.length + 1 = (Fm.length - D.length) + (R0 ++ [i]).length ∧
          ∀ b ∈ (bagAt Fm i).take j, ∀ k, k < Fm.length → b ∈ bagAt Fm k → k ∈ D2)
        ⟨D, R0, _, _, rfl, hSt2, hpop, by rw [List.length_append]; simp; omega, by simp⟩ (fun j σ' H2 _ p => by
          obtain ⟨_, _, _, _, _, p, _⟩ := p
          exact seqT p.1 ha1) (fun j x σ' H3 H4 hj p y => ?_) (fun σ' H2 p => ?_)
      · obtain ⟨D2, R2, z5, z6, rfl, k1, k2, k3, k4⟩ := p
        obtain ⟨rfl, hx2⟩ := y
        obtain ⟨b, hb, rfl⟩ := iv_get hx2
        have hbn : b < n := hF.tree.lt _ (bagAt_mem hi) b (List.mem_of_getElem? hb)
        obtain ⟨rb, hrb⟩ : ∃ rb, rs[b]? = some rb := ⟨rs[b]'(by omega), List.getElem?_eq_getElem (by omega)⟩
        have hL : ∀ {H'}, Same H H' → SqL K H' rb (iv (homesAt Fm b)) := fun s => .inl (.inl (s _ _ (hrr b rb hrb)))
        refine ⟨.ref hp, rfl, .int (b : Int), rfl, hp, rs.map V.ref, (b : Int), .ref rb, rfl, rfl, .inl (.inl (k1.1 _ _ hH)), atI_nat (by rw [List.getElem?_map, hrb]; rfl), rb, rfl, ⟨_, hL k1.1⟩, ?_⟩
        refine for_it (walk_list (xs := iv (homesAt Fm b))) (fun t σ' H2 => ∃ D3 R3 z6, σ' = [some (.ref a), some (.ref hp), some (.int 0), some (.ref d), some (.ref r), some (.int (b : Int)), z6] ∧ St D3 R3 H2 ∧ Dfs Fm (some i) D3 R3 ∧ (Fm.length - D3.length) + R3.length + 1 = (Fm.length - D.length) + (R0 ++ [i]).length ∧
            (∀ b ∈ (bagAt Fm i).take j, ∀ k, k < Fm.length → b ∈ bagAt Fm k → k ∈ D3) ∧ ∀ k ∈ (homesAt Fm b).take t, k ∈ D3)
          ⟨D2, R2, _, rfl, k1, k2, k3, k4, by simp⟩ (fun t σ' H2 _ p => by
            obtain ⟨_, _, _, _, p, _⟩ := p
            exact hL p.1) (fun t x σ' H3 H4 ht p y => ?_) (fun σ' H2 p => ?_)
        · obtain ⟨D3, R3, y6, rfl, m1, m2, m3, m4, m5⟩ := p
          obtain ⟨rfl, hx3⟩ := y
          obtain ⟨k, hk, rfl⟩ := iv_get hx3
          have hkm : k ∈ homesAt Fm b := List.mem_of_getElem? hk
          have hkl := (mem_homes.mp hkm).1
          have et : (homesAt Fm b).take (t + 1) = (homesAt Fm b).take t ++ [k] := by
            rw [List.take_add_one, hk]
            rfl
          have hlen3 := m2.len
          refine ⟨.int (k : Int), rfl, .ref d, rfl, d, _, rfl, DGet.k (k := Sum.inl (k : Int)) m1.2.1, _, rfl, ?_⟩
          rw [kd_val]
          by_cases hm : k ∈ D3
          · rw [if_pos hm]
            refine iteF ⟨D3, R3, _, rfl, m1, m2, m3, m4, fun c hc => ?_⟩
            rw [et] at hc
            rcases List.mem_append.mp hc with z | z
            · exact m5 c z
            · rw [List.mem_singleton.mp z]
              exact hm
          · rw [if_neg hm]
            have hadd := m2.add hkl hm
            have hlen4 := hadd.len
            rw [List.length_append, List.length_singleton] at hlen4
            have hput := stD (D' := D3 ++ [k]) m1
            have happ := stR (R' := R3 ++ [k]) hput
            refine iteT ⟨.ref d, rfl, .int (k : Int), rfl, d, _, rfl, DPut.k (k := Sum.inl (k : Int)) m1.2.1 ?_, ?_⟩
            · rw [kd_len]
              exact small1000 (by omega)
            rw [kd_new hm]
            refine ⟨.ref r, rfl, .inl ⟨rfl, _, .inl (.inl hput.2.2)⟩, .int (k : Int), rfl, r, _, _, rfl, rfl, hput.2.2, ?_, ?_⟩
            · rw [iv_len]
              have := m2.rl
              exact small1000 (by omega)
            · refine ⟨D3 ++ [k], R3 ++ [k], _, rfl, ?_, hadd, ?_, ?_, ?_⟩
              · rw [iv_append] at happ
                exact happ
              · rw [List.length_append, List.length_append, List.length_singleton]
                omega
              · exact fun b hb k' hk' hbk => List.mem_append_left _ (m4 b hb k' hk' hbk)
              · intro c hc
                rw [et] at hc
                rcases List.mem_append.mp hc with z | z
                · exact List.mem_append_left _ (m5 c z)
                · exact List.mem_append_right _ z
        · obtain ⟨D3, R3, y6, rfl, m1, m2, m3, m4, m5⟩ := p
          rw [iv_len, List.take_length] at m5
          refine ⟨D3, R3, _, _, rfl, m1, m2, m3, fun c hc k hk hck => ?_⟩
          rw [List.take_add_one, hb] at hc
          rcases List.mem_append.mp hc with z | z
          · exact m4 c z k hk hck
          · have ec : c = b := by simpa using z
            subst ec
            exact m5 k (mem_homes.mpr ⟨hk, hck⟩)
      · obtain ⟨D2, R2, z5, z6, rfl, k1, k2, k3, k4⟩ := p
        rw [iv_len, List.take_length] at k4
        exact ⟨D2, R2, _, _, rfl, k1, k2.close k4, k3⟩
end
end Sb

/-! SbF -/
namespace Sb
open PySem PySem.Spec PyProof.Rows L2 SB

theorem walk_range0 {n : Nat} : Walk (Itr 0 n) n (fun _ => True) (YFn fun i => .int ((i : Nat) : Int)) :=
  ⟨fun _ _ hi _ => hi, fun _ _ => Nat.le_refl _, fun i H x H' _ _ y => ⟨y.1, y.2.trans (by rw [Int.zero_add])⟩⟩
theorem meet_one {A B : Bag} (h : ShareOne A B) (hA : A.Nodup) : (meet A B).length ≤ 1 := by
  have hn : (meet A B).Nodup := List.Pairwise.filter _ hA
  have hm : ∀ x ∈ meet A B, x ∈ A ∧ x ∈ B := fun x hx => by
    have := List.mem_filter.mp hx
    exact ⟨this.1, of_decide_eq_true this.2⟩
  match e : meet A B with
  | [] => simp
  | [x] => simp
  | x :: y :: r =>
    rw [e] at hn hm
    have h1 := hm x (by simp)
    have h2 := hm y (by simp)
    have := h x y h1.1 h1.2 h2.1 h2.2
    subst this
    simp at hn
theorem sum_cast : ∀ l : List Nat, (l.map Int.ofNat).sum = (l.sum : Int)
  | [] => rfl
  | x :: l => by
    rw [List.map_cons, List.sum_cons, List.sum_cons, sum_cast l]
    show (x : Int) + _ = _
    omega

section
variable {P : Program} {w : World} {K : PySem.W.Frag} {mg : Str → Option Value} {base : Heap}

/-! bar_of -/
theorem scBar : FnScope ["bags", "homes", "bead", "told", "at", "one", "spot", "bag"] ["bags"] (defScope sBar) := ⟨rfl, rfl, rfl, by decide +kernel, rfl, by decide +kernel, by decide +kernel⟩
def spBar (K : PySem.W.Frag) : Sp := fun vs H Q _ => ∃ (v : V) (F : List Bag) (n : Nat), vs = [v] ∧ IsF K H v F ∧ Fam n F ∧ ∀ H', Same H H' → Q .non H'
theorem ok_bar {f : Addr} {fd : FuncData} (F : Fun K "bar_of" "bar_of" sBar f fd) (B : Blt mg) (C1 : Cal P w K mg base "homes_of" 2 ["bags"] (spHomes K)) (C2 : Cal P w K mg base "shared_by" 1 ["one", "other"] (spShared K))
    (C3 : Cal P w K mg base "reached_from" 1 ["bags", "homes", "first"] (spReached K)) : FnOk P w K mg base CX0 3 f fd ["bags"] (spBar K) := by
  obtain ⟨f1, fd1, G1, g1, k1, b1⟩ := C1
  obtain ⟨f2, fd2, G2, g2, k2, b2⟩ := C2
  obtain ⟨f3, fd3, G3, g3, k3, b3⟩ := C3
  refine F.ok scBar (fun vs H Q E h => ?_) (fun cdv A outer s H vs Q E hr h => ?_)
  · obtain ⟨v, b, n, rfl, _⟩ := h
    rfl
  · obtain ⟨v, Fm, n, rfl, hIs, hF, q⟩ := h
    have hIs0 := hIs
    obtain ⟨a, xs, rfl, hS, hP⟩ := hIs
    have hB := fam_bags hF
    have hlen : xs.length = Fm.length := pr_len hP
    have hfew := hF.tree.few
    have hmost := hF.most
    refine ⟨_, pss_cons (ps_set (i := 1) scBar.nd rfl (.inl rfl) (pe_call G1 hr (by rfl) g1 k1 b1 .nil pass0 (pa_cons (pv 0) pa_nil)))
      (pss_cons (ps_for PassesOwn.never rfl (pi_enum (by rfl) B.enum (pa_cons (pv 1) pa_nil))
          (pg_tup rfl (pgs_cons (pg_name (i := 2) scBar.nd rfl (.inl rfl)) (pgs_cons (pg_name (i := 3) scBar.nd rfl (.inl rfl)) pgs_nil)))
          (pss_one (ps_if (pt_cmpR (op_eqD hr.units) (pv 3) (pe_lst pa_nil) (nomark _)) pss_never pss_nil)))
      (pss_cons (ps_for PassesOwn.never rfl (pi_enumT (by rfl) B.enum (pa_cons (pv 0) pa_nil))
          (pg_tup rfl (pgs_cons (pg_name (i := 4) scBar.nd rfl (.inl rfl)) (pgs_cons (pg_name (i := 5) scBar.nd rfl (.inl rfl)) pgs_nil)))
          (pss_one (ps_for PassesOwn.never rfl (pi_range1 (by rfl) B.range (pa_cons (pv 4) pa_nil)) (pg_name (i := 6) scBar.nd rfl (.inl rfl))
            (pss_one (ps_if (pt_cmpR op_gt (pe_callB call_len_seq (by rfl) B.len PySem.boot_len (pa_cons (pe_call G2 (hr.mono (by decide)) (by rfl) g2 k2 b2 .nil pass0 (pa_cons (pe_ix ix_tup (pv 0) (pv 6) (fun _ _ => rfl)) (pa_cons (pv 5) pa_nil))) pa_nil)) pe_int (nomark _)) pss_never pss_nil)))))
      (pss_cons (ps_if (pt_cmpR op_lt (pe_callB call_lenD (by rfl) B.len PySem.boot_len (pa_cons (pe_call G3 (hr.mono (by decide)) (by rfl) g3 k3 b3 .nil pass0 (pa_cons (pv 0) (pa_cons (pv 1) (pa_cons pe_int pa_nil)))) pa_nil))
          (pe_callB call_len_seq (by rfl) B.len PySem.boot_len (pa_cons (pv 0) pa_nil)) (nomark _)) pss_never pss_nil)
      (pss_cons (ps_if (pt_cmpR op_gt (pe_callB (cr_sum rfl) (by rfl) B.sum (by decide +kernel) (pa_cons
            (pe_lc (own := [("bag", 7)]) (g := gName 7) (tt := tYes) rfl scBar.nd (pi_tup (pv 0))
              (blkOk_by (N := ["bags", "homes", "bead", "told", "at", "one", "spot", "bag"]) (sc := defScope sBar) (by decide +kernel))
              (fun _ _ _ _ _ => pg_name (i := 7) scBar.nd rfl (.inl rfl) (.inr rfl)) (fun _ _ _ _ _ => pts_nil)
              (fun _ _ _ _ _ => pe_op op_sub (pe_callB (call_lenK (K := K) rfl) (by rfl) B.len PySem.boot_len (pa_cons (pv 7) pa_nil)) pe_int)) pa_nil))
          (pe_op op_sub (pe_callB call_len_seq (by rfl) B.len PySem.boot_len (pa_cons (pv 1) pa_nil)) pe_int) (nomark _)) pss_never pss_nil)
      (pss_one (ps_ret pe_non)))))), ?_⟩
    refine ⟨.ref a, rfl, _, Fm, n, rfl, hIs0, hF, fun D rs H1 s1 nD hD hrs hrr => ?_⟩
    -- for bead, told in enumerate(homes)
    refine ⟨.ref D, rfl, D, rs.map V.ref, rfl, .inl (.inl hD), ?_⟩
    refine for_it walk_enum (fun i σ H2 => ∃ y2 y3, σ = [some (.ref a), some (.ref D), y2, y3, none, none, none, none] ∧ Same H1 H2) ⟨_, _, rfl, Same.refl _⟩ (fun i σ H2 _ p => by
      obtain ⟨_, _, _, p⟩ := p
      exact .inl (.inl (p _ _ hD))) (fun i x σ H3 H4 hi p y => ?_) (fun σ H2 p => ?_)
    · obtain ⟨y2, y3, rfl, p⟩ := p
      obtain ⟨T, u, v, rfl, nT, rfl, hu, hv⟩ := y
      have hu : u = .int (i : Int) := (Option.some.inj hu).symm
      subst hu
      have hv : (rs.map V.ref)[i]? = some v := hv
      rw [List.getElem?_map] at hv
      obtain ⟨r, hr1, rfl⟩ : ∃ r, rs[i]? = some r ∧ v = .ref r := by
        cases e : rs[i]? with
        | none =>
          rw [e] at hv
          cases hv
        | some r =>
          rw [e] at hv
          exact ⟨r, rfl, (Option.some.inj hv).symm⟩
      have s3 : Same H1 (upd H3 T (.tup [.int (i : Nat), .ref r])) := p.trans (sameU nT)
      refine ⟨T, _, rfl, .inl (.inl upd_same), rfl, .int (i : Nat), [.ref r], rfl, .ref r, [], rfl, rfl, ?_⟩
      refine ⟨.ref r, rfl, by decide, fun e ne => ?_⟩
      have s4 := s3.trans (sameU (o := .lst []) ne)
      refine ⟨dL (homesAt Fm i), .list [], .lst (.inl (.inl (s4 _ _ (hrr i r hr1)))) (dp_ints _), .lst (.inl (.inl upd_same)) .nil, shaped_dL _, shaped_nilL, false, ?_, iteF ⟨_, _, rfl, s4⟩⟩
      unfold dL
      rw [eqv_nilL]
      rw [List.length_map] at hi
      obtain ⟨b, hb, hbi⟩ := hF.tree.all i (by omega)
      obtain ⟨k, hk⟩ := List.getElem?_of_mem hb
      have hm : k ∈ homesAt Fm i := mem_homes.mpr ⟨(List.getElem?_eq_some_iff.mp hk).1, by rw [bagAt_of hk]; exact hbi⟩
      cases e : homesAt Fm i with
      | nil =>
        rw [e] at hm
        cases hm
      | cons z zs => rfl
    · obtain ⟨y2, y3, rfl, p2⟩ := p
      -- for at, one in enumerate(bags)
      have hS2 : ∀ {H'}, Same H2 H' → SqT K H' a xs := fun s => seqT ((s1.trans p2).trans s) hS
      refine ⟨.ref a, rfl, a, xs, rfl, hS2 (Same.refl _), ?_⟩
      refine for_it walk_enumT (fun i σ H3 => ∃ y4 y5 y6, σ = [some (.ref a), some (.ref D), y2, y3, y4, y5, y6, none] ∧ Same H2 H3) ⟨_, _, _, rfl, Same.refl _⟩ (fun i σ H2 _ p => by
        obtain ⟨_, _, _, _, p⟩ := p
        exact hS2 p) (fun i x σ H3 H4 hi p y => ?_) (fun σ H3 p => ?_)
      · obtain ⟨y4, y5, y6, rfl, p⟩ := p
        obtain ⟨T, u, v, rfl, nT, rfl, hu, hv⟩ := y
        have hu : u = .int (i : Int) := (Option.some.inj hu).symm
        subst hu
        obtain ⟨one, hb, hone⟩ := pr_get hP hv
        have hbm := List.mem_of_getElem? hb
        have hbag := bagAt_of hb
        have hil := (List.getElem?_eq_some_iff.mp hb).1
        have s3 : Same H2 (upd H3 T (.tup [.int (i : Nat), v])) := p.trans (sameU nT)
        refine ⟨T, _, rfl, .inl (.inl upd_same), rfl, .int (i : Nat), [v], rfl, v, [], rfl, rfl, ?_⟩
        refine ⟨.int (i : Nat), rfl, (i : Int), rfl, by omega, by omega, ?_⟩
        refine for_it walk_range0 (fun j σ H3 => ∃ y6, σ = [some (.ref a), some (.ref D), y2, y3, some (.int (i : Nat)), some v, y6, none] ∧ Same H2 H3) ⟨_, rfl, s3⟩ (fun _ _ _ _ _ => True.intro) (fun j x σ H5 H6 hj p y => ?_) (fun σ H3 p => ?_)
        · obtain ⟨y6, rfl, p5⟩ := p
          obtain ⟨rfl, rfl⟩ := y
          rw [Int.toNat_natCast] at hj
          have hjl : j < Fm.length := by omega
          obtain ⟨x, hx, hxb⟩ := pr_get' hP (bagAt_get hjl)
          refine ⟨.ref a, rfl, .int (j : Int), rfl, a, xs, (j : Int), x, rfl, rfl, hS2 p5, atI_nat hx, v, rfl, x, v, bagAt Fm j, one, rfl, hxb.same ((s1.trans p2).trans p5), hone.same ((s1.trans p2).trans p5), hB.short _ (bagAt_mem hjl), hB.short _ hbm, fun p0 H7 s7 np0 hp0 => ?_⟩
          refine ⟨p0, _, rfl, .inl (.inl (.inl hp0)), _, _, rfl, rfl, false, ?_, iteF ⟨_, rfl, p5.trans s7⟩⟩
          dsimp only
          have hone' : (meet (bagAt Fm j) one).length ≤ 1 := meet_one (by rw [← hbag]; exact shareOne_at hF.tree.one (by omega) hjl hil) (hF.tree.nd _ (bagAt_mem hjl))
          rw [iv_len, decide_eq_false (by omega)]
        · obtain ⟨y6, rfl, p5⟩ := p
          exact ⟨_, _, _, rfl, p5⟩
      · obtain ⟨y4, y5, y6, rfl, p3⟩ := p
        have s4 : Same H H3 := (s1.trans p2).trans p3
        have s5 : Same H1 H3 := p2.trans p3
        -- reached_from
        refine ⟨.ref a, rfl, .ref D, rfl, _, Fm, n, D, rs, rfl, hIs0.same s4, hF, s5 _ _ hD, hrs, (fun b r e => s5 _ _ (hrr b r e)), fun p0 Dk H4 s6 np0 hp0 hk => ?_⟩
        have s7 : Same H H4 := s4.trans s6
        refine ⟨p0, _, rfl, hp0, .ref a, rfl, a, xs, rfl, .inr (seqT s7 hS), _, _, rfl, rfl, false, ?_, iteF ?_⟩
        · dsimp only
          rw [kd_len, hk, hlen, decide_eq_false (by omega)]
        -- sum
        refine ⟨.ref a, rfl, a, rfl, ⟨_, seqT s7 hS⟩, fun L nL => ?_⟩
        have s8 : Same H4 (upd H4 L (.lst [])) := sameU nL
        refine lc_it walk_tup (fun i H' => Same H4 H' ∧ H' L = some (.lst (iv ((Fm.take i).map fun b => b.length - 1)))) ⟨s8, upd_same⟩ (fun i H' _ p => seqT (s7.trans p.1) hS) (fun i x H5 H6 hi p y => ?_) (fun H' p => ?_)
        · obtain ⟨rfl, hx⟩ := y
          obtain ⟨b, hb, ⟨a1, rfl, h1⟩⟩ := pr_get hP hx
          have hbm := List.mem_of_getElem? hb
          have hb2 := hB.big b hbm
          dsimp only [tYes]
          refine ⟨rfl, ?_⟩
          rw [if_pos rfl]
          refine ⟨_, rfl, a1, iv b, rfl, .inr (seqT (s7.trans p.1) h1), _, _, rfl, rfl, _, p.2, ?_, sameU2 p.1 nL, ?_⟩
          · rw [iv_len, List.length_map, List.length_take]
            exact small1000 (by omega)
          · rw [upd_same, List.take_add_one, hb]
            have e : ((iv b).length : Int) - 1 = ((b.length - 1 : Nat) : Int) := by
              rw [iv_len]
              omega
            dsimp only
            rw [e]
            simp [iv]
        · have e := p.2
          rw [List.take_of_length_le (by omega)] at e
          refine ⟨L, (Fm.map fun b => b.length - 1).map Int.ofNat, rfl, .inl (.inl e), ?_⟩
          have s9 : Same H1 H' := (s5.trans s6).trans p.1
          refine ⟨.ref D, rfl, D, rs.map V.ref, rfl, .inl (.inl (.inl (s9 _ _ hD))), _, _, rfl, rfl, _, _, rfl, rfl, false, ?_, iteF (q _ (s7.trans p.1))⟩
          dsimp only
          have := hF.tree.sum
          rw [sum_cast, List.length_map, hrs, decide_eq_false (by omega)]

/-! need_family -/
theorem scNeedFam : FnScope ["value"] ["value"] (defScope sNeedFam) := ⟨rfl, rfl, rfl, by decide +kernel, rfl, by decide +kernel, by decide +kernel⟩
theorem ok_needFam {f : Addr} {fd : FuncData} (F : Fun K "need_family" "need_family" sNeedFam f fd) (C1 : Cal P w K mg base "need_bags" 4 ["value"] (spNeedBags K)) (C2 : Cal P w K mg base "bar_of" 3 ["bags"] (spBar K)) : FnOk P w K mg base CX0 5 f fd ["value"] (spBar K) := by
  obtain ⟨f1, fd1, G1, g1, k1, b1⟩ := C1
  obtain ⟨f2, fd2, G2, g2, k2, b2⟩ := C2
  refine F.ok scNeedFam (fun vs H Q E h => ?_) (fun cdv A outer s H vs Q E hr h => ?_)
  · obtain ⟨v, b, n, rfl, _⟩ := h
    rfl
  · obtain ⟨v, Fm, n, rfl, hIs, hF, q⟩ := h
    refine ⟨_, pss_cons (ps_expr (pe_call G1 hr (by rfl) g1 k1 b1 .nil pass0 (pa_cons (pv 0) pa_nil)))
      (pss_one (ps_if (pt_cmpR op_notN (pe_call G2 (hr.mono (by decide)) (by rfl) g2 k2 b2 .nil pass0 (pa_cons (pv 0) pa_nil)) pe_non (nomark _)) pss_never pss_nil)), ?_⟩
    refine ⟨_, rfl, v, Fm, rfl, hIs, fam_bags hF, fun H1 s1 => ?_⟩
    refine ⟨_, rfl, v, Fm, n, rfl, hIs.same s1, hF, fun H2 s2 => ?_⟩
    exact ⟨rfl, false, rfl, iteF (q _ (s1.trans s2))⟩
end
end Sb

/-! SbG -/
namespace Sb
open PySem PySem.Spec PyProof.Rows L2 SB

/-! lists in step, as pairs -/
theorem pr_zip {α β : Type} {R : α → β → Prop} : ∀ {l : List α} {r : List β}, Paired R l r → (l.zip r).map (·.1) = l ∧ (l.zip r).map (·.2) = r ∧ ∀ p ∈ l.zip r, R p.1 p.2
  | _, _, .nil => ⟨rfl, rfl, fun p hp => by cases hp⟩
  | a :: l, b :: r, .cons h t => by
    obtain ⟨h1, h2, h3⟩ := pr_zip t
    refine ⟨?_, ?_, fun p hp => ?_⟩
    · rw [List.zip_cons_cons, List.map_cons, h1]
    · rw [List.zip_cons_cons, List.map_cons, h2]
    · rw [List.zip_cons_cons] at hp
      rcases List.mem_cons.mp hp with rfl | hp
      · exact h
      · exact h3 p hp
theorem pr_of {α β : Type} {R : α → β → Prop} : ∀ {ps : List (α × β)}, (∀ p ∈ ps, R p.1 p.2) → Paired R (ps.map (·.1)) (ps.map (·.2))
  | [], _ => .nil
  | p :: ps, h => .cons (h p (List.mem_cons_self ..)) (pr_of fun q hq => h q (List.mem_cons_of_mem _ hq))

/-- pairs of numbers as they stand -/
def IsP (K : PySem.W.Frag) (H : Hp) (v : V) (p : Nat × Nat) : Prop := ∃ a, v = .ref a ∧ SqT K H a [.int (p.1 : Int), .int (p.2 : Int)]
theorem IsP.same {K : PySem.W.Frag} {H H' : Hp} {v : V} {p : Nat × Nat} (h : IsP K H v p) (s : Same H H') : IsP K H' v p := by
  obtain ⟨a, e, h⟩ := h
  exact ⟨a, e, seqT s h⟩
theorem IsP.dp {K : PySem.W.Frag} {H : Hp} {v : V} {p : Nat × Nat} (h : IsP K H v p) : Dp K H v (dP p) := by
  obtain ⟨a, rfl, h⟩ := h
  exact .tup h (.cons (.int _) (.cons (.int _) .nil))

/-- sorted of a list of data, what it asks -/
theorem rSD_any {γ : Type} {enc : γ → PyData} {R : Hp → V → γ → Prop} {K : PySem.W.Frag} {H : Hp} {a : Addr} {vs : List V} {G : List γ} {Q : VK} (hL : SqL K H a vs) (hP : Paired (R H) vs G) (hD : ∀ v g, R H v g → Dp K H v (enc g))
    (hne : ∀ g ∈ G, ∃ x r, enc g = .tuple (x :: r)) (k : ∀ p vs', Paired (R H) vs' (G.mergeSort (leD enc)) → H p = none → Q (.ref p) (upd H p (.lst vs'))) : rSD enc K [.ref a] H Q := by
  obtain ⟨h1, h2, h3⟩ := pr_zip hP
  refine ⟨a, vs.zip G, rfl, by rw [h1]; exact hL, fun p hp => hD _ _ (h3 p hp), ?_, fun qs p pm e np => ?_⟩
  · refine .inl fun d hd => ?_
    obtain ⟨p, hp, rfl⟩ := List.mem_map.mp hd
    refine hne p.2 ?_
    have : p.2 ∈ (vs.zip G).map (·.2) := List.mem_map.mpr ⟨p, hp, rfl⟩
    rw [h2] at this
    exact this
  · rw [h2] at e
    refine k p _ ?_ np
    rw [← e]
    exact pr_of fun q hq => h3 q (pm.mem_iff.mp hq)
theorem ne_dB {b : Bag} (h : 0 < b.length) : ∃ x r, dB b = .tuple (x :: r) := by
  cases b with
  | nil => simp at h
  | cons x r => exact ⟨_, _, rfl⟩
theorem ne_dF {F : List Bag} (h : 0 < F.length) : ∃ x r, dF F = .tuple (x :: r) := by
  cases F with
  | nil => simp at h
  | cons x r => exact ⟨_, _, rfl⟩
theorem srtB_leD (G : List Bag) : G.mergeSort (leD dB) = srtB G := by rw [leD_dB]; rfl
theorem srtF_leD (G : List (List Bag)) : G.mergeSort (leD dF) = srtF G := by rw [leD_dF]; rfl
theorem srtP_leD (G : List (Nat × Nat)) : G.mergeSort (leD dP) = srtP G := by rw [leD_dP]; rfl

/-- whole numbers that are an arrangement of naturals -/
theorem nat_list {ys : List Int} {D : List Nat} (h : ys.Perm (D.map Int.ofNat)) : ∃ zs : List Nat, ys = zs.map Int.ofNat ∧ zs.Perm D := by
  refine ⟨ys.map Int.toNat, ?_, ?_⟩
  · rw [List.map_map]
    have e : ys.map (Int.ofNat ∘ Int.toNat) = ys.map id := List.map_congr_left fun y hy => by
      obtain ⟨n, _, rfl⟩ := List.mem_map.mp (h.mem_iff.mp hy)
      rfl
    rw [e, List.map_id]
  · have := h.map Int.toNat
    rw [List.map_map] at this
    refine this.trans ?_
    rw [show (Int.toNat ∘ Int.ofNat) = id from rfl, List.map_id]
theorem beq_cast (i t : Nat) : ((i : Int) == (t : Int)) = decide (t = i) := by
  by_cases e : t = i
  · subst e
    simp
  · rw [decide_eq_false e]
    exact beq_eq_false_iff_ne.mpr (by omega)
theorem asc_nat {zs : List Nat} (h : (zs.map Int.ofNat).Pairwise (· ≤ ·)) : zs.Pairwise (· ≤ ·) := by
  rw [List.pairwise_map] at h
  exact h.imp fun h => Int.ofNat_le.mp h
theorem asc_lt {zs : List Nat} (h : zs.Pairwise (· ≤ ·)) (n : zs.Nodup) : zs.Pairwise (· < ·) :=
  (List.pairwise_and_iff.mpr ⟨h, n⟩).imp fun h => Nat.lt_of_le_of_ne h.1 h.2

/-- a loop over a walk, whatever its body asks -/
theorem loop_it {J : It} {n : Nat} {G : Hp → Prop} {Y : Nat → Hp → V → Hp → Prop} (w : Walk J n G Y) {H : Hp} {Stop : Hp → Prop} {body : V → Hp → (Hp → Prop) → Prop} (Pv : Nat → Hp → Prop) (h0 : Pv 0 H) (hG : ∀ i H, i ≤ n → Pv i H → G H)
    (hs : ∀ i x H H', i < n → Pv i H → Y i H x H' → body x H' (Pv (i + 1))) (hd : ∀ H, Pv n H → Stop H) :
    ∃ W : Nat → Nat → Hp → Prop, (∃ m, W 0 m H) ∧ ∀ i m H, W i m H → (J.stop i H ∧ Stop H) ∨ (J.go i H ∧ ∃ Nx : Hp → Prop, (∀ H', Nx H' → ∃ m', m' < m ∧ W (i + 1) m' H') ∧ ∀ x H', J.yld i H x H' → body x H' Nx) := by
  refine ⟨fun i m H => m = n - i ∧ i ≤ n ∧ Pv i H, ⟨n - 0, rfl, Nat.zero_le _, h0⟩, fun i m H hW => ?_⟩
  obtain ⟨rfl, hi, p⟩ := hW
  have g := hG i H hi p
  by_cases hlt : i < n
  · exact .inr ⟨w.goes i H hlt g, Pv (i + 1), fun H' p' => ⟨n - (i + 1), by omega, rfl, hlt, p'⟩, fun x H' y => hs i x H H' hlt p (w.yields i H x H' hlt g y)⟩
  · have e : i = n := by omega
    subst e
    exact .inl ⟨w.stops H g, hd H p⟩

section
variable {P : Program} {w : World} {K : PySem.W.Frag} {mg : Str → Option Value} {base : Heap}

/-! poured_at -/
theorem scPouredAt : FnScope ["family", "one", "other", "whole", "bead", "index", "bag"] ["family", "one", "other"] (defScope sPouredAt) := ⟨rfl, rfl, rfl, by decide +kernel, rfl, by decide +kernel, by decide +kernel⟩
def spPouredAt (K : PySem.W.Frag) : Sp := fun vs H Q _ => ∃ (v : V) (F : List Bag) (n i j : Nat), vs = [v, .int (i : Int), .int (j : Int)] ∧ IsF K H v F ∧ Fam n F ∧ i < F.length ∧ j < F.length ∧
  ∀ (u : V) (H' : Hp), Same H H' → IsF K H' u (pourM F i j) → Q u H'
theorem ok_pouredAt {f : Addr} {fd : FuncData} (F : Fun K "poured_at" "poured_at" sPouredAt f fd) (B : Blt mg) : FnOk P w K mg base CX0 1 f fd ["family", "one", "other"] (spPouredAt K) := by
  refine F.ok scPouredAt (fun vs H Q E h => ?_) (fun cdv A outer s H vs Q E hr h => ?_)
  · obtain ⟨v, b, n, i, j, rfl, _⟩ := h
    rfl
  · obtain ⟨v, Fm, n, i, j, rfl, hIs, hF, hi, hj, q⟩ := h
    have hIs0 := hIs
    obtain ⟨a, xs, rfl, hS, hP⟩ := hIs
    have hB := fam_bags hF
    have hlen : xs.length = Fm.length := pr_len hP
    have hfew := hF.tree.few
    have hmost := hF.most
    refine ⟨_, pss_cons (ps_set (i := 3) scPouredAt.nd rfl (.inl rfl) (pe_callTy call_tuple_of (by rfl) B.tuple (by decide +kernel) (pa_cons (pe_callB (call_sortedDI rfl) (by rfl) B.sorted (by decide +kernel) (pa_cons
        (pe_dc (own := [("bead", 4)]) (g := gName 4) (tt := tYes) rfl scPouredAt.nd (pi_tup (pe_op op_catT (pe_ix ix_tup (pv 0) (pv 1) (fun _ _ => rfl)) (pe_ix ix_tup (pv 0) (pv 2) (fun _ _ => rfl))))
          (blkOk_by (N := ["family", "one", "other", "whole", "bead", "index", "bag"]) (sc := defScope sPouredAt) (by decide +kernel))
          (fun _ _ _ _ _ => pg_name (i := 4) scPouredAt.nd rfl (.inl rfl) (.inr rfl)) (fun _ _ _ _ _ => pts_nil) (fun _ _ _ _ _ => pv 4) (fun _ _ _ _ _ => pe_bl)) pa_nil)) pa_nil)))
      (pss_one (ps_ret (pe_callTy call_tuple_of (by rfl) B.tuple (by decide +kernel) (pa_cons (pe_callB (cr_sortD dB hr.units alike_dB (fun b => by rw [dep_dB]; decide)) (by rfl) B.sorted (by decide +kernel) (pa_cons
        (pe_op op_cat (pe_lc (own := [("index", 5), ("bag", 6)]) rfl scPouredAt.nd (pi_enumT (by rfl) B.enum (pa_cons (pv 0) pa_nil))
            (blkOk_by (N := ["family", "one", "other", "whole", "bead", "index", "bag"]) (sc := defScope sPouredAt) (by decide +kernel))
            (fun _ _ _ _ _ => pg_tupK (K := K) (n := 2) rfl rfl (pgs_cons (pg_name (i := 5) scPouredAt.nd rfl (.inl rfl) (.inr rfl)) (pgs_cons (pg_name (i := 6) scPouredAt.nd rfl (.inl rfl) (.inr rfl)) pgs_nil)))
            (fun _ _ _ _ _ => pts_one (pt_cmpR (op_notInK (K := K) rfl) (pv 5) (pe_tup (pa_cons (pv 1) (pa_cons (pv 2) pa_nil))) rfl))
            (fun _ _ _ _ _ => pv 6))
          (pe_lst (pa_cons (pv 3) pa_nil))) pa_nil)) pa_nil)))), ?_⟩
    obtain ⟨x, hx, ⟨a1, rfl, ha1⟩⟩ := pr_get' hP (bagAt_get hi)
    obtain ⟨y, hy, ⟨a2, rfl, ha2⟩⟩ := pr_get' hP (bagAt_get hj)
    have big1 := hB.big _ (bagAt_mem hi)
    have big2 := hB.big _ (bagAt_mem hj)
    have sh1 := hF.tree.short (bagAt_mem hi)
    have sh2 := hF.tree.short (bagAt_mem hj)
    -- family[one] + family[other]
    refine ⟨.ref a, rfl, .int (i : Int), rfl, a, xs, (i : Int), .ref a1, rfl, rfl, hS, atI_nat hx, .ref a, rfl, .int (j : Int), rfl, a, xs, (j : Int), .ref a2, rfl, rfl, hS, atI_nat hy, ?_⟩
    refine ⟨a1, a2, _, _, rfl, rfl, ha1, ha2, fun e => ?_, ?_, fun e => ?_, fun _ c nc => ?_⟩
    · have := congrArg List.length e
      rw [iv_len, List.length_nil] at this
      omega
    · rw [iv_len, iv_len]
      exact Nat.le_of_lt (small1000 (by omega))
    · have := congrArg List.length e
      rw [iv_len, List.length_nil] at this
      omega
    have s1 : Same H (upd H c (.tup (iv (bagAt Fm i) ++ iv (bagAt Fm j)))) := sameU nc
    have eC : (upd H c (.tup (iv (bagAt Fm i) ++ iv (bagAt Fm j)))) c = some (.tup (iv (bagAt Fm i ++ bagAt Fm j))) := by rw [upd_same, iv_append]
    generalize upd H c (.tup (iv (bagAt Fm i) ++ iv (bagAt Fm j))) = H1 at s1 eC
    have hC : ∀ {H'}, Same H1 H' → SqT K H' c (iv (bagAt Fm i ++ bagAt Fm j)) := fun s => .inl (.inl (s _ _ eC))
    refine ⟨c, rfl, ⟨_, hC (Same.refl _)⟩, fun D nD => ?_⟩
    have s2 : Same H1 (upd H1 D (.dK [])) := sameU nD
    refine dc_tup (K := K) (xs := iv (bagAt Fm i ++ bagAt Fm j)) (fun t H' => Same H1 H' ∧ ∃ D0, H' D = some (.dK (kd D0)) ∧ Once D0 ((bagAt Fm i ++ bagAt Fm j).take t)) ⟨s2, [], upd_same, once_nil⟩ (fun t H' _ p => hC p.1) (fun t x H3 hx p => ?_) (fun H' p => ?_)
    · obtain ⟨n, hn, rfl⟩ := iv_get hx
      obtain ⟨p1, D0, p2, p3⟩ := p
      dsimp only [tYes]
      refine ⟨rfl, ?_⟩
      rw [if_pos rfl]
      refine ⟨_, rfl, kd D0, Sum.inl (n : Int), rfl, p2, ?_, sameU2 p1 nD, if n ∈ D0 then D0 else D0 ++ [n], ?_, ?_⟩
      · rw [kd_len]
        have := p3.len
        rw [List.length_take, List.length_append] at this
        exact small1000 (by omega)
      · rw [upd_same, kd_put]
      · rw [List.take_add_one, hn]
        exact p3.step
    · obtain ⟨p1, D0, p2, p3⟩ := p
      rw [iv_len, List.take_length] at p3
      have hl3 := p3.len
      rw [List.length_append] at hl3
      refine ⟨D, kd D0, D0.map Int.ofNat, rfl, .inl p2, ?_, ?_, fun ys l pm asc nl => ?_⟩
      · unfold kd
        rw [List.map_map, List.map_map]
        rfl
      · rw [List.length_map]
        omega
      obtain ⟨zs, rfl, pz⟩ := nat_list pm
      have hz : zs = wholeM (bagAt Fm i) (bagAt Fm j) := wholeM_eq (asc_lt (asc_nat asc) (pz.nodup_iff.mpr p3.nd)) (fun x => by rw [pz.mem_iff, p3.mem, List.mem_append]) (fun x hx => by have := hF.tree.lt _ (bagAt_mem hi) x hx; omega) (fun x hx => by have := hF.tree.lt _ (bagAt_mem hj) x hx; omega)
      subst hz
      refine ⟨l, _, rfl, .inl ⟨.inl (.inl upd_same), fun wh nwh => ?_⟩⟩
      have s3 : Same H' (upd H' l (.lst (iv (wholeM (bagAt Fm i) (bagAt Fm j))))) := sameU nl
      have s4 : Same H (upd (upd H' l (.lst (iv (wholeM (bagAt Fm i) (bagAt Fm j))))) wh (.tup (iv (wholeM (bagAt Fm i) (bagAt Fm j))))) := (s1.trans p1).trans (s3.trans (sameU nwh))
      have eW : (upd (upd H' l (.lst (iv (wholeM (bagAt Fm i) (bagAt Fm j))))) wh (.tup (iv (wholeM (bagAt Fm i) (bagAt Fm j))))) wh = some (.tup (iv (wholeM (bagAt Fm i) (bagAt Fm j)))) := upd_same
      show _
      generalize upd (upd H' l (.lst (iv (wholeM (bagAt Fm i) (bagAt Fm j))))) wh (.tup (iv (wholeM (bagAt Fm i) (bagAt Fm j)))) = H2 at s4 eW
      have hS2 : ∀ {H'}, Same H2 H' → SqT K H' a xs := fun s => seqT (s4.trans s) hS
      -- the others
      refine ⟨.ref a, rfl, a, xs, rfl, hS2 (Same.refl _), fun L nL => ?_⟩
      have s5 : Same H2 (upd H2 L (.lst [])) := sameU nL
      refine lc_it walk_enumT (fun t H' => Same H2 H' ∧ ∃ vs, H' L = some (.lst vs) ∧ Paired (IsB K H) vs (restM Fm i j t)) ⟨s5, [], upd_same, by rw [restM_zero]; exact .nil⟩ (fun t H' _ p => hS2 p.1) (fun t x H3 H4 ht p y => ?_) (fun H' p => ?_)
      · obtain ⟨p1, vs, p2, p3⟩ := p
        obtain ⟨T, u, v, rfl, nT, rfl, hu, hv⟩ := y
        have hu : u = .int (t : Int) := (Option.some.inj hu).symm
        subst hu
        obtain ⟨bag, hb, hbag⟩ := pr_get hP hv
        have eb := bagAt_of hb
        have s6 : Same H2 (upd H3 T (.tup [.int (t : Nat), v])) := p1.trans (sameU nT)
        have e6 : (upd H3 T (.tup [.int (t : Nat), v])) L = some (.lst vs) := by
          rw [upd_ne (ne_of_none p2 nT)]
          exact p2
        refine ⟨T, _, rfl, .inl (.inl upd_same), rfl, .int (t : Int), [v], rfl, v, [], rfl, rfl, rfl, ?_⟩
        refine ⟨_, rfl, _, rfl, _, rfl, by show 2 ≤ sizeLine; decide, fun tp ntp => ?_⟩
        have s7 : Same H2 (upd (upd H3 T (.tup [.int (t : Nat), v])) tp (.tup [.int (i : Int), .int (j : Int)])) := s6.trans (sameU ntp)
        have e7 : (upd (upd H3 T (.tup [.int (t : Nat), v])) tp (.tup [.int (i : Int), .int (j : Int)])) L = some (.lst vs) := by
          rw [upd_ne (ne_of_none e6 ntp)]
          exact e6
        refine ⟨tp, _, rfl, .inr (.inl (.inl upd_same)), rfl, rfl, decide (t ≠ i ∧ t ≠ j), ?_, ?_⟩
        · have h1 := beq_cast i t
          have h2 := beq_cast j t
          show V.bl (!(((i : Int) == (t : Int)) || (((j : Int) == (t : Int)) || false))) = _
          rw [h1, h2]
          by_cases z1 : t = i <;> by_cases z2 : t = j <;> simp [z1, z2]
        · have hl2 : vs.length ≤ 100 := by
            rw [pr_len p3]
            unfold restM
            rw [List.length_map]
            have := List.length_filter_le (fun k => decide (k ≠ i ∧ k ≠ j)) (List.range t)
            rw [List.length_range] at this
            omega
          by_cases hz : t ≠ i ∧ t ≠ j
          · rw [decide_eq_true hz]
            refine iteT ⟨v, rfl, vs, e7, small1000 (by omega), sameU2 s7 nL, vs ++ [v], upd_same, ?_⟩
            rw [restM_succ, if_pos hz, eb]
            exact pr_app p3 (.cons hbag .nil)
          · rw [decide_eq_false hz]
            refine iteF ⟨s7, vs, e7, ?_⟩
            rw [restM_succ, if_neg hz, List.append_nil]
            exact p3
      · obtain ⟨p1, vs, p2, p3⟩ := p
        rw [hlen] at p3
        have hl2 : vs.length ≤ 100 := by
          rw [pr_len p3]
          unfold restM
          rw [List.length_map]
          have := List.length_filter_le (fun k => decide (k ≠ i ∧ k ≠ j)) (List.range Fm.length)
          rw [List.length_range] at this
          omega
        refine ⟨.ref wh, rfl, by show 1 ≤ sizeLine; decide, fun l2 nl2 => ?_⟩
        have s6 : Same H2 (upd H' l2 (.lst [.ref wh])) := p1.trans (sameU nl2)
        refine ⟨L, l2, vs, [.ref wh], rfl, rfl, (by rw [upd_ne (ne_of_none p2 nl2)]; exact p2), upd_same, ?_, fun l3 nl3 => ?_⟩
        · exact Nat.le_of_lt (small1000 (by rw [List.length_singleton]; omega))
        have s7 := s6.trans (sameU (o := .lst (vs ++ [.ref wh])) nl3)
        have s8 := s4.trans s7
        dsimp only [tNil]
        refine rSD_any (R := IsB K) (G := restM Fm i j Fm.length ++ [wholeM (bagAt Fm i) (bagAt Fm j)]) (.inl (.inl upd_same)) (pr_app (pB_same p3 s8) (.cons ⟨wh, rfl, .inl (.inl (s7 _ _ eW))⟩ .nil)) (fun _ _ h => h.dp) (fun b hb => ne_dB ?_) fun l4 vs4 hv4 nl4 => ?_
        · rcases List.mem_append.mp hb with hb | hb
          · obtain ⟨k, hk, _, _, rfl⟩ := mem_restM.mp hb
            have := hB.big _ (bagAt_mem hk)
            omega
          · rw [List.mem_singleton.mp hb]
            have hm : lastB (bagAt Fm i) ∈ wholeM (bagAt Fm i) (bagAt Fm j) := mem_wholeM.mpr ⟨by have := hF.tree.lt _ (bagAt_mem hi) _ (last_mem (by omega)); omega, .inl (last_mem (by omega))⟩
            exact List.length_pos_of_mem hm
        · rw [srtB_leD] at hv4
          have s9 := sameU (o := .lst vs4) nl4
          refine ⟨l4, vs4, rfl, .inl ⟨.inl (.inl upd_same), fun t4 nt4 => ?_⟩⟩
          have s10 := s9.trans (sameU (o := .tup vs4) nt4)
          exact q _ _ (s8.trans s10) ⟨t4, vs4, rfl, .inl (.inl upd_same), pB_same hv4 s10⟩
end
end Sb

/-! SbH -/
namespace Sb
open PySem PySem.Spec PyProof.Rows L2 SB

theorem flat_len {α β : Type} {f : α → List β} {c : Nat} : ∀ {l : List α}, (∀ a ∈ l, (f a).length ≤ c) → (l.flatMap f).length ≤ l.length * c
  | [], _ => by simp
  | a :: l, h => by
    rw [List.flatMap_cons, List.length_append, List.length_cons, Nat.succ_mul]
    have h1 := h a (List.mem_cons_self ..)
    have h2 := flat_len (l := l) fun b hb => h b (List.mem_cons_of_mem _ hb)
    omega
def rowOf (l : List Nat) (i : Nat) : List (Nat × Nat) := (l.filter fun j => decide (i < j)).map fun j => (i, j)
theorem pairsOf_eq (l : List Nat) : pairsOf l = l.flatMap (rowOf l) := rfl
theorem row_len (l : List Nat) (i : Nat) : (rowOf l i).length ≤ l.length := by
  unfold rowOf
  rw [List.length_map]
  exact List.length_filter_le _ _
theorem flat_take {α β : Type} {f : α → List β} {l : List α} {i : Nat} {x : α} (h : l[i]? = some x) : (l.take (i + 1)).flatMap f = (l.take i).flatMap f ++ f x := by
  rw [List.take_add_one, h, List.flatMap_append]
  simp

section
variable {P : Program} {w : World} {K : PySem.W.Frag} {mg : Str → Option Value} {base : Heap}

/-! pairs_of -/
theorem scPairs : FnScope ["family", "found", "told", "one", "other"] ["family"] (defScope sPairs) := ⟨rfl, rfl, rfl, by decide +kernel, rfl, by decide +kernel, by decide +kernel⟩
def spPairs (K : PySem.W.Frag) : Sp := fun vs H Q _ => ∃ (v : V) (F : List Bag) (n : Nat), vs = [v] ∧ IsF K H v F ∧ Fam n F ∧
  ∀ (p : Addr) (xs : List V) (H' : Hp), Same H H' → H p = none → H' p = some (.lst xs) → Paired (IsP K H') xs (pairsM F) → Q (.ref p) H'
theorem ok_pairs {f : Addr} {fd : FuncData} (F : Fun K "pairs_of" "pairs_of" sPairs f fd) (B : Blt mg) (C1 : Cal P w K mg base "homes_of" 2 ["bags"] (spHomes K)) : FnOk P w K mg base CX0 3 f fd ["family"] (spPairs K) := by
  obtain ⟨f1, fd1, G1, g1, k1, b1⟩ := C1
  refine F.ok scPairs (fun vs H Q E h => ?_) (fun cdv A outer s H vs Q E hr h => ?_)
  · obtain ⟨v, b, n, rfl, _⟩ := h
    rfl
  · obtain ⟨v, Fm, n, rfl, hIs, hF, q⟩ := h
    have hfew := hF.tree.few
    have hmost := hF.most
    have hIs0 := hIs
    obtain ⟨a, xs, rfl, hS, hP⟩ := hIs
    refine ⟨_, pss_cons (ps_set (i := 1) scPairs.nd rfl (.inl rfl) (pe_lst pa_nil))
      (pss_cons (ps_for PassesOwn.never rfl (pi_list (pe_call G1 hr (by rfl) g1 k1 b1 .nil pass0 (pa_cons (pv 0) pa_nil))) (pg_name (i := 2) scPairs.nd rfl (.inr rfl))
        (pss_one (ps_set (i := 1) scPairs.nd rfl (.inl rfl) (pe_op op_cat (pv 1)
          (pe_lc2 (own := [("one", 3), ("other", 4)]) (vs1 := [4]) (g := gName 3) (g1 := gName 4) (tt := tYes) rfl scPairs.nd (pi_list (pv 2))
            (blkOk_by (N := ["family", "found", "told", "one", "other"]) (sc := defScope sPairs) (by decide +kernel)) (by decide)
            (fun _ _ _ _ _ => pg_name (i := 3) scPairs.nd rfl (.inl rfl) (.inr rfl)) (fun _ _ _ _ _ => pts_nil)
            (fun _ _ _ _ _ => pi_listK (K := K) rfl (pv 2))
            (fun _ _ _ _ _ => pg_name (i := 4) scPairs.nd rfl (.inl rfl) (.inr rfl)) (fun _ _ _ _ _ => pts_one (pt_cmpR op_lt (pv 3) (pv 4) (nomark _)))
            (fun _ _ _ _ _ => pe_tup (pa_cons (pv 3) (pa_cons (pv 4) pa_nil))))))))
      (pss_one (ps_ret (pe_callB (cr_sortD dP hr.units alike_dP (fun p => by rw [dep_dP]; decide)) (by rfl) B.sorted (by decide +kernel) (pa_cons (pv 1) pa_nil))))), ?_⟩
    refine ⟨by decide, fun d0 nd0 => ?_⟩
    have s0 : Same H (upd H d0 (.lst [])) := sameU nd0
    refine ⟨.ref a, rfl, _, Fm, n, rfl, hIs0.same s0, hF, fun D rs H1 s1 nD hD hrs hrr => ⟨D, rfl, ⟨_, .inl (.inl hD)⟩, ?_⟩⟩
    have hD' : ∀ {H'}, Same H1 H' → SqL K H' D (rs.map V.ref) := fun s => .inl (.inl (s _ _ hD))
    refine for_it (walk_list (xs := rs.map V.ref)) (fun b σ H2 => ∃ y2 d ps, σ = [some (.ref a), some (.ref d), y2, none, none] ∧ Same H1 H2 ∧ H2 d = some (.lst ps) ∧ Paired (IsP K H2) ps ((List.range b).flatMap fun b => pairsOf (homesAt Fm b)))
      ⟨_, d0, [], rfl, Same.refl _, s1 _ _ upd_same, .nil⟩ (fun b σ H2 _ p => by
        obtain ⟨_, _, _, _, p, _⟩ := p
        exact hD' p) (fun b x σ H3 H4 hb p y => ?_) (fun σ H2 p => ?_)
    · obtain ⟨y2, d, ps, rfl, p1, p2, p3⟩ := p
      obtain ⟨rfl, hx⟩ := y
      rw [List.length_map] at hb
      rw [List.getElem?_map] at hx
      obtain ⟨r, hr1, rfl⟩ : ∃ r, rs[b]? = some r ∧ x = .ref r := by
        cases e : rs[b]? with
        | none =>
          rw [e] at hx
          cases hx
        | some r =>
          rw [e] at hx
          exact ⟨r, rfl, (Option.some.inj hx).symm⟩
      have hT : ∀ {H'}, Same H4 H' → SqL K H' r (iv (homesAt Fm b)) := fun s => .inl (.inl (s _ _ (p1 _ _ (hrr b r hr1))))
      generalize hh : homesAt Fm b = told at hT
      have htl : told.length ≤ 13 := by
        rw [← hh]
        have := hom_len Fm Fm.length b
        rw [hom_all] at this
        omega
      refine ⟨.ref d, rfl, .ref r, rfl, r, rfl, ⟨_, hT (Same.refl _)⟩, fun L nL => ?_⟩
      have s2 : Same H4 (upd H4 L (.lst [])) := sameU nL
      refine loop_it (walk_list (xs := iv told)) (fun t H' => Same H4 H' ∧ ∃ qs, H' L = some (.lst qs) ∧ Paired (IsP K H') qs ((told.take t).flatMap (rowOf told))) ⟨s2, [], upd_same, .nil⟩ (fun t H' _ p => hT p.1) (fun t x H5 H6 ht p y => ?_) (fun H' p => ?_)
      · obtain ⟨m1, qs, m2, m3⟩ := p
        obtain ⟨rfl, hx⟩ := y
        obtain ⟨i, hi, rfl⟩ := iv_get hx
        dsimp only [tYes]
        refine ⟨rfl, ?_⟩
        rw [if_pos rfl]
        refine ⟨_, rfl, r, rfl, ⟨_, hT m1⟩, ?_⟩
        refine loop_it (walk_list (xs := iv told)) (fun j H' => Same H4 H' ∧ ∃ qs, H' L = some (.lst qs) ∧ Paired (IsP K H') qs ((told.take t).flatMap (rowOf told) ++ ((told.take j).filter fun j => decide (i < j)).map fun j => (i, j))) ⟨m1, qs, m2, by simpa using m3⟩ (fun t H' _ p => hT p.1) (fun j x H5 H7 hj p y => ?_) (fun H' p => ?_)
        · obtain ⟨l1, zs, l2, l3⟩ := p
          obtain ⟨rfl, hx⟩ := y
          obtain ⟨k, hk, rfl⟩ := iv_get hx
          have hlen : zs.length ≤ 200 := by
            rw [pr_len l3, List.length_append, List.length_map]
            have h1 := flat_len (f := rowOf told) (c := 13) (l := told.take t) fun i _ => Nat.le_trans (row_len told i) htl
            have h2 := List.length_filter_le (fun j => decide (i < j)) (told.take j)
            rw [List.length_take] at h1 h2
            have h3 : min t told.length ≤ 13 := by omega
            have h4 : min t told.length * 13 ≤ 13 * 13 := Nat.mul_le_mul_right _ h3
            omega
          have ek : told.take (j + 1) = told.take j ++ [k] := by
            rw [List.take_add_one, hk]
            rfl
          refine ⟨rfl, _, rfl, _, rfl, (i : Int), (k : Int), rfl, rfl, decide (i < k), ?_, ?_⟩
          · show V.bl (decide ((i : Int) < (k : Int))) = _
            congr 1
            rw [decide_eq_decide]
            omega
          · by_cases hik : i < k
            · rw [decide_eq_true hik]
              refine iteT ⟨_, rfl, _, rfl, by show 2 ≤ sizeLine; decide, fun tp ntp => ?_⟩
              have s3 : Same H7 (upd H7 tp (.tup [.int (i : Int), .int (k : Int)])) := sameU ntp
              have e3 : (upd H7 tp (.tup [.int (i : Int), .int (k : Int)])) L = some (.lst zs) := s3 _ _ l2
              have s5 : Same H4 (upd (upd H7 tp (.tup [.int (i : Int), .int (k : Int)])) L (.lst (zs ++ [.ref tp]))) := sameU2 (l1.trans s3) nL
              refine ⟨zs, e3, small1000 (by omega), s5, zs ++ [.ref tp], upd_same, ?_⟩
              have htL : tp ≠ L := fun z => by
                rw [z, l2] at ntp
                cases ntp
              have keep : ∀ {v p}, IsP K H7 v p → IsP K (upd (upd H7 tp (.tup [.int (i : Int), .int (k : Int)])) L (.lst (zs ++ [.ref tp]))) v p := fun {v p} h => by
                obtain ⟨c, e, h⟩ := h
                refine ⟨c, e, ?_⟩
                rcases seqT s3 h with (h | ⟨o, h⟩) | h
                · refine .inl (.inl ?_)
                  rw [upd_ne (ne_of h e3 (by intro z; cases z))]
                  exact h
                · refine .inl (.inr ⟨o, ?_⟩)
                  rw [upd_ne (ne_of h e3 (by intro z; cases z))]
                  exact h
                · exact .inr h
              rw [ek, List.filter_append, List.map_append, ← List.append_assoc]
              refine pr_app (pr_imp (fun _ _ h => keep h) l3) ?_
              rw [List.filter_cons, if_pos (decide_eq_true hik)]
              exact .cons ⟨tp, rfl, .inl (.inl (by rw [upd_ne htL, upd_same]))⟩ .nil
            · rw [decide_eq_false hik]
              refine iteF ⟨l1, zs, l2, ?_⟩
              rw [ek, List.filter_append, List.map_append]
              have e : ([k].filter fun j => decide (i < j)) = [] := by
                rw [List.filter_cons, if_neg (by rw [decide_eq_true_iff]; exact hik)]
                rfl
              rw [e, List.map_nil, List.append_nil]
              exact l3
        · obtain ⟨l1, zs, l2, l3⟩ := p
          refine ⟨l1, zs, l2, ?_⟩
          rw [iv_len, List.take_length] at l3
          rw [flat_take hi]
          exact l3
      · obtain ⟨m1, qs, m2, m3⟩ := p
        rw [iv_len, List.take_length] at m3
        have eq1 : told.flatMap (rowOf told) = pairsOf told := rfl
        rw [eq1] at m3
        have hq : qs.length ≤ 13 * 13 := by
          rw [pr_len m3, pairsOf_eq]
          refine Nat.le_trans (flat_len (c := 13) fun i _ => Nat.le_trans (row_len told i) htl) ?_
          exact Nat.mul_le_mul_right _ htl
        have hp : ps.length ≤ 14 * 169 := by
          rw [pr_len p3]
          refine Nat.le_trans (flat_len (c := 169) fun b' _ => ?_) ?_
          · rw [pairsOf_eq]
            have hl : (homesAt Fm b').length ≤ 13 := by
              have := hom_len Fm Fm.length b'
              rw [hom_all] at this
              omega
            refine Nat.le_trans (flat_len (c := 13) fun i _ => Nat.le_trans (row_len _ i) hl) ?_
            exact Nat.mul_le_mul_right 13 hl
          · rw [List.length_range]
            exact Nat.mul_le_mul_right _ (by omega)
        have hdL : H' d = some (.lst ps) := m1 _ _ p2
        refine ⟨d, L, ps, qs, rfl, rfl, hdL, m2, ?_, fun nw nnw => ?_⟩
        · refine Nat.le_trans (m := 14 * 169 + 13 * 13) (by omega) ?_
          decide
        · have s4 : Same H' (upd H' nw (.lst (ps ++ qs))) := sameU nnw
          refine ⟨_, nw, ps ++ qs, rfl, (p1.trans m1).trans s4, upd_same, ?_⟩
          rw [List.range_succ, List.flatMap_append]
          refine pr_app (pr_imp (fun _ _ h => h.same (m1.trans s4)) p3) ?_
          have e1 : ([b].flatMap fun b => pairsOf (homesAt Fm b)) = pairsOf told := by
            rw [← hh]
            simp
          rw [e1]
          exact pr_imp (fun _ _ h => h.same s4) m3
    · obtain ⟨y2, d, ps, rfl, p1, p2, p3⟩ := p
      rw [List.length_map, hrs] at p3
      refine ⟨.ref d, rfl, ?_⟩
      dsimp only [tNil]
      refine rSD_any (R := IsP K) (.inl (.inl p2)) p3 (fun _ _ h => h.dp) (fun p _ => ⟨_, _, rfl⟩) fun l vs' hv nl => ?_
      rw [srtP_leD] at hv
      have hv2 : Paired (IsP K H2) vs' (pairsM Fm) := by
        rw [← srtP_pairs hF.tree]
        exact hv
      have s2 := (s0.trans s1).trans p1
      exact q l vs' _ (s2.trans (sameU nl)) (s2.free nl) upd_same (pr_imp (fun _ _ h => h.same (sameU nl)) hv2)

/-! pours -/
theorem scPours : FnScope ["family"] ["family"] (defScope sPours) := ⟨rfl, rfl, rfl, by decide +kernel, rfl, by decide +kernel, by decide +kernel⟩
def spPours (K : PySem.W.Frag) : Sp := fun vs H Q _ => ∃ (v : V) (F : List Bag) (n : Nat), vs = [v] ∧ IsF K H v F ∧ Fam n F ∧
  ∀ (p : Addr) (xs : List V) (H' : Hp), Same H H' → SqT K H' p xs → Paired (IsP K H') xs (pairsM F) → Q (.ref p) H'
theorem ok_pours {f : Addr} {fd : FuncData} (F : Fun K "pours" "pours" sPours f fd) (B : Blt mg) (C1 : Cal P w K mg base "need_family" 5 ["value"] (spBar K)) (C2 : Cal P w K mg base "pairs_of" 3 ["family"] (spPairs K)) : FnOk P w K mg base CX0 6 f fd ["family"] (spPours K) := by
  obtain ⟨f1, fd1, G1, g1, k1, b1⟩ := C1
  obtain ⟨f2, fd2, G2, g2, k2, b2⟩ := C2
  refine F.ok scPours (fun vs H Q E h => ?_) (fun cdv A outer s H vs Q E hr h => ?_)
  · obtain ⟨v, b, n, rfl, _⟩ := h
    rfl
  · obtain ⟨v, Fm, n, rfl, hIs, hF, q⟩ := h
    refine ⟨_, pss_cons (ps_expr (pe_call G1 hr (by rfl) g1 k1 b1 .nil pass0 (pa_cons (pv 0) pa_nil)))
      (pss_one (ps_ret (pe_callTy call_tuple_of (by rfl) B.tuple (by decide +kernel) (pa_cons (pe_call G2 (hr.mono (by decide)) (by rfl) g2 k2 b2 .nil pass0 (pa_cons (pv 0) pa_nil)) pa_nil)))), ?_⟩
    refine ⟨v, rfl, v, Fm, n, rfl, hIs, hF, fun H1 s1 => ?_⟩
    refine ⟨v, rfl, v, Fm, n, rfl, hIs.same s1, hF, fun p xs H2 s2 np hp hP => ?_⟩
    refine ⟨p, xs, rfl, .inl ⟨.inl (.inl hp), fun t nt => ?_⟩⟩
    exact q t xs _ ((s1.trans s2).trans (sameU nt)) (.inl (.inl upd_same)) (pr_imp (fun _ _ h => h.same (sameU nt)) hP)
end
end Sb

/-! SbI -/
namespace Sb
open PySem PySem.Spec PyProof.Rows L2 SB

theorem meet_some {A B : Bag} {x : Nat} (h1 : x ∈ A) (h2 : x ∈ B) : ((meet A B).map dN).isEmpty = false := by
  have h : x ∈ meet A B := List.mem_filter.mpr ⟨h1, decide_eq_true h2⟩
  cases e : meet A B with
  | nil =>
    rw [e] at h
    cases h
  | cons y r => rfl

section
variable {P : Program} {w : World} {K : PySem.W.Frag} {mg : Str → Option Value} {base : Heap}

/-! pour -/
theorem scPour : FnScope ["family", "one", "other"] ["family", "one", "other"] (defScope sPour) := ⟨rfl, rfl, rfl, by decide +kernel, rfl, by decide +kernel, by decide +kernel⟩
def spPour (K : PySem.W.Frag) : Sp := fun vs H Q _ => ∃ (v : V) (F : List Bag) (n i j : Nat), vs = [v, .int (i : Int), .int (j : Int)] ∧ IsF K H v F ∧ Fam n F ∧ i < F.length ∧ j < F.length ∧ i ≠ j ∧ (∃ x, x ∈ bagAt F i ∧ x ∈ bagAt F j) ∧
  ∀ (u : V) (H' : Hp), Same H H' → IsF K H' u (pourM F i j) → Q u H'
theorem ok_pour {f : Addr} {fd : FuncData} (F : Fun K "pour" "pour" sPour f fd) (B : Blt mg) (C1 : Cal P w K mg base "need_family" 5 ["value"] (spBar K)) (C2 : Cal P w K mg base "is_in" 2 ["value", "least", "most"] spIsIn)
    (C3 : Cal P w K mg base "shared_by" 1 ["one", "other"] (spShared K)) (C4 : Cal P w K mg base "poured_at" 1 ["family", "one", "other"] (spPouredAt K)) : FnOk P w K mg base CX0 6 f fd ["family", "one", "other"] (spPour K) := by
  obtain ⟨f1, fd1, G1, g1, k1, b1⟩ := C1
  obtain ⟨f2, fd2, G2, g2, k2, b2⟩ := C2
  obtain ⟨f3, fd3, G3, g3, k3, b3⟩ := C3
  obtain ⟨f4, fd4, G4, g4, k4, b4⟩ := C4
  refine F.ok scPour (fun vs H Q E h => ?_) (fun cdv A outer s H vs Q E hr h => ?_)
  · obtain ⟨v, b, n, i, j, rfl, _⟩ := h
    rfl
  · obtain ⟨v, Fm, n, i, j, rfl, hIs, hF, hi, hj, hij, ⟨z, hz1, hz2⟩, q⟩ := h
    have hB := fam_bags hF
    refine ⟨_, pss_cons (ps_expr (pe_call G1 hr (by rfl) g1 k1 b1 .nil pass0 (pa_cons (pv 0) pa_nil)))
      (pss_cons (ps_if (PW.pt (pw_or (pt_not (pt_val (pe_call G2 (hr.mono (by decide)) (by rfl) g2 k2 b2 .nil pass0 (pa_cons (pv 1) (pa_cons pe_int (pa_cons (pe_op op_sub (pe_callB call_len_seq (by rfl) B.len PySem.boot_len (pa_cons (pv 0) pa_nil)) pe_int) pa_nil))))))
        (pw_or (pt_not (pt_val (pe_call G2 (hr.mono (by decide)) (by rfl) g2 k2 b2 .nil pass0 (pa_cons (pv 2) (pa_cons pe_int (pa_cons (pe_op op_sub (pe_callB call_len_seq (by rfl) B.len PySem.boot_len (pa_cons (pv 0) pa_nil)) pe_int) pa_nil))))))
          (pw_or1 (pt_cmpR op_eq (pv 1) (pv 2) (nomark _)))))) pss_never pss_nil)
      (pss_cons (ps_if (pt_cmpR (op_eqD hr.units) (pe_call G3 (hr.mono (by decide)) (by rfl) g3 k3 b3 .nil pass0 (pa_cons (pe_ix ix_tup (pv 0) (pv 1) (fun _ _ => rfl)) (pa_cons (pe_ix ix_tup (pv 0) (pv 2) (fun _ _ => rfl)) pa_nil))) (pe_lst pa_nil) (nomark _)) pss_never pss_nil)
      (pss_one (ps_ret (pe_call G4 (hr.mono (by decide)) (by rfl) g4 k4 b4 .nil pass0 (pa_cons (pv 0) (pa_cons (pv 1) (pa_cons (pv 2) pa_nil)))))))), ?_⟩
    refine ⟨v, rfl, v, Fm, n, rfl, hIs, hF, fun H1 s1 => ?_⟩
    have hIs1 := hIs.same s1
    have hIs1' := hIs1
    obtain ⟨a, xs, rfl, hS, hP⟩ := hIs1
    have hlen : xs.length = Fm.length := pr_len hP
    refine ⟨.int (i : Int), rfl, .ref a, rfl, a, xs, rfl, .inr hS, _, _, rfl, rfl, (i : Int), 0, _, rfl, Int.natCast_nonneg _, by omega, true, rfl, iteF ?_⟩
    refine ⟨.int (j : Int), rfl, .ref a, rfl, a, xs, rfl, .inr hS, _, _, rfl, rfl, (j : Int), 0, _, rfl, Int.natCast_nonneg _, by omega, true, rfl, iteF ?_⟩
    refine ⟨.int (i : Int), rfl, .int (j : Int), rfl, rfl, false, ?_, iteF ?_⟩
    · rw [decide_eq_false]
      intro e
      exact hij (Int.ofNat.inj (V.int.inj e))
    obtain ⟨x, hx, hxb⟩ := pr_get' hP (bagAt_get hi)
    obtain ⟨y, hy, hyb⟩ := pr_get' hP (bagAt_get hj)
    refine ⟨.ref a, rfl, .int (i : Int), rfl, a, xs, (i : Int), x, rfl, rfl, hS, atI_nat hx, .ref a, rfl, .int (j : Int), rfl, a, xs, (j : Int), y, rfl, rfl, hS, atI_nat hy, x, y, bagAt Fm i, bagAt Fm j, rfl, hxb, hyb, hB.short _ (bagAt_mem hi), hB.short _ (bagAt_mem hj), fun p0 H2 s2 np0 hp0 => ?_⟩
    refine ⟨by decide, fun e ne => ?_⟩
    have s3 : Same H2 (upd H2 e (.lst [])) := sameU ne
    refine ⟨dL (meet (bagAt Fm i) (bagAt Fm j)), .list [], .lst (.inl (.inl (s3 _ _ hp0))) (dp_ints _), .lst (.inl (.inl upd_same)) .nil, shaped_dL _, shaped_nilL, false, ?_, iteF ?_⟩
    · unfold dL
      rw [eqv_nilL, meet_some hz1 hz2]
    · exact ⟨.ref a, rfl, .int (i : Int), rfl, .int (j : Int), rfl, .ref a, Fm, n, i, j, rfl, hIs1'.same (s2.trans s3), hF, hi, hj, fun u H' s4 hu => q u H' ((s1.trans (s2.trans s3)).trans s4) hu⟩

/-! part_number -/
theorem scPartNo : FnScope ["family", "bag"] ["family"] (defScope sPartNo) := ⟨rfl, rfl, rfl, by decide +kernel, rfl, by decide +kernel, by decide +kernel⟩
def spPartNo (K : PySem.W.Frag) : Sp := fun vs H Q _ => ∃ (v : V) (F : List Bag) (n : Nat), vs = [v] ∧ IsF K H v F ∧ Fam n F ∧ ∀ (z : Int) (H' : Hp), Same H H' → Q (.int z) H'
theorem ok_partNo {f : Addr} {fd : FuncData} (F : Fun K "part_number" "part_number" sPartNo f fd) (B : Blt mg) : FnOk P w K mg base CX0 1 f fd ["family"] (spPartNo K) := by
  refine F.ok scPartNo (fun vs H Q E h => ?_) (fun cdv A outer s H vs Q E hr h => ?_)
  · obtain ⟨v, b, n, rfl, _⟩ := h
    rfl
  · obtain ⟨v, Fm, n, rfl, ⟨a, xs, rfl, hS, hP⟩, hF, q⟩ := h
    have hB := fam_bags hF
    have hlen : xs.length = Fm.length := pr_len hP
    have hfew := hF.tree.few
    have hmost := hF.most
    refine ⟨_, pss_one (ps_ret (pe_callB (cr_sum rfl) (by rfl) B.sum (by decide +kernel) (pa_cons
      (pe_lc (own := [("bag", 1)]) (g := gName 1) (tt := tYes) rfl scPartNo.nd (pi_tup (pv 0))
        (blkOk_by (N := ["family", "bag"]) (sc := defScope sPartNo) (by decide +kernel))
        (fun _ _ _ _ _ => pg_name (i := 1) scPartNo.nd rfl (.inl rfl) (.inr rfl)) (fun _ _ _ _ _ => pts_nil)
        (fun _ _ _ _ _ => pe_mul (pe_callB (call_lenK (K := K) rfl) (by rfl) B.len PySem.boot_len (pa_cons (pv 1) pa_nil))
          (pe_op op_sub (pe_op op_shl pe_int (pe_op op_sub (pe_callB (call_lenK (K := K) rfl) (by rfl) B.len PySem.boot_len (pa_cons (pv 1) pa_nil)) pe_int)) pe_int))) pa_nil))), ?_⟩
    refine ⟨.ref a, rfl, a, rfl, ⟨_, hS⟩, fun L nL => ?_⟩
    refine lc_it walk_tup (fun i H' => Same H H' ∧ ∃ zs : List Int, zs.length = i ∧ H' L = some (.lst (zs.map V.int))) ⟨sameU nL, [], rfl, upd_same⟩ (fun i H' _ p => seqT p.1 hS) (fun i x H5 H6 hi p y => ?_) (fun H' p => ?_)
    · obtain ⟨rfl, hx⟩ := y
      obtain ⟨p1, zs, p2, p3⟩ := p
      obtain ⟨b, hb, ⟨a1, rfl, h1⟩⟩ := pr_get hP hx
      have hbm := List.mem_of_getElem? hb
      have hb2 := hB.big b hbm
      have hb3 := hF.tree.short hbm
      dsimp only [tYes]
      refine ⟨rfl, ?_⟩
      rw [if_pos rfl]
      refine ⟨_, rfl, a1, iv b, rfl, .inr (seqT p1 h1), _, rfl, a1, iv b, rfl, .inr (seqT p1 h1), _, _, rfl, rfl, _, _, rfl, rfl, ?_, _, _, rfl, rfl, _, _, rfl, rfl, ?_, zs.map V.int, p3, ?_, sameU2 p1 nL, zs ++ [((iv b).length : Int) * (1 * 2 ^ (((iv b).length : Int) - 2).toNat - 1)], ?_, ?_⟩
      · rw [iv_len]
        exact ⟨by omega, by omega, by decide⟩
      · rw [iv_len]
        omega
      · rw [List.length_map]
        exact small1000 (by omega)
      · rw [List.length_append, p2]
        rfl
      · rw [upd_same, List.map_append]
        rfl
    · obtain ⟨p1, zs, p2, p3⟩ := p
      exact ⟨L, zs, rfl, .inl (.inl p3), q _ _ p1⟩

/-! moves -/
theorem scMoves : FnScope ["family"] ["family"] (defScope sMoves) := ⟨rfl, rfl, rfl, by decide +kernel, rfl, by decide +kernel, by decide +kernel⟩
def spMoves (K : PySem.W.Frag) : Sp := fun vs H Q _ => ∃ (v : V) (F : List Bag) (n : Nat), vs = [v] ∧ IsF K H v F ∧ Fam n F ∧
  ∀ (p : Addr) (z : Int) (H' : Hp), Same H H' → SqT K H' p [.int ((pairsM F).length : Int), .int z] → Q (.ref p) H'
theorem ok_moves {f : Addr} {fd : FuncData} (F : Fun K "moves" "moves" sMoves f fd) (B : Blt mg) (C1 : Cal P w K mg base "need_family" 5 ["value"] (spBar K)) (C2 : Cal P w K mg base "pairs_of" 3 ["family"] (spPairs K)) (C3 : Cal P w K mg base "part_number" 1 ["family"] (spPartNo K)) :
    FnOk P w K mg base CX0 6 f fd ["family"] (spMoves K) := by
  obtain ⟨f1, fd1, G1, g1, k1, b1⟩ := C1
  obtain ⟨f2, fd2, G2, g2, k2, b2⟩ := C2
  obtain ⟨f3, fd3, G3, g3, k3, b3⟩ := C3
  refine F.ok scMoves (fun vs H Q E h => ?_) (fun cdv A outer s H vs Q E hr h => ?_)
  · obtain ⟨v, b, n, rfl, _⟩ := h
    rfl
  · obtain ⟨v, Fm, n, rfl, hIs, hF, q⟩ := h
    refine ⟨_, pss_cons (ps_expr (pe_call G1 hr (by rfl) g1 k1 b1 .nil pass0 (pa_cons (pv 0) pa_nil)))
      (pss_one (ps_ret (pe_tup (pa_cons (pe_callB call_len_seq (by rfl) B.len PySem.boot_len (pa_cons (pe_call G2 (hr.mono (by decide)) (by rfl) g2 k2 b2 .nil pass0 (pa_cons (pv 0) pa_nil)) pa_nil))
        (pa_cons (pe_call G3 (hr.mono (by decide)) (by rfl) g3 k3 b3 .nil pass0 (pa_cons (pv 0) pa_nil)) pa_nil))))), ?_⟩
    refine ⟨v, rfl, v, Fm, n, rfl, hIs, hF, fun H1 s1 => ?_⟩
    refine ⟨v, rfl, v, Fm, n, rfl, hIs.same s1, hF, fun p xs H2 s2 np hp hP => ?_⟩
    refine ⟨p, xs, rfl, .inl (.inl (.inl hp)), v, rfl, v, Fm, n, rfl, hIs.same (s1.trans s2), hF, fun z H3 s3 => ?_⟩
    refine ⟨by show 2 ≤ sizeLine; decide, fun t nt => ?_⟩
    refine q t z _ ((s1.trans s2).trans (s3.trans (sameU nt))) (.inl (.inl ?_))
    rw [upd_same, pr_len hP]

/-! poured -/
theorem scPoured : FnScope ["family", "one", "other"] ["family"] (defScope sPoured) := ⟨rfl, rfl, rfl, by decide +kernel, rfl, by decide +kernel, by decide +kernel⟩
def spPoured (K : PySem.W.Frag) : Sp := fun vs H Q _ => ∃ (v : V) (F : List Bag) (n : Nat), vs = [v] ∧ IsF K H v F ∧ Fam n F ∧
  ∀ (p : Addr) (xs : List V) (H' : Hp), Same H H' → SqL K H' p xs → Paired (IsF K H') xs (downsM F) → Q (.ref p) H'
theorem pour_len {n : Nat} {F : List Bag} (i j : Nat) : 0 < (pourM F i j).length := by
  unfold pourM
  rw [(srtB_perm _).length_eq, List.length_append, List.length_singleton]
  omega
theorem ok_poured {f : Addr} {fd : FuncData} {tk : Tok} (F : Fun K "poured" "poured" sPoured f fd) (B : Blt mg) (gM : mg "MOST_LISTED" = some (.int 500 tk)) (C1 : Cal P w K mg base "need_family" 5 ["value"] (spBar K)) (C2 : Cal P w K mg base "pairs_of" 3 ["family"] (spPairs K))
    (C3 : Cal P w K mg base "poured_at" 1 ["family", "one", "other"] (spPouredAt K)) : FnOk P w K mg base CX0 6 f fd ["family"] (spPoured K) := by
  obtain ⟨f1, fd1, G1, g1, k1, b1⟩ := C1
  obtain ⟨f2, fd2, G2, g2, k2, b2⟩ := C2
  obtain ⟨f3, fd3, G3, g3, k3, b3⟩ := C3
  refine F.ok scPoured (fun vs H Q E h => ?_) (fun cdv A outer s H vs Q E hr h => ?_)
  · obtain ⟨v, b, n, rfl, _⟩ := h
    rfl
  · obtain ⟨v, Fm, n, rfl, hIs, hF, q⟩ := h
    have hfew := pairsM_few hF
    refine ⟨_, pss_cons (ps_expr (pe_call G1 hr (by rfl) g1 k1 b1 .nil pass0 (pa_cons (pv 0) pa_nil)))
      (pss_cons (ps_if (pt_cmpR op_gt (pe_callB call_len_seq (by rfl) B.len PySem.boot_len (pa_cons (pe_call G2 (hr.mono (by decide)) (by rfl) g2 k2 b2 .nil pass0 (pa_cons (pv 0) pa_nil)) pa_nil)) (pe_glob (v := .int 500) (by rfl) gM ⟨_, rfl⟩) (nomark _)) pss_never pss_nil)
      (pss_one (ps_ret (pe_callB (cr_sortD dF hr.units alike_dF (fun F => by have := dep_dF F; omega)) (by rfl) B.sorted (by decide +kernel) (pa_cons
        (pe_lc (own := [("one", 1), ("other", 2)]) (tt := tYes) rfl scPoured.nd (pi_list (pe_call G2 (hr.mono (by decide)) (by rfl) g2 k2 b2 .nil pass0 (pa_cons (pv 0) pa_nil)))
          (blkOk_by (N := ["family", "one", "other"]) (sc := defScope sPoured) (by decide +kernel))
          (fun _ _ _ _ _ => pg_tupK (K := K) (n := 2) rfl rfl (pgs_cons (pg_name (i := 1) scPoured.nd rfl (.inl rfl) (.inr rfl)) (pgs_cons (pg_name (i := 2) scPoured.nd rfl (.inl rfl) (.inr rfl)) pgs_nil))) (fun _ _ _ _ _ => pts_nil)
          (fun _ _ _ _ _ => pe_call G3 (hr.mono (by decide)) (by rfl) g3 k3 b3 .nil pass0 (pa_cons (pv 0) (pa_cons (pv 1) (pa_cons (pv 2) pa_nil))))) pa_nil))))), ?_⟩
    refine ⟨v, rfl, v, Fm, n, rfl, hIs, hF, fun H1 s1 => ?_⟩
    refine ⟨v, rfl, v, Fm, n, rfl, hIs.same s1, hF, fun p xs H2 s2 np hp hP => ?_⟩
    refine ⟨p, xs, rfl, .inl (.inl (.inl hp)), _, _, rfl, rfl, false, ?_, iteF ?_⟩
    · have := pr_len hP
      dsimp only
      rw [decide_eq_false (by omega)]
    refine ⟨v, rfl, v, Fm, n, rfl, hIs.same (s1.trans s2), hF, fun p3 xs3 H3 s3 np3 hp3 hP3 => ?_⟩
    have s03 : Same H H3 := (s1.trans s2).trans s3
    refine ⟨p3, rfl, ⟨xs3, .inl (.inl hp3)⟩, fun L nL => ?_⟩
    have hlen := pr_len hP3
    refine lc_it (walk_list (xs := xs3)) (fun t H' => Same H3 H' ∧ ∃ vs, H' L = some (.lst vs) ∧ Paired (IsF K H') vs (((pairsM Fm).take t).map fun p => pourM Fm p.1 p.2)) ⟨sameU nL, [], upd_same, .nil⟩ (fun t H' _ p => .inl (.inl (p.1 _ _ hp3))) (fun t x H5 H6 ht p y => ?_) (fun H' p => ?_)
    · obtain ⟨p1, vs, p2, p4⟩ := p
      obtain ⟨rfl, hx⟩ := y
      obtain ⟨⟨i, j⟩, hij, ⟨a1, rfl, h1⟩⟩ := pr_get hP3 hx
      have hm := mem_pairsM.mp (List.mem_of_getElem? hij)
      dsimp only [tYes]
      refine ⟨a1, _, rfl, seqT p1 h1, rfl, _, _, rfl, _, _, rfl, rfl, rfl, ?_⟩
      rw [if_pos rfl]
      refine ⟨_, rfl, _, rfl, _, rfl, v, Fm, n, i, j, rfl, hIs.same (s03.trans p1), hF, by omega, hm.2.1, fun u H7 s7 hu => ?_⟩
      have hl : vs.length ≤ 169 := by
        rw [pr_len p4, List.length_map, List.length_take]
        omega
      have e7 := s7 _ _ p2
      refine ⟨vs, e7, small1000 (by omega), sameU2 (p1.trans s7) nL, vs ++ [u], upd_same, ?_⟩
      -- L is changed: what stands elsewhere stays
      have keepB : ∀ {v b}, IsB K H7 v b → IsB K (upd H7 L (.lst (vs ++ [u]))) v b := fun {v b} h => by
        obtain ⟨c, e, h⟩ := h
        refine ⟨c, e, ?_⟩
        rcases h with (h | ⟨o, h⟩) | h
        · refine .inl (.inl ?_)
          rw [upd_ne (ne_of h e7 (by intro z; cases z))]
          exact h
        · refine .inl (.inr ⟨o, ?_⟩)
          rw [upd_ne (ne_of h e7 (by intro z; cases z))]
          exact h
        · exact .inr h
      have keep : ∀ {v F}, IsF K H7 v F → IsF K (upd H7 L (.lst (vs ++ [u]))) v F := fun {v F} h => by
        obtain ⟨c, ws, e, h, hp⟩ := h
        refine ⟨c, ws, e, ?_, pr_imp (fun _ _ h => keepB h) hp⟩
        rcases h with (h | ⟨o, h⟩) | h
        · refine .inl (.inl ?_)
          rw [upd_ne (ne_of h e7 (by intro z; cases z))]
          exact h
        · refine .inl (.inr ⟨o, ?_⟩)
          rw [upd_ne (ne_of h e7 (by intro z; cases z))]
          exact h
        · exact .inr h
      rw [List.take_add_one, hij, List.map_append]
      exact pr_app (pr_imp (fun _ _ h => keep (h.same s7)) p4) (.cons (keep hu) .nil)
    · obtain ⟨p1, vs, p2, p4⟩ := p
      rw [List.take_of_length_le (by omega)] at p4
      have p5 : Paired (IsF K H') vs (poursM Fm) := p4
      dsimp only [tNil]
      refine rSD_any (R := IsF K) (.inl (.inl p2)) p5 (fun _ _ h => h.dp) (fun G hG => ?_) fun l vs' hv nl => ?_
      · obtain ⟨p, _, rfl⟩ := List.mem_map.mp hG
        exact ne_dF (pour_len (n := n) _ _)
      · rw [srtF_leD] at hv
        exact q l vs' _ ((s03.trans p1).trans (sameU nl)) (.inl (.inl upd_same)) (pr_imp (fun _ _ h => h.same (sameU nl)) hv)
end
end Sb

/-! SbSet1 -/
namespace Sb
open PySem PySem.Spec PyProof.Rows L2

/-! tables of 8, 32, 128, 512 slots -/
def Mask4 (m : Nat) : Prop := m = 7 ∨ m = 31 ∨ m = 127 ∨ m = 511
def orb : Nat → Nat → List Nat
  | _, 0 => []
  | x, n + 1 => x :: orb ((x * 5 + 1) % 512) n
theorem orb_all : ((List.range 512).all fun j => (orb 0 512).contains j) = true := by decide +kernel
theorem orb_mem : ∀ (n a j : Nat), j ∈ orb (lcgN 511 a) n → ∃ b, b < n ∧ lcgN 511 (a + b) = j
  | 0, _, _, h => by cases h
  | n + 1, a, j, h => by
    rcases List.mem_cons.mp h with e | h
    · exact ⟨0, Nat.succ_pos _, e.symm⟩
    · obtain ⟨b, hb, e⟩ := orb_mem n (a + 1) j h
      exact ⟨b + 1, Nat.succ_lt_succ hb, by rw [← e]; congr 1; omega⟩
theorem lcg5_all {j : Nat} (hj : j ≤ 511) : ∃ b, b ≤ 511 ∧ lcgN 511 b = j := by
  have h := List.all_eq_true.mp orb_all j (List.mem_range.mpr (by omega))
  obtain ⟨b, hb, e⟩ := orb_mem 512 0 j (List.contains_iff_mem.mp h)
  rw [Nat.zero_add] at e
  exact ⟨b, by omega, e⟩
theorem lcg5_round : lcgN 511 512 = 0 := by decide +kernel
theorem lcg5_mod : ∀ k, lcgN 511 (512 + k) = lcgN 511 k
  | 0 => lcg5_round
  | k + 1 => by
    show (lcgN 511 (512 + k) * 5 + 1) % 512 = (lcgN 511 k * 5 + 1) % 512
    rw [lcg5_mod k]
theorem lcg5I {i j : Nat} (hi : i ≤ 511) (hj : j ≤ 511) : ∃ k, k ≤ 511 ∧ lcgI 511 i k = j := by
  obtain ⟨a, ha, ea⟩ := lcg5_all hi
  obtain ⟨b, hb, eb⟩ := lcg5_all hj
  subst ea
  by_cases c : a ≤ b
  · exact ⟨b - a, by omega, by rw [lcgN_add, show a + (b - a) = b by omega, eb]⟩
  · exact ⟨512 + b - a, by omega, by rw [lcgN_add, show a + (512 + b - a) = 512 + b by omega, lcg5_mod, eb]⟩
theorem meets4 {m : Nat} (hm : Mask4 m) (h : Int) {j : Nat} (hj : j ≤ m) : ∃ n, n ≤ m + 12 ∧ runI m (SetTable.bits h) n = j := by
  rcases hm with e | e | e | e
  · exact run_meets (.inl e) h hj
  · exact run_meets (.inr (.inl e)) h hj
  · exact run_meets (.inr (.inr e)) h hj
  · subst e
    obtain ⟨k, hk, e⟩ := lcg5I (runI_le 511 (SetTable.bits h) 12) hj
    exact ⟨12 + k, by omega, by rw [runI_tail (bits_lt h), e]⟩
theorem odd4 {m : Nat} (h : Mask4 m) : m % 2 = 1 := by
  rcases h with e | e | e | e <;> subst e <;> rfl
theorem way_le4 {m : Nat} (h : Int) (k : Nat) : way m h k ≤ m := by
  have h0 : (runAt m (SetTable.bits h % (m + 1)) (SetTable.bits h)).j + (runAt m (SetTable.bits h % (m + 1)) (SetTable.bits h)).more ≤ m := by
    have hi : SetTable.bits h % (m + 1) ≤ m := Nat.le_of_lt_succ (Nat.mod_lt _ (Nat.succ_pos _))
    have := runEnd_bd hi
    show SetTable.bits h % (m + 1) + (SetTable.runEnd m (SetTable.bits h % (m + 1)) - SetTable.bits h % (m + 1)) ≤ m
    omega
  have := nth_in (m := m) k _ h0
  show (nth m _ k).j ≤ m
  omega

/-- a table with its elements -/
structure Tab4 (t : SetTable) (n : Nat) : Prop where
  ris : Ris t.place.toList
  dm : t.dummies = #[]
  sz : t.place.size = n
  mok : Mask4 t.mask
/-- the first empty slot on the way -/
theorem Tab4.first {t : SetTable} {n : Nat} (T : Tab4 t n) (hl : n ≤ t.mask) (h : Int) : ∃ K, K < 10 * SetTable.turns t.mask ∧ way t.mask h K ∉ t.place.toList ∧ ∀ k, k < K → way t.mask h k ∈ t.place.toList := by
  obtain ⟨j, hj, hn⟩ := st_missing t.place.toList (t.mask + 1) (by rw [Array.length_toList, T.sz]; omega)
  obtain ⟨r, hr, e⟩ := meets4 T.mok h (Nat.le_of_lt_succ hj)
  obtain ⟨k, hk, e2⟩ := run_nth t.mask (SetTable.bits h) r
  have ek : way t.mask h k ∉ t.place.toList := by
    show (nth t.mask _ k).j ∉ _
    rw [e2]
    show runI t.mask (SetTable.bits h) r ∉ _
    rw [e]
    exact hn
  obtain ⟨K, h1, h2, h3⟩ := st_least (p := fun k => way t.mask h k ∉ t.place.toList) k ek
  refine ⟨K, ?_, h2, fun k' hk' => Classical.byContradiction fun z => h3 k' hk' z⟩
  unfold SetTable.turns
  omega
/-- an element is put into an empty slot -/
theorem Tab4.put {t : SetTable} {n j : Nat} (T : Tab4 t n) (hj : j ∉ t.place.toList) : SetTable.below t.place j ≤ n ∧ Tab4 (t.put j).1 (n + 1) ∧ (t.put j).1.mask = t.mask ∧ (t.put j).1.led = t.led ∧ (t.put j).1.plain = t.plain ∧ (t.put j).1.fill = n + 1 := by
  obtain ⟨c, _, _⟩ := below_cut T.ris j
  have hn : t.place[SetTable.below t.place j]? ≠ some j := fun e => hj (List.mem_of_getElem? (by rw [Array.getElem?_toList]; exact e))
  have hs : (t.put j).1.place.size = n + 1 := by
    rw [← Array.length_toList, put_place, len_ins _ (by rw [Array.length_toList]; exact c), Array.length_toList, T.sz]
  refine ⟨by rw [← T.sz]; exact c, ⟨ris_insert T.ris hn, put_dm T.dm j, hs, T.mok⟩, rfl, rfl, rfl, ?_⟩
  show (t.put j).1.place.size + (t.put j).1.dummies.size = n + 1
  rw [hs, put_dm T.dm j]
  rfl

/-! the table laid anew -/
/-- k things sit, each number below k once -/
structure Sit (m k : Nat) (owner : Array (Option Nat)) : Prop where
  sz : owner.size = m + 1
  lt : ∀ j i, j ≤ m → oAt owner j = some i → i < k
  one : ∀ j j' i, j ≤ m → j' ≤ m → oAt owner j = some i → oAt owner j' = some i → j = j'
  all : ∀ i, i < k → ∃ j, j ≤ m ∧ oAt owner j = some i
theorem Sit.few {m k : Nat} {owner : Array (Option Nat)} (W : Sit m k owner) : ∃ ps : List Nat, ps.length = k ∧ ∀ j, j ≤ m → oAt owner j ≠ none → j ∈ ps := by
  refine ⟨(List.range k).map fun i => ((List.range (m + 1)).find? fun j => decide (oAt owner j = some i)).getD 0, by rw [List.length_map, List.length_range], fun j hj hn => ?_⟩
  cases e : oAt owner j with
  | none => exact absurd e hn
  | some i =>
    refine List.mem_map.mpr ⟨i, List.mem_range.mpr (W.lt j i hj e), ?_⟩
    cases q : (List.range (m + 1)).find? fun j => decide (oAt owner j = some i) with
    | none =>
      have := List.find?_eq_none.mp q j (List.mem_range.mpr (by omega))
      exact absurd (decide_eq_true e) this
    | some j' =>
      have h0 := List.find?_some (p := fun j => decide (oAt owner j = some i)) q
      have h1 := of_decide_eq_true h0
      have h2 := List.mem_of_find?_eq_some q
      exact W.one j' j i (Nat.le_of_lt_succ (List.mem_range.mp h2)) hj h1 e
theorem Sit.init (m : Nat) : Sit m 0 (Array.replicate (m + 1) none) := by
  refine ⟨by simp, fun j i hj e => ?_, fun j j' i hj _ e => ?_, fun i hi => absurd hi (Nat.not_lt_zero _)⟩
  · rw [oAt_init hj] at e
    cases e
  · rw [oAt_init hj] at e
    cases e
theorem free4 {m : Nat} (hm : Mask4 m) (owner : Array (Option Nat)) (h : Int) {j : Nat} (hj : j ≤ m) (hf : oAt owner j = none) :
    ∃ K, SetTable.layClean.free m owner (SetTable.turns m) (SetTable.bits h % (m + 1)) (SetTable.bits h) = some (way m h K) ∧ oAt owner (way m h K) = none := by
  obtain ⟨n, hn, e⟩ := meets4 hm h hj
  have ej : way m h (off m (SetTable.bits h % (m + 1)) (SetTable.bits h) n) = j := by
    show (nth m (runAt m _ _) _).j = j
    rw [nth_off, itL_run]
    exact e
  obtain ⟨K, k1, k2, k3⟩ := st_least (p := fun k => oAt owner (way m h k) = none) _ (show oAt owner (way m h (off m (SetTable.bits h % (m + 1)) (SetTable.bits h) n)) = none by rw [ej]; exact hf)
  refine ⟨K, free_spec m owner (SetTable.turns m) n _ _ K (by unfold SetTable.turns; omega) k1 (fun k hk => ?_) ?_, k2⟩
  · have q := k3 k hk
    cases z : oAt owner (nth m (runAt m (SetTable.bits h % (m + 1)) (SetTable.bits h)) k).j with
    | none => exact absurd z q
    | some _ => rfl
  · have q : oAt owner (nth m (runAt m (SetTable.bits h % (m + 1)) (SetTable.bits h)) K).j = none := k2
    rw [q]
    rfl
theorem Sit.step {m k : Nat} {owner : Array (Option Nat)} (hm : Mask4 m) (W : Sit m k owner) (hl : k ≤ m) (h : Int) :
    ∃ j, SetTable.layClean.free m owner (SetTable.turns m) (SetTable.bits h % (m + 1)) (SetTable.bits h) = some j ∧ Sit m (k + 1) (owner.setIfInBounds j (some k)) := by
  obtain ⟨ps, hps, hin⟩ := W.few
  obtain ⟨j0, h0, hn0⟩ := st_missing ps (m + 1) (by omega)
  have hj0 : oAt owner j0 = none := Classical.byContradiction fun z => hn0 (hin j0 (Nat.le_of_lt_succ h0) z)
  obtain ⟨K, e1, e2⟩ := free4 hm owner h (Nat.le_of_lt_succ h0) hj0
  refine ⟨way m h K, e1, ?_⟩
  have hle := way_le4 (m := m) h K
  generalize way m h K = j at e2 hle
  have hself := oAt_set_self (owner := owner) (some k) (show j < owner.size by rw [W.sz]; omega)
  refine ⟨by rw [Array.size_setIfInBounds]; exact W.sz, fun a i ha e => ?_, fun a b i ha hb ea eb => ?_, fun i hi => ?_⟩
  · by_cases c : a = j
    · rw [c, hself] at e
      have := Option.some.inj e
      omega
    · rw [oAt_set_ne _ c] at e
      have := W.lt a i ha e
      omega
  · by_cases ca : a = j
    · by_cases cb : b = j
      · rw [ca, cb]
      · rw [ca, hself] at ea
        rw [oAt_set_ne _ cb] at eb
        have h1 := W.lt b i hb eb
        have h2 := Option.some.inj ea
        omega
    · by_cases cb : b = j
      · rw [cb, hself] at eb
        rw [oAt_set_ne _ ca] at ea
        have h1 := W.lt a i ha ea
        have h2 := Option.some.inj eb
        omega
      · rw [oAt_set_ne _ ca] at ea
        rw [oAt_set_ne _ cb] at eb
        exact W.one a b i ha hb ea eb
  · by_cases c : i = k
    · subst c
      exact ⟨j, hle, hself⟩
    · obtain ⟨a, ha, e⟩ := W.all i (by omega)
      refine ⟨a, ha, ?_⟩
      rw [oAt_set_ne _ fun z => by rw [z, e2] at e; cases e]
      exact e
theorem fold4 {m : Nat} (hm : Mask4 m) : ∀ (rest : List Int) (k : Nat) (owner : Array (Option Nat)), Sit m k owner → k + rest.length ≤ m → ∃ o, rest.foldl (stepF m) (some (owner, k)) = some (o, k + rest.length) ∧ Sit m (k + rest.length) o
  | [], k, owner, W, _ => ⟨owner, rfl, W⟩
  | h :: rest, k, owner, W, hl => by
    rw [List.length_cons] at hl
    obtain ⟨j, e, W2⟩ := W.step hm (by omega) h
    obtain ⟨o, f, W3⟩ := fold4 hm rest (k + 1) _ W2 (by omega)
    rw [show k + 1 + rest.length = k + (h :: rest).length by rw [List.length_cons]; omega] at f W3
    refine ⟨o, ?_, W3⟩
    rw [List.foldl_cons, stepF_some e]
    exact f
theorem relaid4 (t : SetTable) {hs : Array Int} {wanted M : Nat} (hw : SetTable.sizeAbove wanted - 1 = M) (hM : Mask4 M) (hn : hs.size ≤ M) :
    ∃ t' order, t.relaid hs wanted = some (t', order) ∧ order.toList.Perm (List.range hs.size) ∧ Tab4 t' hs.size ∧ t'.mask = M ∧ t'.led = t.led ∧ t'.plain = t.plain := by
  obtain ⟨o, f, W⟩ := fold4 hM hs.toList 0 _ (Sit.init M) (by rw [Array.length_toList]; omega)
  rw [Nat.zero_add, Array.length_toList] at f W
  have el : SetTable.layClean M hs = some o := by
    rw [layClean_eq, f]
    rfl
  have hr : t.relaid hs wanted = some (tabOf t M o, ((liveOf M o).map (·.2)).toArray) := by
    rw [relaid_eq, hw, el]
    rfl
  have r1 : Ris ((liveOf M o).map (·.1)) := (ris_live (fun j => o.getD j none) (List.range (M + 1)) List.pairwise_lt_range).1
  have nd2 : ((liveOf M o).map (·.2)).Nodup := by
    have nd1 : ((liveOf M o).map (·.1)).Nodup := r1.imp fun h => Nat.ne_of_lt h
    unfold List.Nodup at nd1 ⊢
    rw [List.pairwise_map] at nd1 ⊢
    refine nd1.imp_of_mem fun {p q} hp hq hne e => hne ?_
    obtain ⟨j, i⟩ := p
    obtain ⟨j', i'⟩ := q
    have h1 := (mem_live W.sz).mp hp
    have h2 := (mem_live W.sz).mp hq
    have e : i = i' := e
    subst e
    exact W.one j j' i h1.1 h2.1 h1.2 h2.2
  have perm : ((liveOf M o).map (·.2)).Perm (List.range hs.size) := (List.perm_ext_iff_of_nodup nd2 List.nodup_range).mpr fun i => by
    rw [List.mem_range]
    constructor
    · intro h
      obtain ⟨⟨j, i'⟩, hp, e⟩ := List.mem_map.mp h
      have e : i' = i := e
      subst e
      have h1 := (mem_live W.sz).mp hp
      exact W.lt j i' h1.1 h1.2
    · intro h
      obtain ⟨j, hj, e⟩ := W.all i h
      exact List.mem_map.mpr ⟨(j, i), (mem_live W.sz).mpr ⟨hj, e⟩, rfl⟩
  refine ⟨tabOf t M o, ((liveOf M o).map (·.2)).toArray, hr, perm, ⟨r1, rfl, ?_, hM⟩, rfl, rfl, rfl⟩
  show ((liveOf M o).map (·.1)).toArray.size = hs.size
  have h1 := perm.length_eq
  rw [List.length_map, List.length_range] at h1
  rw [List.size_toArray, List.length_map, h1]
theorem size5 : SetTable.sizeAbove (SetTable.grown 5) = 32 := by decide +kernel
theorem size19 : SetTable.sizeAbove (SetTable.grown 19) = 128 := by decide +kernel
theorem size77 : SetTable.sizeAbove (SetTable.grown 77) = 512 := by decide +kernel
end Sb

/-! SbSet2 -/
namespace Sb
open PySem PySem.Spec PyProof.Rows L2 SB

/-! families as keys -/
def kN (n : Nat) : NestedKey := .num (n : Int)
def kB (b : Bag) : NestedKey := .tup (b.map kN)
def kF (F : List Bag) : NestedKey := .tup (F.map kB)
theorem kNs_inj : ∀ a b : List Nat, (a.map kN) = (b.map kN) → a = b
  | [], [], _ => rfl
  | [], _ :: _, h => by cases h
  | _ :: _, [], h => by cases h
  | x :: a, y :: b, h => by
    rw [List.map_cons, List.map_cons] at h
    injection h with h1 h2
    unfold kN at h1
    injection h1 with h1
    rw [Int.ofNat.inj h1, kNs_inj a b h2]
theorem kB_inj {a b : Bag} (h : kB a = kB b) : a = b := by
  unfold kB at h
  injection h with h
  exact kNs_inj a b h
theorem kBs_inj : ∀ a b : List Bag, a.map kB = b.map kB → a = b
  | [], [], _ => rfl
  | [], _ :: _, h => by cases h
  | _ :: _, [], h => by cases h
  | x :: a, y :: b, h => by
    rw [List.map_cons, List.map_cons] at h
    injection h with h1 h2
    rw [kB_inj h1, kBs_inj a b h2]
theorem kF_inj {a b : List Bag} (h : kF a = kF b) : a = b := by
  unfold kF at h
  injection h with h
  exact kBs_inj a b h
theorem kdep_ns : ∀ b : List Nat, NestedKey.depthAll (b.map kN) = 0
  | [] => by simp [NestedKey.depthAll]
  | x :: b => by
    rw [List.map_cons, NestedKey.depthAll, kdep_ns b]
    unfold kN
    simp [NestedKey.depth]
theorem kdep_B (b : Bag) : (kB b).depth = 1 := by
  unfold kB
  rw [NestedKey.depth, kdep_ns]
theorem kdep_Bs : ∀ F : List Bag, NestedKey.depthAll (F.map kB) ≤ 1
  | [] => by simp [NestedKey.depthAll]
  | b :: F => by
    rw [List.map_cons, NestedKey.depthAll, kdep_B]
    have := kdep_Bs F
    omega
theorem kdep_F (F : List Bag) : (kF F).depth ≤ 8 := by
  unfold kF
  rw [NestedKey.depth]
  have := kdep_Bs F
  omega
/-- the tuple at b is the family F -/
abbrev IsFK (h : Heap) (F : List Bag) (b : Addr) : Prop := NestedIs h (kF F) (.ref b)

/-! what the set asks of them -/
section
variable {P : Program} {w : World} {A : Around} {E : Value → Shared → Prop} {s : Shared}
/-- a question asked of each item of a tuple, the answer always the same -/
theorem ofA_items {n : Nat} {b : Addr} {o : Obj} {items : Array Value} {m : Nat} (ho : s.heap.get? b = some o) (hc : o.cls = .type "tuple") (hd : o.data = .seq items m)
    (hall : ∀ v ∈ items.toList, ∀ (E' : Value → Shared → Prop) (R : Bool → Shared → Prop), R false s → wpAny (model P w) A (ofAClassStatement n v) R E' s) {Q : Bool → Shared → Prop} (h : Q false s) : wpAny (model P w) A (ofAClassStatement (n + 1) (.ref b)) Q E s := by
  unfold ofAClassStatement
  refine wpAny_bind (wpAny_typeOf ⟨o, ho, hc⟩ ?_)
  have e : (("tuple" : String) == "tuple") = true := by decide
  dsimp only
  simp only [e, if_true, Bool.not_true, Bool.false_eq_true, if_false]
  refine wpAny_bind (wpAny_pure ?_)
  simp only [Bool.not_true, Bool.false_eq_true, if_false]
  show wpAny _ _ (seqItems? (.ref b) >>= _) _ _ s
  refine wpAny_bind (wpAny_seqItems ho hd ?_)
  dsimp only
  refine wpAny_bind ?_
  show wpAny _ _ (forIn items _ _) _ _ s
  rw [← Array.forIn_toList]
  refine wpAny_forIn_list _ (fun rest r s' => r.1 = none ∧ s' = s ∧ ∀ v ∈ rest, v ∈ items.toList) _ (fun v rest r s' hI => ?_) (fun r s' hI => ?_) _ _ ⟨rfl, rfl, fun v hv => hv⟩
  · obtain ⟨hr, rfl, hin⟩ := hI
    refine wpAny_bind (hall v (hin v List.mem_cons_self) _ _ ?_)
    simp only [Bool.false_eq_true, if_false]
    exact wpAny_pure ⟨rfl, rfl, fun u hu => hin u (List.mem_cons_of_mem _ hu)⟩
  · obtain ⟨r1, r2⟩ := r
    obtain ⟨hr, rfl, _⟩ := hI
    have hr : r1 = none := hr
    subst hr
    exact wpAny_pure h
theorem byV_items {n : Nat} {b : Addr} {o : Obj} {items : Array Value} {m : Nat} (ho : s.heap.get? b = some o) (hc : o.cls = .type "tuple") (hd : o.data = .seq items m)
    (hall : ∀ v ∈ items.toList, ∀ (E' : Value → Shared → Prop) (R : Bool → Shared → Prop), R true s → wpAny (model P w) A (hashByValue n v) R E' s) {Q : Bool → Shared → Prop} (h : Q true s) : wpAny (model P w) A (hashByValue (n + 1) (.ref b)) Q E s := by
  have hT : s.TypeIs (.ref b) "tuple" := ⟨o, ho, hc⟩
  unfold hashByValue
  refine wpAny_bind (wpAny_specialOf hT F.slot_tuple_hash.lookup ?_)
  show wpAny _ _ (seqItems? (.ref b) >>= _) _ _ s
  refine wpAny_bind (wpAny_seqItems ho hd ?_)
  refine wpAny_bind ?_
  show wpAny _ _ (forIn items _ _) _ _ s
  rw [← Array.forIn_toList]
  refine wpAny_forIn_list _ (fun rest r s' => r.1 = none ∧ s' = s ∧ ∀ v ∈ rest, v ∈ items.toList) _ (fun v rest r s' hI => ?_) (fun r s' hI => ?_) _ _ ⟨rfl, rfl, fun v hv => hv⟩
  · obtain ⟨hr, rfl, hin⟩ := hI
    refine wpAny_bind (hall v (hin v List.mem_cons_self) _ _ ?_)
    simp only [Bool.not_true, Bool.false_eq_true, if_false]
    exact wpAny_pure ⟨rfl, rfl, fun u hu => hin u (List.mem_cons_of_mem _ hu)⟩
  · obtain ⟨r1, r2⟩ := r
    obtain ⟨hr, rfl, _⟩ := hI
    have hr : r1 = none := hr
    subst hr
    exact wpAny_pure h
theorem nums_of {h : Heap} : ∀ {b : List Nat} {vs : List Value}, NestedAll h (b.map kN) vs → ∀ v ∈ vs, (∃ i t, v = Value.int i t) ∨ ∃ c, v = Value.bool c
  | [], _, .nil, v, hv => by cases hv
  | x :: b, _, .cons h1 h2, v, hv => by
    rcases List.mem_cons.mp hv with e | hv
    · subst e
      unfold kN at h1
      cases h1 with
      | bool _ => exact .inr ⟨_, rfl⟩
      | int i t => exact .inl ⟨_, _, rfl⟩
    · exact nums_of h2 v hv
theorem bags_of {h : Heap} : ∀ {F : List Bag} {vs : List Value}, NestedAll h (F.map kB) vs → ∀ v ∈ vs, ∃ b : Bag, NestedIs h (kB b) v
  | [], _, .nil, v, hv => by cases hv
  | x :: F, _, .cons h1 h2, v, hv => by
    rcases List.mem_cons.mp hv with e | hv
    · subst e
      exact ⟨x, h1⟩
    · exact bags_of h2 v hv
theorem ofA_bag {n : Nat} {b : Bag} {v : Value} {Q : Bool → Shared → Prop} (hb : NestedIs s.heap (kB b) v) (h : Q false s) : wpAny (model P w) A (ofAClassStatement (n + 1) v) Q E s := by
  unfold kB at hb
  cases hb with
  | tup ho hc hd hi =>
    refine ofA_items ho hc hd (fun v hv E' R hR => ?_) h
    rcases nums_of hi v hv with ⟨i, t, rfl⟩ | ⟨c, rfl⟩
    · cases n <;> exact wpAny_pure hR
    · cases n <;> exact wpAny_pure hR
theorem byV_bag {n : Nat} {b : Bag} {v : Value} {Q : Bool → Shared → Prop} (hb : NestedIs s.heap (kB b) v) (h : Q true s) : wpAny (model P w) A (hashByValue (n + 1) v) Q E s := by
  unfold kB at hb
  cases hb with
  | tup ho hc hd hi =>
    refine byV_items ho hc hd (fun v hv E' R hR => ?_) h
    rcases nums_of hi v hv with ⟨i, t, rfl⟩ | ⟨c, rfl⟩
    · cases n <;> exact wpAny_pure hR
    · cases n <;> exact wpAny_pure hR
theorem ofA_fam {F : List Bag} {b : Addr} {Q : Bool → Shared → Prop} (hb : IsFK s.heap F b) (h : Q false s) : wpAny (model P w) A (ofAClassStatement 8 (.ref b)) Q E s := by
  have hb : NestedIs s.heap (.tup (F.map kB)) (.ref b) := hb
  cases hb with
  | tup ho hc hd hi =>
    refine ofA_items ho hc hd (fun v hv E' R hR => ?_) h
    obtain ⟨c, hc⟩ := bags_of hi v hv
    exact ofA_bag hc hR
theorem byV_fam {F : List Bag} {b : Addr} {Q : Bool → Shared → Prop} (hb : IsFK s.heap F b) (h : Q true s) : wpAny (model P w) A (hashByValue 8 (.ref b)) Q E s := by
  have hb : NestedIs s.heap (.tup (F.map kB)) (.ref b) := hb
  cases hb with
  | tup ho hc hd hi =>
    refine byV_items ho hc hd (fun v hv E' R hR => ?_) h
    obtain ⟨c, hc⟩ := bags_of hi v hv
    exact byV_bag hc hR
theorem quiet_fam {F : List Bag} {b : Addr} {Q : Bool → Shared → Prop} (hb : IsFK s.heap F b) (h : Q true s) : wpAny (model P w) A (eqIsQuiet 8 (.ref b)) Q E s := (nestedKind P w).quiet ⟨hb, kdep_F F⟩ h
theorem eq_fam {F G : List Bag} {b c : Addr} {Q : Bool → Shared → Prop} (hu : A.units + 8 < cLine) (hb : IsFK s.heap F b) (hc : IsFK s.heap G c) (h : Q (decide (kF F = kF G)) s) : wpAny (model P w) A (eqBool (.ref b) (.ref c)) Q E s := (nestedKind P w).eqBool hu ⟨hb, kdep_F F⟩ ⟨hc, kdep_F G⟩ h
/-- nothing of a search among families is seen -/
theorem seen_fam {F : List Bag} {b : Addr} {Q : Bool → Shared → Prop} (hb : IsFK s.heap F b) {ys : List Value} (hy : ∀ y ∈ ys, ∃ G c, y = Value.ref c ∧ IsFK s.heap G c) (h : Q false s) : wpAny (model P w) A (searchCouldBeSeen (.ref b) ys) Q E s := by
  unfold searchCouldBeSeen
  refine wpAny_bind ?_
  refine wpAny_forIn_list _ (fun rest r s' => r.1 = none ∧ s' = s ∧ ∀ y ∈ rest, ∃ G c, y = Value.ref c ∧ IsFK s.heap G c) _ (fun v rest r s' hI => ?_) (fun r s' hI => ?_) _ _ ⟨rfl, rfl, hy⟩
  · obtain ⟨hr, rfl, hin⟩ := hI
    obtain ⟨G, c, rfl, hc⟩ := hin v List.mem_cons_self
    have hin' : ∀ y ∈ rest, ∃ G c, y = Value.ref c ∧ IsFK s'.heap G c := fun u hu => hin u (List.mem_cons_of_mem _ hu)
    dsimp only
    by_cases q : (b == c || (carriedByValue (.ref b) && carriedByValue (.ref c))) = true
    · exact wp_if_pos q (wpAny_pure ⟨rfl, rfl, hin'⟩)
    · refine wp_if_neg q (wpAny_bind (quiet_fam hb ?_))
      simp only [Bool.not_true, Bool.false_eq_true, if_false]
      refine wpAny_bind (quiet_fam hc ?_)
      simp only [Bool.not_true, Bool.false_eq_true, if_false]
      refine wpAny_bind (ofA_fam hb ?_)
      simp only [Bool.false_eq_true, if_false]
      refine wpAny_bind (ofA_fam hc ?_)
      simp only [Bool.false_eq_true, if_false]
      exact wpAny_pure ⟨rfl, rfl, hin'⟩
  · obtain ⟨r1, r2⟩ := r
    obtain ⟨hr, rfl, _⟩ := hI
    have hr : r1 = none := hr
    subst hr
    exact wpAny_pure h

/-! the set of families that got L, one by one -/
structure SetF (w : World) (h : Heap) (a : Addr) (L : List (Addr × List Bag)) (es : Array (Int × Value)) (ep : Nat) (t : SetTable) : Prop where
  ob : ∃ o, h.get? a = some o ∧ o.ExactSet ∧ o.data = .set es ep t
  rows : (es.toList.map (·.2)).Perm (L.map fun p => Value.ref p.1)
  tab : Tab4 t es.size
  key : ∀ p ∈ L, IsFK h p.2 p.1
  plain : t.plain = true
  led : w.params.followText "set-order" = true ∨ t.led = true
  room : es.size * 5 < t.mask * 3
variable {a : Addr} {L : List (Addr × List Bag)} {es : Array (Int × Value)} {ep : Nat} {t : SetTable}
theorem SetF.size {h : Heap} (R : SetF w h a L es ep t) : es.size = L.length := by
  have e := R.rows.length_eq
  rw [List.length_map, List.length_map, Array.length_toList] at e
  exact e
theorem fits4 {n : Nat} (T : Tab4 t n) (h : n * 5 < t.mask * 3) : t.fits n = true := by
  unfold SetTable.fits SetTable.fill
  rw [T.dm, Bool.and_eq_true, beq_iff_eq, decide_eq_true_eq]
  refine ⟨T.sz, ?_⟩
  have e : (#[] : Array Nat).size = 0 := rfl
  rw [e, T.sz]
  omega
theorem SetF.entry {h : Heap} (R : SetF w h a L es ep t) {e : Int × Value} (he : e ∈ es.toList) : ∃ p ∈ L, e.2 = Value.ref p.1 := by
  have h1 : e.2 ∈ es.toList.map (·.2) := List.mem_map.mpr ⟨e, he, rfl⟩
  obtain ⟨p, hp, e2⟩ := List.mem_map.mp (R.rows.mem_iff.mp h1)
  exact ⟨p, hp, e2.symm⟩
theorem gw4 {n : Nat} (T : Tab4 t n) : ¬ t.gaveWay = true := by
  unfold SetTable.gaveWay
  rw [odd4 T.mok]
  decide
theorem nth_dummy (m : Nat) : ∀ (n : Nat) (p : SetTable.Probe), p.dummy = none → (nth m p n).dummy = none
  | 0, _, h => h
  | n + 1, p, h => nth_dummy m n (adv m p) (by
    unfold adv
    split <;> exact h)
/-- a search for what is not there, from the c-th step of its way on -/
theorem search_f (R : SetF w s.heap a L es ep t) {x : Addr} {F : List Bag} (hx : IsFK s.heap F x) (hnew : F ∉ L.map (·.2)) (hu : A.units + 8 < cLine) (h : Int) {K : Nat} (hKf : K < 10 * SetTable.turns t.mask)
    (hK : way t.mask h K ∉ t.place.toList) (hKb : ∀ c, c < K → way t.mask h c ∈ t.place.toList) {Q : SetFound → Shared → Prop} (hQ : Q (.free (way t.mask h K) false) s) :
    ∀ (f c : Nat) (stand : Option SetTable.Probe), stand.getD (t.probeStart h) = nth t.mask (runAt t.mask (SetTable.bits h % (t.mask + 1)) (SetTable.bits h)) c → c ≤ K → K - c < f →
      wpAny (model P w) A (setSearchFrom a (.ref x) h true f stand) Q E s
  | 0, c, stand, _, _, hf => absurd hf (Nat.not_lt_zero _)
  | f + 1, c, stand, hst, hc, hf => by
    obtain ⟨o, ho, hex, hd⟩ := R.ob
    have hfit := fits4 R.tab R.room
    rw [setSearchFrom_succ]
    refine wpAny_bind (wpAny_setState_of ho hd hfit ?_)
    dsimp only
    refine wp_if_neg (gw4 R.tab) ?_
    refine wpAny_bind (wpAny_pure ?_)
    generalize hp0 : runAt t.mask (SetTable.bits h % (t.mask + 1)) (SetTable.bits h) = p0 at hst
    have ew : ∀ q, (nth t.mask (nth t.mask p0 c) q).j = way t.mask h (c + q) := fun q => by
      rw [← nth_add, ← hp0]
    have hd0 : (nth t.mask p0 c).dummy = none := nth_dummy t.mask c p0 (by rw [← hp0]; rfl)
    have spec := go_spec t R.tab.ris R.tab.dm (fun i => (es[i]?.map (·.1)).getD 0) h (10 * SetTable.turns t.mask) (K - c) _ hd0 (by omega)
      (fun q hq => by rw [ew]; exact hKb (c + q) (by omega)) (by rw [ew, show c + (K - c) = K by omega]; exact hK)
    rcases spec with ⟨q, i, hq, hi, hh, hno, hpr⟩ | ⟨hno, hpr⟩
    · have hpr2 : t.probe (fun i => (es[i]?.map (·.1)).getD 0) h (stand.getD (t.probeStart h)) = some (.candidate (way t.mask h (c + q)) i (nth t.mask p0 (c + (q + 1)))) := by
        rw [hst, ← ew, nth_add t.mask c p0 (q + 1)]
        exact hpr
      rw [hpr2]
      dsimp only
      rw [ew] at hi
      have hil : i < es.size := by
        have h1 := (List.getElem?_eq_some_iff.mp hi).1
        rw [Array.length_toList, R.tab.sz] at h1
        exact h1
      have he : es[i]? = some es[i] := Array.getElem?_eq_getElem hil
      obtain ⟨p, hp, ey⟩ := R.entry (e := es[i]) (by simp)
      generalize es[i] = e at he ey
      obtain ⟨eh, y⟩ := e
      have ey : y = Value.ref p.1 := ey
      subst ey
      have hkp := R.key p hp
      have hne : ¬ kF p.2 = kF F := fun z => hnew (List.mem_map.mpr ⟨p, hp, kF_inj z⟩)
      have rest : wpAny (model P w) A (searchRest a (.ref x) h true f es t (way t.mask h (c + q)) i (nth t.mask p0 (c + (q + 1)))) Q E s := by
        unfold searchRest
        rw [he]
        dsimp only
        refine wpAny_bind (wpAny_holding (eq_fam hu hkp hx ?_))
        rw [decide_eq_false hne]
        refine wpAny_bind (wpAny_setState_of ho hd hfit ?_)
        dsimp only
        refine wp_if_neg (by simp) ?_
        refine wpAny_bind (wpAny_pure ?_)
        rw [sameMem]
        dsimp only
        have hsl : t.slot (way t.mask h (c + q)) = .live i := slot_live R.tab.ris hi
        simp only [if_true, hsl, he]
        refine wpAny_bind (wpAny_isSame_ref_self (wpAny_bind (wpAny_pure ?_)))
        simp only [if_true]
        refine wp_if_neg (by simp) ?_
        exact search_f R hx hnew hu h hKf hK hKb hQ f (c + (q + 1)) _ (by rw [hp0]; rfl) (by omega) (by omega)
      by_cases hl : t.led = true
      · refine wp_if_neg (by simp [hl]) ?_
        exact wpAny_bind (wpAny_pure rest)
      · refine wp_if_pos (by simp [hl]) ?_
        refine wpAny_bind (seen_fam hx (fun y hy => ?_) ?_)
        · obtain ⟨e, he, ee⟩ := List.mem_map.mp hy
          have he2 : e ∈ es.toList := by
            have he1 : e ∈ es ∧ e.1 = h := by simpa using he
            simpa using he1.1
          obtain ⟨p2, hp2, e2⟩ := R.entry he2
          exact ⟨p2.2, p2.1, by rw [← ee, e2], R.key p2 hp2⟩
        · refine wp_if_neg (by decide) ?_
          exact wpAny_bind (wpAny_pure rest)
    · have hpr2 : t.probe (fun i => (es[i]?.map (·.1)).getD 0) h (stand.getD (t.probeStart h)) = some (.empty (way t.mask h K) none) := by
        rw [hst, show way t.mask h K = (nth t.mask (nth t.mask p0 c) (K - c)).j by rw [ew, show c + (K - c) = K by omega]]
        exact hpr
      rw [hpr2]
      dsimp only
      exact wpAny_pure hQ
end
end Sb

/-! SbSet3 -/
namespace Sb
open PySem PySem.Spec PyProof.Rows L2 SB
section
variable {P : Program} {w : World} {A : Around} {E : Value → Shared → Prop} {s : Shared}
variable {a : Addr} {L : List (Addr × List Bag)} {es : Array (Int × Value)} {ep : Nat} {t : SetTable}
theorem isFK_same {h h' : Heap} {F : List Bag} {b : Addr} {o : Obj} (hb : IsFK h F b) (ho : h.get? a = some o) (hd : o.data = .set es ep t) (hs : Heap.SameBut a h h') : IsFK h' F b :=
  NestedIs.at (fun c ob vs n e k => by
    refine (hs.2 c fun z => ?_).trans e
    subst z
    rw [ho] at e
    rw [← Option.some.inj e, hd] at k
    cases k) _ _ hb
theorem isFK_keep {h h' : Heap} {F : List Bag} {b : Addr} (hb : IsFK h F b) (hk : ∀ c o, h.get? c = some o → h'.get? c = some o) : IsFK h' F b := NestedIs.at (fun c ob vs n e _ => hk c ob e) _ _ hb

/-- the elements in another order -/
theorem order_perm {order : Array Nat} (hp : order.toList.Perm (List.range es.size)) : (order.filterMap (es[·]?)).toList.Perm es.toList := by
  have e : (order.filterMap (es[·]?)).toList = order.toList.filterMap (fun i => es.toList[i]?) := by
    rw [Array.toList_filterMap]
    congr 1
    funext i
    rw [Array.getElem?_toList]
  rw [e]
  refine (hp.filterMap _).trans ?_
  have key : ∀ l : List (Int × Value), (List.range l.length).filterMap (fun i => l[i]?) = l := fun l => by
    have : ∀ n, n ≤ l.length → (List.range n).filterMap (fun i => l[i]?) = l.take n := by
      intro n
      induction n with
      | zero => intro _; rfl
      | succ n ih =>
        intro hn
        rw [List.range_succ, List.filterMap_append, ih (by omega), List.take_add_one]
        congr 1
    rw [this l.length (Nat.le_refl _), List.take_length]
  have k := key es.toList
  rw [Array.length_toList] at k
  rw [k]

/-- the table laid anew, larger -/
theorem relay_f {o : Obj} (ho : s.heap.get? a = some o) (hex : o.ExactSet) (hd : o.data = .set es ep t) (rows : (es.toList.map (·.2)).Perm (L.map fun p => Value.ref p.1)) (T : Tab4 t es.size) (hfl : es.size ≤ t.mask)
    (key : ∀ p ∈ L, IsFK s.heap p.2 p.1) (pl : t.plain = true) (ld : w.params.followText "set-order" = true ∨ t.led = true) {wanted M : Nat} (hw : SetTable.sizeAbove wanted - 1 = M) (hM : Mask4 M) (hw2 : SetTable.sizeAbove wanted ≤ 512) (hn : es.size * 5 < M * 3) (h200 : es.size ≤ 200)
    {Q : Unit → Shared → Prop} (hQ : ∀ h' es' ep' t', Heap.SameBut a s.heap h' → SetF w h' a L es' ep' t' → Q () { s with heap := h' }) : wpAny (model P w) A (setRelay a wanted) Q E s := by
  have hfits : t.fits es.size = true := by
    unfold SetTable.fits SetTable.fill
    rw [T.dm, T.sz, Bool.and_eq_true, beq_iff_eq, decide_eq_true_eq]
    exact ⟨rfl, hfl⟩
  obtain ⟨t', order, e, hp, T2, em, el, epl⟩ := relaid4 t (hs := es.map (·.1)) (wanted := wanted) hw hM (by rw [Array.size_map]; omega)
  rw [Array.size_map] at hp T2
  have hperm := order_perm (es := es) hp
  have hsz : (order.filterMap (es[·]?)).size = es.size := by
    have := hperm.length_eq
    rw [Array.length_toList, Array.length_toList] at this
    exact this
  rw [setRelay_eq]
  refine wpAny_bind (wpAny_setState_of ho hd hfits ?_)
  dsimp only
  refine wp_if_neg (by rw [sizeLine_eq]; omega) ?_
  try refine wpAny_bind (wpAny_pure ?_)
  rw [e]
  dsimp only
  refine wpAny_bind ?_
  refine wp_if_neg (by rw [hsz]; simp) ?_
  try refine wpAny_bind (wpAny_pure ?_)
  refine wpAny_pure ?_
  dsimp only
  refine wpAny_storeSet_of ho hd ?_ (by rw [hsz, sizeLine_eq]; omega)
  have sb : Heap.SameBut a s.heap (s.heap.update a (Obj.putSet (order.filterMap (es[·]?)) t')) := Heap.SameBut.update ..
  refine hQ _ _ (ep + 1) t' sb ⟨⟨_, store_at ho hd, ⟨hex.1, hex.2.1, hex.2.2⟩, rfl⟩, (hperm.map _).trans rows, by rw [hsz]; exact T2, fun p hpm => isFK_same (key p hpm) ho hd sb, by rw [epl]; exact pl, by rw [el]; exact ld, ?_⟩
  rw [hsz, em]
  exact hn

/-- a new family is added -/
theorem add_f (R : SetF w s.heap a L es ep t) {x : Addr} {F : List Bag} (hx : IsFK s.heap F x) (hnew : F ∉ L.map (·.2)) (hu : A.units + 8 < cLine) (hfew : L.length < 190) (h : Int) {Q : Bool → Shared → Prop}
    (hQ : ∀ b h' es' ep' t', Heap.SameBut a s.heap h' → SetF w h' a (L ++ [(x, F)]) es' ep' t' → Q b { s with heap := h' }) : wpAny (model P w) A (setAddHashed a (.ref x) h) Q E s := by
  obtain ⟨o, ho, hex, hd⟩ := R.ob
  have hsl := R.size
  have hroom := R.room
  have hfit := fits4 R.tab R.room
  obtain ⟨K, hKf, hK, hKb⟩ := R.tab.first (by omega) h
  have hbig : K < 100000 := by
    have : 10 * SetTable.turns t.mask ≤ 5260 := by
      unfold SetTable.turns
      rcases R.tab.mok with e | e | e | e <;> omega
    omega
  unfold setAddHashed
  refine wpAny_holding ?_
  rw [show (100000 : Nat) = 99999 + 1 from rfl, setAddHashedIn_succ]
  refine wpAny_bind (wpAny_setState_of ho hd hfit ?_)
  dsimp only
  refine wp_if_neg (by simp [byScan, Value.scannable]) ?_
  try refine wpAny_bind (wpAny_pure ?_)
  unfold setSearch
  refine wpAny_bind (search_f R hx hnew hu h hKf hK hKb ?_ 100000 0 none rfl (Nat.zero_le _) (by omega))
  dsimp only
  refine wpAny_bind (wpAny_setState_of ho hd hfit ?_)
  dsimp only
  generalize way t.mask h K = j at hK
  obtain ⟨q1, q2, q3, q4, q5, q6⟩ := R.tab.put hK
  have hp1 : (t.put j).1.plain = true := by rw [q5]; exact R.plain
  have hpp : (t.put j).2 = SetTable.below t.place j := rfl
  generalize t.put j = pt at q2 q3 q4 q5 q6 hp1 hpp ⊢
  obtain ⟨t1, p⟩ := pt
  dsimp only at q2 q3 q4 q5 q6 hp1 hpp ⊢
  first
    | (refine wpAny_bind ?_; refine wp_if_pos hp1 ?_; refine byV_fam hx ?_)
    | refine wp_if_pos hp1 (wpAny_bind (byV_fam hx ?_))
  simp only [if_true]
  have hrows : (SetTable.insertAt es p (h, Value.ref x)).toList.Perm ((h, Value.ref x) :: es.toList) := by
    rw [SetTable.toList_insertAt]
    exact put_perm _ _ _
  have hes : (SetTable.insertAt es p (h, Value.ref x)).size = es.size + 1 := by
    have := hrows.length_eq
    rw [List.length_cons, Array.length_toList, Array.length_toList] at this
    exact this
  have rows1 : ((SetTable.insertAt es p (h, Value.ref x)).toList.map (·.2)).Perm ((L ++ [(x, F)]).map fun p => Value.ref p.1) := by
    refine (hrows.map (·.2)).trans ?_
    rw [List.map_cons, List.map_append]
    refine (List.Perm.cons _ R.rows).trans ?_
    exact (List.perm_append_singleton _ _).symm
  generalize SetTable.insertAt es p (h, Value.ref x) = es1 at hes rows1 ⊢
  refine wpAny_bind (wpAny_storeSet_of ho hd ?_ (by rw [hes, sizeLine_eq]; omega))
  have sb : Heap.SameBut a s.heap (s.heap.update a (Obj.putSet es1 t1)) := Heap.SameBut.update ..
  have ho1 := store_at (es' := es1) (t' := t1) ho hd
  generalize s.heap.update a (Obj.putSet es1 t1) = h1 at sb ho1 ⊢
  have key1 : ∀ p ∈ L ++ [(x, F)], IsFK h1 p.2 p.1 := fun p hp => by
    rcases List.mem_append.mp hp with hp | hp
    · exact isFK_same (R.key p hp) ho hd sb
    · rw [List.mem_singleton.mp hp]
      exact isFK_same hx ho hd sb
  have ld1 : w.params.followText "set-order" = true ∨ t1.led = true := by rw [q4]; exact R.led
  have T1 : Tab4 t1 es1.size := by rw [hes]; exact q2
  have hfull : t1.tooFull = decide ((es.size + 1) * 5 ≥ t1.mask * 3) := by
    unfold SetTable.tooFull
    rw [q6]
  by_cases hf : t1.tooFull = true
  · first
      | (refine wpAny_bind ?_; refine wp_if_pos (by simp [hf]) ?_)
      | (refine wp_if_pos (by simp [hf]) ?_; refine wpAny_bind ?_)
    rw [hfull, decide_eq_true_eq, q3] at hf
    have cases3 : (t.mask = 7 ∧ es.size = 4) ∨ (t.mask = 31 ∧ es.size = 18) ∨ (t.mask = 127 ∧ es.size = 76) := by
      rcases R.tab.mok with e | e | e | e <;> rw [e] at hf hroom
      · exact .inl ⟨e, by omega⟩
      · exact .inr (.inl ⟨e, by omega⟩)
      · exact .inr (.inr ⟨e, by omega⟩)
      · omega
    have go : ∀ M, SetTable.sizeAbove (SetTable.grown (es.size + 1)) - 1 = M → Mask4 M → SetTable.sizeAbove (SetTable.grown (es.size + 1)) ≤ 512 → (es.size + 1) * 5 < M * 3 → es.size + 1 ≤ t.mask →
        wpAny (model P w) A (setRelay a (SetTable.grown (es.size + 1))) (fun _ s' => wpAny (model P w) A (pure true) Q E s') E { s with heap := h1 } := fun M e1 e2 e3 e4 e5 => by
      refine relay_f (s := { s with heap := h1 }) ho1 ⟨hex.1, hex.2.1, hex.2.2⟩ rfl rows1 T1 (by rw [hes, q3]; exact e5) key1 hp1 ld1 e1 e2 e3 (by rw [hes]; exact e4) (by rw [hes]; omega) ?_
      intro h2 es2 ep2 t2 sb2 R2
      exact wpAny_pure (hQ true h2 es2 ep2 t2 (sb.trans sb2) R2)
    rcases cases3 with ⟨e1, e2⟩ | ⟨e1, e2⟩ | ⟨e1, e2⟩
    · exact go 31 (by rw [e2, size5]) (.inr (.inl rfl)) (by rw [e2, size5]; decide) (by omega) (by omega)
    · exact go 127 (by rw [e2, size19]) (.inr (.inr (.inl rfl))) (by rw [e2, size19]; decide) (by omega) (by omega)
    · exact go 511 (by rw [e2, size77]) (.inr (.inr (.inr rfl))) (by rw [e2, size77]; decide) (by omega) (by omega)
  · first
      | refine wp_if_neg (by simp [hf]) ?_
      | (refine wpAny_bind ?_; refine wp_if_neg (by simp [hf]) ?_; refine wpAny_pure ?_)
    refine wpAny_pure (hQ true h1 es1 (ep + 1) t1 sb ⟨⟨_, ho1, ⟨hex.1, hex.2.1, hex.2.2⟩, rfl⟩, rows1, T1, key1, hp1, ld1, ?_⟩)
    rw [hfull, decide_eq_true_eq] at hf
    rw [hes]
    omega

theorem setF_keep {h h' : Heap} (R : SetF w h a L es ep t) (ha : ∀ o, h.get? a = some o → h'.get? a = some o) (ht : ∀ p ∈ L, IsFK h' p.2 p.1) : SetF w h' a L es ep t := by
  obtain ⟨o, ho, r⟩ := R.ob
  exact ⟨⟨o, ha o ho, r⟩, R.rows, R.tab, ht, R.plain, R.led, R.room⟩
theorem setF_new {h : Heap} (ho : h.get? a = some { cls := .type "set", dict := none, data := .set #[] 0 (.fresh 0 0 (!w.params.followText "set-order")) }) : SetF w h a [] #[] 0 (.fresh 0 0 (!w.params.followText "set-order")) where
  ob := ⟨_, ho, ⟨rfl, rfl, rfl⟩, rfl⟩
  rows := List.Perm.refl _
  tab := ⟨List.Pairwise.nil, rfl, rfl, .inl rfl⟩
  key := fun p hp => by cases hp
  plain := rfl
  led := by
    cases q : w.params.followText "set-order" with
    | false => exact .inr rfl
    | true => exact .inl rfl
  room := by
    show 0 * 5 < 7 * 3
    decide

/-- set.update's loop over a list of different families -/
theorem update_f {I : Addr} {fp wr : List Addr} {G : Array GenState → Array GenState → Prop} {n : Nat} {Pv : Nat → Value → Prop} {St : Nat → Shared → Prop} {R : Result → Shared → Prop}
    (W : WalksS P w A.in1 I fp wr G n Pv St) (S : Addr) (hSf : S ∉ fp) (ks : List (Addr × List Bag)) (hn : n = ks.length) (nd : (ks.map (·.2)).Nodup) (hfew : ks.length ≤ 180) (hval : ∀ i v, Pv i v → ∃ p, ks[i]? = some p ∧ v = .ref p.1)
    (h0 : Heap) (hk : ∀ p ∈ ks, IsFK h0 p.2 p.1) (hS0 : h0.get? S = none) (hw0 : ∀ b ∈ wr, h0.get? b = none) (hu : A.in1.units + 8 < cLine) :
    ∀ (k i : Nat) (s : Shared), n - i = k → i ≤ n → St i s → (∀ b o, h0.get? b = some o → s.heap.get? b = some o) → (∃ es ep t, SetF w s.heap S (ks.take i) es ep t) →
      (∀ s' es ep t, Moved (S :: wr) G s s' → SetF w s'.heap S ks es ep t → (∀ b o, h0.get? b = some o → s'.heap.get? b = some o) → R (.ok (.ret .none)) s') →
      codeAny (model P w) A (.builtin "set.update.loop" ⟨[.ref S, .ref I], []⟩) R s := by
  have hSw : S ∉ wr := fun h => hSf (W.sub _ h)
  have hsub : ∀ b ∈ wr, b ∈ S :: wr := fun b hb => List.mem_cons_of_mem _ hb
  have keepM : ∀ {s s' : Shared}, Moved wr G s s' → (∀ b o, h0.get? b = some o → s.heap.get? b = some o) → ∀ b o, h0.get? b = some o → s'.heap.get? b = some o := fun hm hkp b o e =>
    hm.heap b o (fun hb => by
      rw [hw0 b hb] at e
      cases e) (hkp b o e)
  intro k
  induction k with
  | zero =>
    intro i s hki hi hst hkp hS hR
    obtain ⟨es, ep, t, hS⟩ := hS
    have hin : i = n := by omega
    subst hin
    refine codeAny_builtin F.entry_set_update_loop ?_
    rw [Around.under_plainId F.plain_set_update_loop _]
    show wpAny _ A.in1 (pyNext (.ref I) >>= _) _ _ s
    refine wpAny_bind (W.done s _ _ hst fun s' hm => ?_)
    show wpAny _ A.in1 (ret Value.none) _ _ s'
    have hkp' := keepM hm hkp
    rw [List.take_of_length_le (by omega)] at hS
    exact wpAny_pure (hR s' es ep t (hm.mono hsub) (setF_keep hS (fun o e => hm.heap S o hSw e) fun p hp => isFK_keep (hk p hp) hkp') hkp')
  | succ k ih =>
    intro i s hki hi hst hkp hS hR
    obtain ⟨es, ep, t, hS⟩ := hS
    have hlt : i < n := by omega
    refine codeAny_builtin F.entry_set_update_loop ?_
    rw [Around.under_plainId F.plain_set_update_loop _]
    show wpAny _ A.in1 (pyNext (.ref I) >>= _) _ _ s
    refine wpAny_bind (W.item i s _ _ hlt hst fun v s' hP hst' hm => ?_)
    obtain ⟨p, hp, rfl⟩ := hval i v hP
    have hkp' := keepM hm hkp
    have hS' : SetF w s'.heap S (ks.take i) es ep t := setF_keep hS (fun o e => hm.heap S o hSw e) fun q hq => isFK_keep (hk q (List.mem_of_mem_take hq)) hkp'
    have hx : IsFK s'.heap p.2 p.1 := isFK_keep (hk p (List.mem_of_getElem? hp)) hkp'
    have hnew : p.2 ∉ (ks.take i).map (·.2) := fun z => by
      rw [List.map_take] at z
      obtain ⟨j, hj⟩ := List.getElem?_of_mem z
      rw [List.getElem?_take] at hj
      split at hj
      · rename_i hji
        have := nd_ix nd hj (show (ks.map (·.2))[i]? = some p.2 by rw [List.getElem?_map, hp]; rfl)
        omega
      · cases hj
    show wpAny _ A.in1 (holding [Value.ref p.1] (setAdd S (.ref p.1)) >>= _) _ _ s'
    refine wpAny_bind (wpAny_holding ?_)
    unfold setAdd
    refine wpAny_holding ?_
    refine wpAny_bind ((nestedKind P w).pyHash (k := kF p.2) hu ⟨hx, kdep_F p.2⟩ ?_)
    refine add_f (s := { s' with toks := s'.toks + (kF p.2).draws }) hS' hx hnew hu (by rw [List.length_take]; omega) _ fun b h' es' ep' t' hsb hS2 => ?_
    have et : ks.take i ++ [(p.1, p.2)] = ks.take (i + 1) := by
      rw [List.take_add_one, hp]
      rfl
    rw [et] at hS2
    have hkp2 : ∀ b o, h0.get? b = some o → h'.get? b = some o := fun b o e => (hsb.2 b (fun z => by
      rw [z, hS0] at e
      cases e)).trans (hkp' b o e)
    refine wpAny_pure ⟨plainId_quiet F.plain_set_update_loop _, ih (i + 1) _ (by omega) hlt (W.frame _ s' _ _ hst' (Nat.le_add_right _ _) fun b hb o e => ?_) hkp2 ⟨es', ep', t', hS2⟩ fun s2 es2 ep2 t2 hm2 hS3 hkp3 => ?_⟩
    · rw [hsb.2 b (fun h : b = S => hSf (by rw [← h]; exact hb))]
      exact e
    · refine hR s2 es2 ep2 t2 (Moved.trans W.gtrans ((hm.mono hsub).then_heap (Nat.le_add_right _ _) fun b o hb e => ?_) hm2) hS3 hkp3
      rw [hsb.2 b (fun h : b = S => hb (by rw [h]; exact List.mem_cons_self))]
      exact e
end
end Sb

/-! SbSet4 -/
namespace Sb
open PySem PySem.Spec PyProof.Rows L2 SB
abbrev setNew (w : World) : Obj := { cls := .type "set", dict := none, data := .set #[] 0 (.fresh 0 0 (!w.params.followText "set-order")) }
section
variable {P : Program} {w : World} {A : Around} {E : Value → Shared → Prop} {s : Shared}
/-- set(xs), xs a list of different families -/
theorem call_set_f {l : Addr} {items : Array Value} (ks : List (Addr × List Bag)) {Q : Value → Shared → Prop} (hh : A.handled = none) (hl : s.heap.IsList l items) (hit : items.toList = ks.map fun p => Value.ref p.1)
    (hk : ∀ p ∈ ks, IsFK s.heap p.2 p.1) (nd : (ks.map (·.2)).Nodup) (hfew : ks.length ≤ 180) (hu : A.units + 64 < cLine)
    (h : ∀ (h' : Heap) (tk : Nat) es ep t, SetF w h' s.heap.objs.size ks es ep t → (∀ b o, s.heap.get? b = some o → h'.get? b = some o) → Q (.ref s.heap.objs.size) { s with heap := h', toks := tk }) :
    wpAny (model P w) A (call (.type "set") [.ref l]) Q E s := by
  have hisz : items.size = ks.length := by
    have q := congrArg List.length hit
    rw [Array.length_toList, List.length_map] at q
    exact q
  obtain ⟨c, tl, hmro⟩ := F.called_set.mro
  have hmade := F.called_set.made
  have hsub := F.called_set.sub
  refine wpAny_call (codeAny_of_tree ?_)
  show wpAny _ _ (callAny (.type "set") _) _ _ _
  refine wpAny_pure ⟨Code.quiet_builtin _ (by decide +kernel), codeAny_builtin F.entry_type_call ?_⟩
  rw [Around.under_plain (weight_type_call_type "set" [.ref l] []) rfl]
  have h1 := F.called_set.notType
  have h2 := F.called_set.canCreate
  have hct := F.typeCall_set_1 (.ref l)
  repeat (any_goals (first | assumption | wp_step))
  refine codeAny_mono (code_set_led1 (.ref l) (E := E) (Q₁ := fun obj s1 => obj = .ref s.heap.objs.size ∧ s1 = { s with heap := s.heap.push (setNew w) }) ⟨rfl, rfl⟩) fun r s1 hr => ?_
  cases r with
  | error e => exact hr
  | ok fl =>
    cases fl with
    | ret obj =>
      obtain ⟨rfl, rfl⟩ := hr
      have hS : (s.heap.push (setNew w)).get? s.heap.objs.size = some (setNew w) := Heap.get?_push_size _ rfl
      have hT : Shared.TypeIs { s with heap := s.heap.push (setNew w) } (.ref s.heap.objs.size) "set" := ⟨_, hS, rfl⟩
      have hli := F.called_set.init.lookup
      have hbi := F.called_set.init.bind (.ref s.heap.objs.size)
      repeat (any_goals (first | assumption | wp_step))
      refine codeAny_mono (codeAny_call_builtin (R := wants (fun r s2 => r = .none ∧ ∃ h' tk es ep t, s2 = { s with heap := h', toks := tk } ∧ SetF w h' s.heap.objs.size ks es ep t ∧
          (∀ b o, s.heap.get? b = some o → h'.get? b = some o)) E) F.called_set.init.plain F.entry_set_init (check_set_init_1 hT ?_)) fun r2 s2 hr2 => ?_
      · obtain ⟨⟨ocls, odict, odata, oslots⟩, hol, hcl, nl, hdl⟩ := hl
        have hcl : ocls = .type "list" := hcl
        have hdl : odata = .seq items nl := hdl
        subst hcl hdl
        have hol' : (s.heap.push (setNew w)).get? l = some { cls := .type "list", dict := odict, data := .seq items nl, slots := oslots } := Heap.get?_push_of_some _ hol
        have hsls := F.sub_list_set
        have hslf := F.sub_list_frozenset
        have hne : (Value.type "list" == Value.type "dict") = false := by decide
        have hl1 : (s.heap.push (setNew w)).IsList l items := ⟨_, hol', rfl, nl, rfl⟩
        unfold Builtin.«set.__init__» noKeywords Builtin.Frozenset.updateFrom
        generalize hPI : pyIter = PI
        wp_walk
        subst hPI
        refine wpAny_pyIter_list hl1 ?_
        refine wpAny_bind (wpAny_runValue ?_)
        have hlS : l < s.heap.objs.size := Heap.lt_size hol
        have hh3 : A.in1.in1.in1.handled = none := by simp [hh]
        have hz1 : (s.heap.push (setNew w)).objs.size = s.heap.objs.size + 1 := Heap.size_push ..
        have hneI : l ≠ (s.heap.push (setNew w)).objs.size := by
          rw [hz1]
          exact Nat.ne_of_lt (Nat.lt_succ_of_lt hlS)
        have hSf : s.heap.objs.size ∉ [(s.heap.push (setNew w)).objs.size, l] := by
          rw [hz1]
          intro z
          rcases List.mem_cons.mp z with z | z
          · exact absurd z (Nat.ne_of_lt (Nat.lt_succ_self _))
          · exact absurd (List.mem_singleton.mp z) (Nat.ne_of_gt hlS)
        have hval : ∀ (i : Nat) (v : Value), items[i]? = some v → ∃ p, ks[i]? = some p ∧ v = .ref p.1 := fun i v hv => by
          rw [← Array.getElem?_toList, hit, List.getElem?_map] at hv
          cases hq : ks[i]? with
          | none =>
            rw [hq] at hv
            cases hv
          | some p =>
            rw [hq] at hv
            exact ⟨p, rfl, (Option.some.inj hv).symm⟩
        have none_of : ∀ b, s.heap.objs.size ≤ b → s.heap.get? b = none := fun b hb => by
          cases q : s.heap.get? b with
          | none => rfl
          | some o => exact absurd (Nat.lt_of_lt_of_le (Heap.lt_size q) hb) (Nat.lt_irrefl _)
        refine update_f ((Walks.list hh3 _ l hneI items).toS) s.heap.objs.size
          hSf ks hisz nd hfew hval s.heap hk (none_of _ (Nat.le_refl _)) (fun b hb => none_of b (by
            rw [List.mem_singleton.mp hb, hz1]
            exact Nat.le_succ _)) ?hu (items.size - 0) 0 _ (by omega) (Nat.zero_le _)
          ⟨⟨_, Heap.get?_push_size _ rfl, rfl, rfl⟩, (hl1.push _)⟩ (fun b o e => Heap.get?_push_of_some _ (Heap.get?_push_of_some _ e)) ?hS0 ?hR
        case hu =>
          show A.units + 1 + 1 + 1 + 8 < cLine
          omega
        case hS0 =>
          have hget : ((s.heap.push (setNew w)).push { cls := .type "list_iterator", data := .fields #[.ref l, .int 0 0] }).get? s.heap.objs.size = some (setNew w) := Heap.get?_push_of_some _ hS
          exact ⟨#[], 0, _, setF_new hget⟩
        case hR =>
          intro s' es ep t hm hS' hkp
          obtain ⟨h', g2, d', tk', os'⟩ := s'
          have eg : g2 = s.gens := hm.gens
          have ed : d' = s.drawn := hm.drawn
          have eo : os' = s.os := hm.os
          subst eg ed eo
          show wpAny _ _ _ _ _ _
          refine wpAny_pure ?_
          show wpAny _ _ (ret Value.none) _ _ _
          exact wpAny_pure ⟨rfl, h', tk', es, ep, t, rfl, hS', hkp⟩
      · cases r2 with
        | error e => exact hr2
        | ok fl2 =>
          cases fl2 with
          | ret r =>
            obtain ⟨rfl, h', tk, es, ep, t, rfl, hS', hk'⟩ := hr2
            repeat (any_goals (first | assumption | wp_step))
            exact h _ _ _ _ _ hS' hk'
          | _ => exact hr2.elim
    | _ => exact hr.elim
end
end Sb

/-! SbSet5 -/
namespace Sb
open PySem PySem.Spec PyProof.Rows L2 SB

/-! data of tuples alone: no list is read -/
theorem noL_ints {h : Heap} : ∀ {l : List Nat} {vs : List Value} {as : List Addr}, ReadsAll h vs (l.map dN) as → as = []
  | [], _, _, r => by
    have r' : ReadsAll h _ [] _ := r
    cases r'
    rfl
  | n :: l, _, _, r => by
    have r' : ReadsAll h _ (PyData.int (n : Int) :: l.map dN) _ := r
    cases r' with
    | cons h1 h2 =>
      cases h1
      rw [noL_ints h2]
      rfl
theorem noL_dB {h : Heap} {b : Bag} {v : Value} {as : List Addr} (r : Reads h v (dB b) as) : as = [] := by
  have r' : Reads h v (.tuple (b.map dN)) as := r
  cases r' with
  | tuple _ _ _ h4 => exact noL_ints h4
theorem noL_bags {h : Heap} : ∀ {F : List Bag} {vs : List Value} {as : List Addr}, ReadsAll h vs (F.map dB) as → as = []
  | [], _, _, r => by
    have r' : ReadsAll h _ [] _ := r
    cases r'
    rfl
  | b :: F, _, _, r => by
    have r' : ReadsAll h _ (dB b :: F.map dB) _ := r
    cases r' with
    | cons h1 h2 =>
      rw [noL_dB h1, noL_bags h2]
      rfl
theorem noL_dF {h : Heap} {F : List Bag} {v : Value} {as : List Addr} (r : Reads h v (dF F) as) : as = [] := by
  have r' : Reads h v (.tuple (F.map dB)) as := r
  cases r' with
  | tuple _ _ _ h4 => exact noL_bags h4

/-- two lists in step, the first arranged anew -/
theorem each_perm {α β : Type} {R : α → β → Prop} {vs us : List α} (p : vs.Perm us) : ∀ {bs : List β}, PySem.W.EachIs R us bs → ∃ cs, cs.Perm bs ∧ PySem.W.EachIs R vs cs := by
  induction p with
  | nil =>
    intro bs e
    exact ⟨bs, List.Perm.refl _, e⟩
  | @cons x l r _ ih =>
    intro bs e
    cases e with
    | cons h t =>
      obtain ⟨cs, h1, h2⟩ := ih t
      exact ⟨_ :: cs, h1.cons _, .cons h h2⟩
  | @swap x y l =>
    intro bs e
    cases e with
    | cons h t =>
      cases t with
      | cons h' t' => exact ⟨_ :: _ :: _, List.Perm.swap _ _ _, .cons h' (.cons h t')⟩
  | @trans l1 l2 l3 _ _ ih1 ih2 =>
    intro bs e
    obtain ⟨cs, h1, h2⟩ := ih2 e
    obtain ⟨ds, h3, h4⟩ := ih1 h2
    exact ⟨ds, h3.trans h1, h4⟩
theorem each_refs : ∀ ps : List (Addr × List Bag), PySem.W.EachIs (fun v p => v = Value.ref p.1) (ps.map fun p => Value.ref p.1) ps
  | [] => .nil
  | p :: ps => .cons rfl (each_refs ps)
theorem refs_each : ∀ {vs : List Value} {ps : List (Addr × List Bag)}, PySem.W.EachIs (fun v p => v = Value.ref p.1) vs ps → vs = ps.map fun p => Value.ref p.1
  | _, _, .nil => rfl
  | _, _, .cons h t => by rw [h, refs_each t]; rfl
theorem each_mp {α β : Type} {R S : α → β → Prop} : ∀ {vs : List α} {bs : List β}, PySem.W.EachIs R vs bs → (∀ v, ∀ b ∈ bs, R v b → S v b) → PySem.W.EachIs S vs bs
  | _, _, .nil, _ => .nil
  | _, _, .cons h t, k => .cons (k _ _ (List.mem_cons_self ..) h) (each_mp t fun v b hb => k v b (List.mem_cons_of_mem _ hb))

/-- the set at a with the elements at as -/
def SetF0 (w : World) (h : Heap) (a : Addr) (as : List Addr) : Prop :=
  ∃ es ep t, (∃ o, h.get? a = some o ∧ o.ExactSet ∧ o.data = .set es ep t) ∧ (es.toList.map (·.2)).Perm (as.map Value.ref) ∧ Tab4 t es.size ∧ (w.params.followText "set-order" = true ∨ t.led = true) ∧ es.size * 5 < t.mask * 3
def SetFO (w : World) (a : Addr) (as : List Addr) : HO := .ext fun h => SetF0 w h a as
theorem SetF.bare {w : World} {h : Heap} {a : Addr} {L : List (Addr × List Bag)} {es : Array (Int × Value)} {ep : Nat} {t : SetTable} (R : SetF w h a L es ep t) : SetF0 w h a (L.map (·.1)) := by
  refine ⟨es, ep, t, R.ob, ?_, R.tab, R.led, R.room⟩
  rw [List.map_map]
  exact R.rows
theorem setFO_new {P : Program} {w : World} {H : Hp} {h : Heap} {a : Addr} {as : List Addr} (R : SetF0 w h a as) : ObjOk P w H h a (SetFO w a as) := by
  have R0 := R
  obtain ⟨es, ep, t, ⟨o, ho, _⟩, _⟩ := R
  refine ⟨R0, ⟨o, ho⟩, fun h1 h2 p k => ?_⟩
  have p : SetF0 w h1 a as := p
  obtain ⟨es', ep', t', ⟨o', ho', r'⟩, q'⟩ := p
  exact ⟨es', ep', t', ⟨o', k o' ho', r'⟩, q'⟩

section
variable {P : Program} {w : World} {A : Around} {E : Value → Shared → Prop} {s : Shared}
/-- sorted(set) -/
theorem sorted_f {a : Addr} {ps : List (Addr × List Bag)} {Q : Value → Shared → Prop} (R : SetF0 w s.heap a (ps.map (·.1))) (hh : A.handled = none) (hu : A.units + 64 < cLine) (hr : ∀ p ∈ ps, ∃ as, Reads s.heap (.ref p.1) (dF p.2) as) (hne : ∀ p ∈ ps, 0 < p.2.length) (hfew : ps.length ≤ 180)
    (hQ : ∀ s' p (out : Array Value) (c : Nat) (qs : List (Addr × List Bag)), (∀ b o, s.heap.get? b = some o → s'.heap.get? b = some o) → s'.gens = s.gens → s'.os = s.os → s.heap.objs.size ≤ p →
      s'.heap.get? p = some (seqObj "list" out c) → out.toList = qs.map (fun q => Value.ref q.1) → qs.Perm ps → qs.map (·.2) = srtF (ps.map (·.2)) → Q (.ref p) s') :
    wpAny (model P w) A (call (.builtin "sorted") [.ref a]) Q E s := by
  obtain ⟨es, ep, t, ⟨o, ho, hex, hd⟩, hp, T, led, room⟩ := R
  have hsz : es.size = ps.length := by
    have := hp.length_eq
    rw [List.length_map, List.length_map, List.length_map, Array.length_toList] at this
    exact this
  refine Calls.call_function_entry kind_sorted plain_sorted entry_sorted (args_sorted1 _) ?_
  unfold Builtin.«sorted»
  refine wpAny_bind (m := checkCount "sorted" 1 1 _) (wpAny_pure ?_)
  refine wpAny_bind (collect_set (A := A.in1) hh ⟨o, ho, hex.1, hd⟩ (fits4 T room) (by unfold scanBound; omega) T.ris led fun s1 vs k1 hz g1 o1 pm => ?_)
  rw [List.map_map] at hp
  obtain ⟨bs, pb, eb⟩ := each_perm (pm.trans hp) (each_refs ps)
  have hvl : vs.length = ps.length := by
    have := (pm.trans hp).length_eq
    rw [List.length_map] at this
    exact this
  refine wpAny_bind (wpAny_newList ?_ (by rw [sizeLine_eq]; omega))
  have hoL : (s1.heap.push (seqObj "list" vs.toArray 0)).get? s1.heap.objs.size = some (seqObj "list" vs.toArray 0) := Heap.get?_push_size _ rfl
  have er : PySem.W.EachIs (fun v b => ∃ as, Reads (s1.heap.push (seqObj "list" vs.toArray 0)) v (dF b.2) as ∧ s1.heap.objs.size ∉ as) vs bs := each_mp eb fun v b hb e => by
    obtain ⟨as, r⟩ := hr b (pb.mem_iff.mp hb)
    have e0 := noL_dF r
    subst e0
    subst e
    exact ⟨[], PyProof.Rows.Reads.keeps (fun b o e => Heap.get?_push_of_some _ (k1 b o e)) r, by simp⟩
  refine wpAny_bind (wpAny_holding (PySem.W.list_sort_data (s := { s1 with heap := s1.heap.push (seqObj "list" vs.toArray 0) }) (enc := fun p : Addr × List Bag => dF p.2) (R := fun v p => v = Value.ref p.1) hoL eb er (PySem.W.AllAlike.of fun b b' => alike_dF _ _) ?hso (by rw [pb.length_eq, sizeLine_eq]; omega) (fun b _ => ?hun) fun out ho2 eo => ?_))
  case hso =>
    refine .inl fun d hd => ?_
    obtain ⟨p, hp, rfl⟩ := List.mem_map.mp hd
    exact ne_dF (hne p (pb.mem_iff.mp hp))
  case hun =>
    have := dep_dF b.2
    show A.units + 1 + 1 + (dF b.2).depth < cLine
    omega
  obtain ⟨c, hc⟩ := sortedHeap_at (vs := vs) (out := out.toArray) hoL
  have pq : (bs.mergeSort (PySem.W.dataLe false fun p : Addr × List Bag => dF p.2)).Perm ps := (List.mergeSort_perm _ _).trans pb
  refine wpAny_pure ⟨_, rfl, hQ _ s1.heap.objs.size out.toArray c _ (fun b u e => ?_) g1 o1 hz hc (refs_each eo) pq ?_⟩
  · have q := k1 b u e
    have hlt := Heap.lt_size q
    show (sortedHeap (s1.heap.push (seqObj "list" vs.toArray 0)) s1.heap.objs.size vs out.toArray).get? b = some u
    rw [sortedHeap_old (Nat.ne_of_lt hlt) (by rw [size_push']; exact Nat.lt_succ_of_lt hlt)]
    exact Heap.get?_push_of_some _ q
  · have em := List.map_mergeSort (r := PySem.W.dataLe false fun p : Addr × List Bag => dF p.2) (s := leD dF) (f := fun x : Addr × List Bag => x.2) (l := bs) (fun _ _ _ _ => rfl)
    rw [em, srtF_leD]
    exact asc_unique ((srtF_perm _).trans ((pb.map _).trans (srtF_perm _).symm)) (srtF_le _) (srtF_le _)
end

/-! the rules -/
section
variable {X : Cx}
theorem nested_ints {h : Heap} : ∀ {b : List Nat} {us : List Value}, Vals (iv b) us → NestedAll h (b.map kN) us
  | [], _, .nil => .nil
  | n :: b, _, .cons r t => by
    obtain ⟨tk, rfl⟩ := r
    exact .cons (.int _ _) (nested_ints t)
theorem isB_nested {pins : List (Addr × Obj)} {σ : L2.St} {H : Hp} {s : Shared} (I : Inv X pins σ H s) {v : V} {u : Value} {b : Bag} (h : IsB X.K H v b) (r : RelV v u) : NestedIs s.heap (kB b) u := by
  obtain ⟨a, rfl, h⟩ := h
  cases (show u = Value.ref a from r)
  obtain ⟨its, rv, ⟨o, ho, hc, n, hd⟩, _⟩ := I.tuple h
  exact .tup ho hc hd (by simpa using nested_ints rv)
theorem bags_nested {pins : List (Addr × Obj)} {σ : L2.St} {H : Hp} {s : Shared} (I : Inv X pins σ H s) : ∀ {vs : List V} {us : List Value} {F : List Bag}, Paired (IsB X.K H) vs F → Vals vs us → NestedAll s.heap (F.map kB) us
  | _, _, _, .nil, .nil => .nil
  | _, _, _, .cons h t, .cons r q => .cons (isB_nested I h r) (bags_nested I t q)
theorem isF_nested {pins : List (Addr × Obj)} {σ : L2.St} {H : Hp} {s : Shared} (I : Inv X pins σ H s) {b : Addr} {F : List Bag} (h : IsF X.K H (.ref b) F) : IsFK s.heap F b := by
  obtain ⟨a, vs, e, h, hp⟩ := h
  cases e
  obtain ⟨its, rv, ⟨o, ho, hc, n, hd⟩, _⟩ := I.tuple h
  exact .tup ho hc hd (by simpa using bags_nested I hp rv)
theorem vals_refsF : ∀ {ks : List (Addr × List Bag)} {us : List Value}, Vals (ks.map fun p => V.ref p.1) us → us = ks.map fun p => Value.ref p.1
  | [], _, .nil => rfl
  | p :: ks, _, .cons r t => by
    have r : _ = Value.ref p.1 := r
    rw [r, vals_refsF t]
    rfl
theorem refsF_vals : ∀ ks : List (Addr × List Bag), Vals (ks.map fun p => V.ref p.1) (ks.map fun p => Value.ref p.1)
  | [] => .nil
  | p :: ks => .cons rfl (refsF_vals ks)
/-- set(xs), xs a list of different families -/
def rSetF (K : PySem.W.Frag) (w : World) : List V → Hp → VK → Prop := fun xs H Q => ∃ (l : Addr) (ps : List (Addr × List Bag)), xs = [V.ref l] ∧ SqL K H l (ps.map fun p => V.ref p.1) ∧ (∀ p ∈ ps, IsF K H (.ref p.1) p.2) ∧ (ps.map (·.2)).Nodup ∧ ps.length ≤ 180 ∧
  ∀ a, H a = none → Q (.ref a) (upd H a (SetFO w a (ps.map (·.1))))
theorem cr_setF (hc : X.calm = true) (hu : X.A.units + 64 < cLine) : CallR X (.type "set") (rSetF X.K X.w) := by
  intro pins s σ H xs us Q I r h
  obtain ⟨l, ps, rfl, hl, hk, nd, hf, q⟩ := h
  rw [Vals.ref1 r]
  obtain ⟨its, rv, pl, hz⟩ := I.list hl
  refine call_set_f (P := X.prog) (w := X.w) ps (I.ok.hd hc) pl.isList (by simpa using vals_refsF rv) (fun p hp => isF_nested I (hk p hp)) nd hf hu fun h' tk es ep t R k => ?_
  exact ⟨.ref s.heap.objs.size, upd H s.heap.objs.size (SetFO X.w s.heap.objs.size (ps.map (·.1))), I.laid (t' := tk) k (Nat.le_refl _) (setFO_new R.bare), rfl, q _ (I.hok.fresh (Nat.le_refl _))⟩
/-- sorted(set) -/
def rSrtF (K : PySem.W.Frag) (w : World) : List V → Hp → VK → Prop := fun vs H Q => ∃ (a : Addr) (ps : List (Addr × List Bag)), vs = [V.ref a] ∧ H a = some (SetFO w a (ps.map (·.1))) ∧ (∀ p ∈ ps, IsF K H (.ref p.1) p.2) ∧ (∀ p ∈ ps, 0 < p.2.length) ∧ ps.length ≤ 180 ∧
  ∀ (qs : List (Addr × List Bag)) (p : Addr), qs.Perm ps → qs.map (·.2) = srtF (ps.map (·.2)) → H p = none → Q (.ref p) (upd H p (.lst (qs.map fun q => V.ref q.1)))
theorem cr_srtF (hc : X.calm = true) (hu : X.A.units + 64 < cLine) : CallR X (.builtin "sorted") (rSrtF X.K X.w) := by
  intro pins s σ H vs us Q I r h
  obtain ⟨a, ps, rfl, ha, hk, hne, hf, q⟩ := h
  have R0 : SetF0 X.w s.heap a (ps.map (·.1)) := (I.hok a _ ha).1
  rw [Vals.ref1 r]
  refine sorted_f R0 (I.ok.hd hc) hu (fun p hp => Dp.reads I _ _ _ (hk p hp).dp (show RelV (.ref p.1) (.ref p.1) from rfl)) hne hf fun s' p out c qs k g o hp hg hout pm em => ?_
  have hlen : (qs.map fun q => V.ref q.1).length ≤ sizeLine := by
    rw [List.length_map, sizeLine_eq, pm.length_eq]
    omega
  have hn : H p = none := I.hok.fresh hp
  have hv : Vals (qs.map fun q => V.ref q.1) out.toList := by
    rw [hout]
    exact refsF_vals qs
  have J : Inv X pins σ (upd H p (.lst (qs.map fun q => V.ref q.1))) { s with heap := s'.heap, gens := s'.gens, drawn := s'.drawn, toks := s'.toks } :=
    I.call (ch := []) (Un.laid k hp hn) (I.hok.laid k hp ⟨hlen, out.toList, c, hv, hg⟩) (by rw [g]; exact I.bare) (fun _ z => nomatch z)
  have e : s' = { s with heap := s'.heap, gens := s'.gens, drawn := s'.drawn, toks := s'.toks } := by
    cases s'
    cases s
    cases o
    rfl
  rw [e]
  exact ⟨.ref p, _, J, rfl, q qs p pm em hn⟩
/-- set(t), t a tuple of numbers -/
def rSetI (K : PySem.W.Frag) (w : World) : List V → Hp → VK → Prop := fun xs H Q => ∃ (l : Addr) (ns : List Int), xs = [V.ref l] ∧ SqT K H l (ns.map V.int) ∧ ns.length ≤ 1000 ∧
  ∀ a n, H a = none → n ≤ ns.length → Q (.ref a) (upd H a (SetO w a (fun j => decide (j ∈ ns)) n))
theorem cr_setI (hc : X.calm = true) : CallR X (.type "set") (rSetI X.K X.w) := by
  intro pins s σ H xs us Q I r h
  obtain ⟨l, ns, rfl, hl, hf, q⟩ := h
  rw [Vals.ref1 r]
  obtain ⟨its, rv, pl, hz⟩ := I.tuple hl
  refine call_set_tupI (P := X.prog) (w := X.w) ns (I.ok.hd hc) pl (by simpa using intsAre_of rv) (by unfold scanBound; omega) fun h' tk c R hc2 k => ?_
  exact ⟨.ref s.heap.objs.size, upd H s.heap.objs.size (SetO X.w s.heap.objs.size (fun j => decide (j ∈ ns)) c), I.laid (t' := tk) k (Nat.le_refl _) (setO_new R), rfl, q _ c (I.hok.fresh (Nat.le_refl _)) hc2⟩
end
end Sb

/-! SbJ -/
namespace Sb
open PySem PySem.Spec PyProof.Rows L2 SB

/-! the law's row of draws -/
/-- all but a is as it was -/
def But (a : Addr) (H H' : Hp) : Prop := ∀ b o, b ≠ a → H b = some o → H' b = some o
theorem But.refl (a : Addr) (H : Hp) : But a H H := fun _ _ _ h => h
theorem But.trans {a : Addr} {H H1 H2 : Hp} (s : But a H H1) (t : But a H1 H2) : But a H H2 := fun b o n h => t b o n (s b o n h)
theorem But.of {a : Addr} {H H' : Hp} (s : Same H H') : But a H H' := fun b o _ h => s b o h
theorem But.set {a : Addr} {H : Hp} {o : HO} : But a H (upd H a o) := fun b u n h => by
  rw [upd_ne n]
  exact h
/-- .. and something new or untracked -/
theorem But.put {a : Addr} {H H' : Hp} {p : Addr} {o : HO} (s : But a H H') (h : H p = none) : But a H (upd H' p o) := fun b u n e => by
  rw [upd_ne (ne_of_none e h)]
  exact s b u n e
theorem But.free {a : Addr} {H H' : Hp} (e : But a H H') {l : Addr} (n : l ≠ a) (h : H' l = none) : H l = none := by
  cases q : H l with
  | none => rfl
  | some o =>
    rw [e l o n q] at h
    cases h
theorem But.seqT {K : PySem.W.Frag} {a : Addr} {H H' : Hp} (s : But a H H') {l : List V} (ha : H a = some (.lst l)) {b : Addr} {xs : List V} (h : SqT K H b xs) : SqT K H' b xs := by
  rcases h with (h | ⟨o, h⟩) | h
  · exact .inl (.inl (s _ _ (ne_of h ha (by intro z; cases z)) h))
  · exact .inl (.inr ⟨o, s _ _ (ne_of h ha (by intro z; cases z)) h⟩)
  · exact .inr h
theorem But.isB {K : PySem.W.Frag} {a : Addr} {H H' : Hp} (s : But a H H') {l : List V} (ha : H a = some (.lst l)) {v : V} {b : Bag} (h : IsB K H v b) : IsB K H' v b := by
  obtain ⟨c, e, h⟩ := h
  exact ⟨c, e, s.seqT ha h⟩
theorem But.isF {K : PySem.W.Frag} {a : Addr} {H H' : Hp} (s : But a H H') {l : List V} (ha : H a = some (.lst l)) {v : V} {F : List Bag} (h : IsF K H v F) : IsF K H' v F := by
  obtain ⟨c, vs, e, h, hp⟩ := h
  exact ⟨c, vs, e, s.seqT ha h, pr_imp (fun _ _ h => s.isB ha h) hp⟩
/-- the script's list: never written -/
def SqF (K : PySem.W.Frag) (H : Hp) (s : Addr) (xs : List V) : Prop := (∃ o, H s = some (.frz o (.lst xs))) ∨ ∃ (o : Obj) (its : Array Value) (n : Nat), K.lookup s = some o ∧ o.cls = .type "list" ∧ o.dict = none ∧ o.data = .seq its n ∧ its.size ≤ sizeLine ∧ Vals xs its.toList
theorem SqF.sq {K : PySem.W.Frag} {H : Hp} {s : Addr} {xs : List V} (h : SqF K H s xs) : SqL K H s xs := by
  rcases h with ⟨o, h⟩ | h
  · exact .inl (.inr ⟨o, h⟩)
  · exact .inr h
theorem SqF.same {K : PySem.W.Frag} {H H' : Hp} {s : Addr} {xs : List V} (h : SqF K H s xs) (e : Same H H') : SqF K H' s xs := by
  rcases h with ⟨o, h⟩ | h
  · exact .inl ⟨o, e _ _ h⟩
  · exact .inr h
theorem row_seq {K : PySem.W.Frag} {H : Hp} {p s : Addr} {l xs : List V} {o : HO} (hp : H p = some (.lst l)) (h : SqF K H s xs) : SqF K (upd H p o) s xs := by
  rcases h with ⟨u, h⟩ | h
  · refine .inl ⟨u, ?_⟩
    rw [upd_ne (ne_of h hp (by intro z; cases z))]
    exact h
  · exact .inr h
def RowAt (K : PySem.W.Frag) (H : Hp) (a : Addr) : Prop := ∃ (s : Addr) (ns : List Int) (i x r : Int), H a = some (.lst [.ref s, .int i, .int x, .int r]) ∧ SqF K H s (ns.map V.int) ∧ 0 ≤ i ∧ 0 ≤ x ∧ x < 2147483647
theorem RowAt.same {K : PySem.W.Frag} {H H' : Hp} {a : Addr} (h : RowAt K H a) (s : Same H H') : RowAt K H' a := by
  obtain ⟨b, ns, i, x, r, h1, h2, h3⟩ := h
  exact ⟨b, ns, i, x, r, s _ _ h1, h2.same s, h3⟩
theorem RowAt.lst {K : PySem.W.Frag} {H : Hp} {a : Addr} (h : RowAt K H a) : ∃ l, H a = some (.lst l) := by
  obtain ⟨b, ns, i, x, r, h1, _⟩ := h
  exact ⟨_, h1⟩
/-- another list is changed -/
theorem RowAt.upd {K : PySem.W.Frag} {H : Hp} {a p : Addr} {l : List V} {o : HO} (h : RowAt K H a) (hp : p ≠ a) (hl : H p = some (.lst l)) : RowAt K (upd H p o) a := by
  obtain ⟨b, ns, i, x, r, h1, h2, h3⟩ := h
  exact ⟨b, ns, i, x, r, by rw [upd_ne hp.symm]; exact h1, row_seq hl h2, h3⟩

section
variable {P : Program} {w : World} {K : PySem.W.Frag} {mg : Str → Option Value} {base : Heap}

/-! _law_taken -/
theorem scTaken : FnScope ["_law_row", "_law_many", "_law_found", "_law_cell"] ["_law_row", "_law_many"] (defScope sTaken) := ⟨rfl, rfl, rfl, by decide +kernel, rfl, by decide +kernel, by decide +kernel⟩
def spTaken (K : PySem.W.Frag) : Sp := fun vs H Q _ => ∃ (a : Addr) (m : Int), vs = [.ref a, .int m] ∧ RowAt K H a ∧ 0 < m ∧ m < 1073741824 ∧ ∀ (z : Int) (H' : Hp), 0 ≤ z → z < m → But a H H' → RowAt K H' a → (∀ b, b ≠ a → H' b = H b) → Q (.int z) H'
theorem ok_taken {f : Addr} {fd : FuncData} (F : Fun K "_law_taken" "_law_taken" sTaken f fd) (B : Blt mg) : FnOk P w K mg base CX0 1 f fd ["_law_row", "_law_many"] (spTaken K) := by
  refine F.ok scTaken (fun vs H Q E h => ?_) (fun cdv A outer s H vs Q E hr h => ?_)
  · obtain ⟨a, m, rfl, _⟩ := h
    rfl
  · obtain ⟨a, m, rfl, ⟨sc, ns, i, x, r, ha, hs, hi, hx0, hx1⟩, hm0, hm1, q⟩ := h
    have hm : m ≠ 0 ∧ m.natAbs < 1073741824 := ⟨by omega, by omega⟩
    have lo : ∀ z : Int, 0 ≤ z.fmod m := fun z => Int.fmod_nonneg_of_pos z hm0
    have hi' : ∀ z : Int, z.fmod m < m := fun z => Int.fmod_lt_of_pos z hm0
    have keep : ∀ {H1 : Hp} {o : HO}, (∀ b, b ≠ a → H1 b = H b) → ∀ b, b ≠ a → (upd H1 a o) b = H b := fun {H1 o} k b n => by
      rw [upd_ne n]
      exact k b n
    refine ⟨_, pss_cons (ps_if (pt_cmpR op_gt (pe_ix ix_list (pv 0) pe_int (fun _ _ => rfl)) pe_int (nomark _))
          (pss_cons (ps_set (i := 2) scTaken.nd rfl (.inl rfl) (pe_op op_modN (pe_callTy call_int1 (by rfl) B.int (by decide +kernel) (pa_cons (pe_ix ix_list (pv 0) pe_int (fun _ _ => rfl)) pa_nil)) (pv 1)))
          (pss_cons (ps_asg (pe_op op_fdivN (pe_ix ix_list (pv 0) pe_int (fun _ _ => rfl)) (pv 1)) (pg_sub (pv 0) pe_int set_list))
          (pss_one (ps_ret (pv 2))))) pss_nil)
      (pss_cons (ps_asg (pe_op op_add (pe_ix ix_list (pv 0) pe_int (fun _ _ => rfl)) pe_int) (pg_sub (pv 0) pe_int set_list))
      (pss_cons (ps_if (pt_cmpR op_gt (pe_ix ix_list (pv 0) pe_int (fun _ _ => rfl)) (pe_callB call_len_seq (by rfl) B.len PySem.boot_len (pa_cons (pe_ix ix_list (pv 0) pe_int (fun _ _ => rfl)) pa_nil)) (nomark _))
          (pss_cons (ps_asg (pe_op op_modN (pe_callTy call_int1 (by rfl) B.int (by decide +kernel) (pa_cons (pe_op op_add (pe_op op_mul (pe_ix ix_list (pv 0) pe_int (fun _ _ => rfl)) pe_int) pe_int) pa_nil)) pe_int) (pg_sub (pv 0) pe_int set_list))
          (pss_one (ps_ret (pe_op op_modN (pe_callTy call_int1 (by rfl) B.int (by decide +kernel) (pa_cons (pe_op op_fdivN (pe_ix ix_list (pv 0) pe_int (fun _ _ => rfl)) pe_int) pa_nil)) (pv 1))))) pss_nil)
      (pss_cons (ps_set (i := 3) scTaken.nd rfl (.inl rfl) (pe_ix ix_list (pe_ix ix_list (pv 0) pe_int (fun _ _ => rfl)) (pe_op op_sub (pe_ix ix_list (pv 0) pe_int (fun _ _ => rfl)) pe_int) (fun _ _ => rfl)))
      (pss_cons (ps_asg (pe_op op_modN (pe_callTy call_int1 (by rfl) B.int (by decide +kernel) (pa_cons (pe_op op_add (pe_op op_add (pe_op op_mul (pe_ix ix_list (pv 0) pe_int (fun _ _ => rfl)) pe_int) (pv 3)) pe_int) pa_nil)) pe_int) (pg_sub (pv 0) pe_int set_list))
      (pss_cons (ps_if (pt_cmpR op_ge (pv 3) (pe_op op_pow pe_int pe_int) (nomark _))
          (pss_one (ps_asg (pe_op op_fdivN (pv 3) (pv 1)) (pg_sub (pv 0) pe_int set_list))) pss_nil)
      (pss_one (ps_ret (pe_op op_modN (pe_callTy call_int1 (by rfl) B.int (by decide +kernel) (pa_cons (pv 3) pa_nil)) (pv 1))))))))), ?_⟩
    have sq : ∀ {H1 : Hp}, H1 a = some (.lst [.ref sc, .int i, .int x, .int r]) → SqL K H1 a [.ref sc, .int i, .int x, .int r] := fun h => .inl (.inl h)
    refine ⟨.ref a, rfl, a, _, 3, .int r, rfl, rfl, sq ha, rfl, r, 0, rfl, rfl, _, rfl, ite2 (fun h => ?_) (fun h => ?_)⟩
    · -- a great cell's rest
      refine ⟨.ref a, rfl, a, _, 3, .int r, rfl, rfl, sq ha, rfl, .inl ⟨r, rfl, _, rfl, r, m, rfl, rfl, by omega, ?_⟩⟩
      refine ⟨.ref a, rfl, a, _, 3, .int r, rfl, rfl, sq ha, rfl, _, rfl, r, m, rfl, rfl, hm, ?_⟩
      refine ⟨.ref a, rfl, a, _, 3, 3, rfl, rfl, ha, rfl, ?_⟩
      exact ⟨_, rfl, q _ _ (lo r) (hi' r) But.set ⟨sc, ns, i, x, _, upd_same, row_seq ha hs, hi, hx0, hx1⟩ (keep fun _ _ => rfl)⟩
    · -- the next cell
      refine ⟨.ref a, rfl, a, _, 1, .int i, rfl, rfl, sq ha, rfl, i, 1, rfl, rfl, ?_⟩
      refine ⟨.ref a, rfl, a, _, 1, 1, rfl, rfl, ha, rfl, ?_⟩
      show _
      have ha1 : (upd H a (.lst [.ref sc, .int (i + 1), .int x, .int r])) a = some (.lst [.ref sc, .int (i + 1), .int x, .int r]) := upd_same
      have hs1 : SqF K (upd H a (.lst [.ref sc, .int (i + 1), .int x, .int r])) sc (ns.map V.int) := row_seq ha hs
      have k1 : ∀ b, b ≠ a → (upd H a (.lst [.ref sc, .int (i + 1), .int x, .int r])) b = H b := keep fun _ _ => rfl
      have b1 : But a H (upd H a (.lst [.ref sc, .int (i + 1), .int x, .int r])) := But.set
      refine ⟨.ref a, rfl, a, [.ref sc, .int (i + 1), .int x, .int r], 1, .int (i + 1), rfl, rfl, .inl (.inl ha1), rfl, .ref a, rfl, a, [.ref sc, .int (i + 1), .int x, .int r], 0, .ref sc, rfl, rfl, .inl (.inl ha1), rfl, sc, ns.map V.int, rfl, .inl hs1.sq, _, _, rfl, rfl, _, rfl, ite2 (fun h => ?_) (fun h => ?_)⟩
      · refine ⟨.ref a, rfl, a, [.ref sc, .int (i + 1), .int x, .int r], 2, .int x, rfl, rfl, .inl (.inl ha1), rfl, x, 48271, rfl, rfl, .inr ⟨by decide, by decide⟩, _, 11, rfl, rfl, .inl ⟨_, rfl, _, 2147483647, rfl, rfl, by show (2147483647 : Int) ≠ 0; decide, ?_⟩⟩
        refine ⟨.ref a, rfl, a, _, 2, 2, rfl, rfl, ha1, rfl, ?_⟩
        have y0 : 0 ≤ ((x * 48271 + 11).fmod 2147483647) := Int.fmod_nonneg_of_pos _ (by decide)
        have y1 : ((x * 48271 + 11).fmod 2147483647) < 2147483647 := Int.fmod_lt_of_pos _ (by decide)
        have ha2 : (upd (upd H a (.lst [.ref sc, .int (i + 1), .int x, .int r])) a (.lst [.ref sc, .int (i + 1), (.int ((x * 48271 + 11).fmod 2147483647)), .int r])) a = some (.lst [.ref sc, .int (i + 1), (.int ((x * 48271 + 11).fmod 2147483647)), .int r]) := upd_same
        refine ⟨.ref a, rfl, a, [.ref sc, .int (i + 1), (.int ((x * 48271 + 11).fmod 2147483647)), .int r], 2, (.int ((x * 48271 + 11).fmod 2147483647)), rfl, rfl, .inl (.inl ha2), rfl, (x * 48271 + 11).fmod 2147483647, 7, rfl, rfl, ⟨by decide, by decide⟩, .inl ⟨_, rfl, _, rfl, _, m, rfl, rfl, by omega, ?_⟩⟩
        exact q _ _ (lo _) (hi' _) (b1.trans But.set) ⟨sc, ns, i + 1, (x * 48271 + 11).fmod 2147483647, r, ha2, row_seq ha1 hs1, by omega, y0, y1⟩ (keep k1)
      · have hlt : i < ns.length := by
          have h' : ¬ decide ((ns.map V.int).length < i + 1) = true := h
          rw [decide_eq_true_iff, List.length_map] at h'
          omega
        obtain ⟨j, rfl⟩ : ∃ j : Nat, i = (j : Int) := ⟨i.toNat, by omega⟩
        have hj : j < ns.length := by omega
        have hc : (ns.map V.int)[j]? = some (.int ns[j]) := by
          rw [List.getElem?_map, List.getElem?_eq_getElem hj]
          rfl
        generalize ns[j] = c at hc
        have hat : atI (ns.map V.int) ((j : Int) + 1 - 1) = some (.int c) := by
          rw [show (j : Int) + 1 - 1 = (j : Int) by omega]
          exact atI_nat hc
        refine ⟨.ref a, rfl, a, [.ref sc, .int ((j : Int) + 1), .int x, .int r], 0, .ref sc, rfl, rfl, .inl (.inl ha1), rfl, .ref a, rfl, a, [.ref sc, .int ((j : Int) + 1), .int x, .int r], 1, .int ((j : Int) + 1), rfl, rfl, .inl (.inl ha1), rfl, _, 1, rfl, rfl, sc, ns.map V.int, _, .int c, rfl, rfl, hs1.sq, hat, ?_⟩
        refine ⟨.ref a, rfl, a, [.ref sc, .int ((j : Int) + 1), .int x, .int r], 2, .int x, rfl, rfl, .inl (.inl ha1), rfl, x, 48271, rfl, rfl, .inr ⟨by decide, by decide⟩, .int c, rfl, _, c, rfl, rfl, _, 11, rfl, rfl, .inl ⟨_, rfl, _, 2147483647, rfl, rfl, by show (2147483647 : Int) ≠ 0; decide, ?_⟩⟩
        refine ⟨.ref a, rfl, a, _, 2, 2, rfl, rfl, ha1, rfl, ?_⟩
        have y0 : 0 ≤ ((x * 48271 + c + 11).fmod 2147483647) := Int.fmod_nonneg_of_pos _ (by decide)
        have y1 : ((x * 48271 + c + 11).fmod 2147483647) < 2147483647 := Int.fmod_lt_of_pos _ (by decide)
        have ha2 : (upd (upd H a (.lst [.ref sc, .int ((j : Int) + 1), .int x, .int r])) a (.lst [.ref sc, .int ((j : Int) + 1), (.int ((x * 48271 + c + 11).fmod 2147483647)), .int r])) a = some (.lst [.ref sc, .int ((j : Int) + 1), (.int ((x * 48271 + c + 11).fmod 2147483647)), .int r]) := upd_same
        have hs2 := row_seq (o := .lst [.ref sc, .int ((j : Int) + 1), (.int ((x * 48271 + c + 11).fmod 2147483647)), .int r]) ha1 hs1
        refine ⟨.int c, rfl, 10, 18, rfl, rfl, ⟨by decide, by decide, by decide⟩, c, _, rfl, rfl, _, rfl, ite2 (fun h => ?_) (fun h => ?_)⟩
        · refine ⟨.int c, rfl, _, rfl, c, m, rfl, rfl, hm, ?_⟩
          refine ⟨.ref a, rfl, a, _, 3, 3, rfl, rfl, ha2, rfl, ?_⟩
          refine ⟨.int c, rfl, .inl ⟨c, rfl, _, rfl, c, m, rfl, rfl, by omega, ?_⟩⟩
          exact q _ _ (lo _) (hi' _) ((b1.trans But.set).trans But.set) ⟨sc, ns, (j : Int) + 1, (x * 48271 + c + 11).fmod 2147483647, _, upd_same, row_seq ha2 hs2, by omega, y0, y1⟩ (keep (keep k1))
        · refine ⟨.int c, rfl, .inl ⟨c, rfl, _, rfl, c, m, rfl, rfl, by omega, ?_⟩⟩
          exact q _ _ (lo _) (hi' _) (b1.trans But.set) ⟨sc, ns, (j : Int) + 1, (x * 48271 + c + 11).fmod 2147483647, r, ha2, hs2, by omega, y0, y1⟩ (keep k1)
end
end Sb

/-! SbL -/
namespace Sb
open PySem PySem.Spec PyProof.Rows L2 SB
theorem map_erase {α β : Type} (f : α → β) : ∀ (l : List α) (k : Nat), (l.map f).eraseIdx k = (l.eraseIdx k).map f
  | [], _ => rfl
  | _ :: _, 0 => rfl
  | x :: l, k + 1 => by
    show f x :: (l.map f).eraseIdx k = f x :: (l.eraseIdx k).map f
    rw [map_erase f l k]
theorem erase_perm {α : Type} : ∀ {l : List α} {k : Nat} {x : α}, l[k]? = some x → (x :: l.eraseIdx k).Perm l
  | [], _, _, h => by simp at h
  | y :: l, 0, x, h => by
    have e : y = x := by simpa using h
    rw [e]
    exact List.Perm.refl _
  | y :: l, k + 1, x, h => by
    have ih := erase_perm (l := l) (k := k) (x := x) (by simpa using h)
    show (x :: y :: l.eraseIdx k).Perm (y :: l)
    exact (List.Perm.swap y x _).trans (ih.cons y)
theorem iv_erase (l : List Nat) (k : Nat) : (iv l).eraseIdx k = iv (l.eraseIdx k) := by
  rw [map_erase, map_erase]
section
variable {P : Program} {w : World} {K : PySem.W.Frag} {mg : Str → Option Value} {base : Heap}

/-! _law_pick -/
theorem scPick : FnScope ["_law_row", "_law_things"] ["_law_row", "_law_things"] (defScope sPick) := ⟨rfl, rfl, rfl, by decide +kernel, rfl, by decide +kernel, by decide +kernel⟩
def spPick (K : PySem.W.Frag) : Sp := fun vs H Q _ => ∃ (a t : Addr) (ts : List V), vs = [.ref a, .ref t] ∧ RowAt K H a ∧ t ≠ a ∧ H t = some (.lst ts) ∧ 0 < ts.length ∧ ts.length ≤ 1000 ∧ ∀ (v : V) (H' : Hp), v ∈ ts → But a H H' → RowAt K H' a → (∀ b, b ≠ a → H' b = H b) → Q v H'
theorem ok_pick {f : Addr} {fd : FuncData} (F : Fun K "_law_pick" "_law_pick" sPick f fd) (B : Blt mg) (C1 : Cal P w K mg base "_law_taken" 1 ["_law_row", "_law_many"] (spTaken K)) : FnOk P w K mg base CX0 2 f fd ["_law_row", "_law_things"] (spPick K) := by
  obtain ⟨f1, fd1, G1, g1, k1, b1⟩ := C1
  refine F.ok scPick (fun vs H Q E h => ?_) (fun cdv A outer s H vs Q E hr h => ?_)
  · obtain ⟨a, t, ts, rfl, _⟩ := h
    rfl
  · obtain ⟨a, t, ts, rfl, hrow, hta, ht, h0, h1, q⟩ := h
    refine ⟨_, pss_one (ps_ret (pe_ix ix_list (pv 1) (pe_call G1 hr (by rfl) g1 k1 b1 .nil pass0 (pa_cons (pv 0) (pa_cons (pe_callB call_len_seq (by rfl) B.len PySem.boot_len (pa_cons (pv 1) pa_nil)) pa_nil))) (fun _ _ => rfl))), ?_⟩
    refine ⟨.ref t, rfl, .ref a, rfl, .ref t, rfl, t, ts, rfl, .inl (.inl (.inl ht)), a, _, rfl, hrow, by omega, by omega, fun z H' z0 z1 hb hrow' hk => ?_⟩
    have ht' : H' t = some (.lst ts) := by rw [hk t hta]; exact ht
    have hz : z.toNat < ts.length := by omega
    refine ⟨t, ts, z, ts[z.toNat], rfl, rfl, .inl (.inl ht'), ?_, q _ _ (List.getElem_mem _) hb hrow' hk⟩
    exact at_of (by omega) (List.getElem?_eq_getElem hz)

/-! _law_mixed -/
theorem scMixed : FnScope ["_law_row", "_law_some", "_law_left", "_law_found", "_law_turn"] ["_law_row", "_law_some"] (defScope sMixed) := ⟨rfl, rfl, rfl, by decide +kernel, rfl, by decide +kernel, by decide +kernel⟩
def spMixed (K : PySem.W.Frag) : Sp := fun vs H Q _ => ∃ (a t : Addr) (l : List Nat), vs = [.ref a, .ref t] ∧ RowAt K H a ∧ SqL K H t (iv l) ∧ l.length ≤ 1000 ∧
  ∀ (p : Addr) (zs : List Nat) (H' : Hp), zs.Perm l → But a H H' → RowAt K H' a → H p = none → H' p = some (.lst (iv zs)) → Q (.ref p) H'
theorem ok_mixed {f : Addr} {fd : FuncData} (F : Fun K "_law_mixed" "_law_mixed" sMixed f fd) (B : Blt mg) (C1 : Cal P w K mg base "_law_taken" 1 ["_law_row", "_law_many"] (spTaken K)) : FnOk P w K mg base CX0 2 f fd ["_law_row", "_law_some"] (spMixed K) := by
  obtain ⟨f1, fd1, G1, g1, k1, b1⟩ := C1
  refine F.ok scMixed (fun vs H Q E h => ?_) (fun cdv A outer s H vs Q E hr h => ?_)
  · obtain ⟨a, t, l, rfl, _⟩ := h
    rfl
  · obtain ⟨a, t, l, rfl, hrow, ht, hlen, q⟩ := h
    refine ⟨_, pss_cons (ps_par (i := 2) (j := 3) (by rfl) scMixed.nd rfl rfl (by decide) rfl rfl
        (pa_cons (pe_callTy call_list_of (by rfl) B.list (by decide +kernel) (pa_cons (pv 1) pa_nil)) (pa_cons (pe_lst pa_nil) pa_nil)) (by rfl))
      (pss_cons (ps_for PassesOwn.never rfl (pi_range1 (by rfl) B.range (pa_cons (pe_callB call_len_seq (by rfl) B.len PySem.boot_len (pa_cons (pv 2) pa_nil)) pa_nil)) (pg_name (i := 4) scMixed.nd rfl (.inl rfl))
        (pss_one (ps_expr (pe_bm PySem.F.plainAttrs_list PySem.F.slot_list_append PySem.F.type_list_append mt_append (pv 3) (pa_cons
          (pe_bm PySem.F.plainAttrs_list PySem.F.slot_list_pop PySem.F.type_list_pop mt_popAt (pv 2) (pa_cons
            (pe_call G1 hr (by rfl) g1 k1 b1 .nil pass0 (pa_cons (pv 0) (pa_cons (pe_callB call_len_seq (by rfl) B.len PySem.boot_len (pa_cons (pv 2) pa_nil)) pa_nil))) pa_nil)) pa_nil)))))
      (pss_one (ps_ret (pv 3)))), ?_⟩
    refine ⟨.ref t, rfl, t, iv l, rfl, .inl ht, fun c nc => ?_⟩
    refine ⟨by decide, fun d nd => ?_⟩
    have s1 : Same H (upd H c (.lst (iv l))) := sameU nc
    have nd0 : H d = none := s1.free nd
    have hcd : c ≠ d := fun z => by
      rw [← z, upd_same] at nd
      cases nd
    obtain ⟨rl, hrl⟩ := hrow.lst
    have hca : c ≠ a := fun z => by
      rw [z, hrl] at nc
      cases nc
    have hda : d ≠ a := fun z => by
      rw [z, hrl] at nd0
      cases nd0
    have s2 : Same H (upd (upd H c (.lst (iv l))) d (.lst [])) := s1.trans (sameU nd)
    have ec : (upd (upd H c (.lst (iv l))) d (.lst [])) c = some (.lst (iv l)) := by rw [upd_ne hcd, upd_same]
    have ed : (upd (upd H c (.lst (iv l))) d (.lst [])) d = some (.lst []) := upd_same
    generalize upd (upd H c (.lst (iv l))) d (.lst []) = H1 at s2 ec ed
    refine ⟨_, _, rfl, .ref c, rfl, c, iv l, rfl, .inl (.inl (.inl ec)), (l.length : Int), ?_, by omega, by omega, ?_⟩
    · rw [iv_len]
    rw [Int.toNat_natCast]
    refine for_it walk_range0 (fun k σ H2 => ∃ y4 L Z, σ = [some (.ref a), some (.ref t), some (.ref c), some (.ref d), y4] ∧ But a H H2 ∧ RowAt K H2 a ∧ H2 c = some (.lst (iv L)) ∧ H2 d = some (.lst (iv Z)) ∧ (Z ++ L).Perm l ∧ L.length + k = l.length)
      ⟨_, l, [], rfl, But.of s2, hrow.same s2, ec, ed, List.Perm.refl _, rfl⟩ (fun _ _ _ _ _ => True.intro) (fun k x σ H2 H3 hk p y => ?_) (fun σ H2 p => ?_)
    · obtain ⟨y4, L, Z, rfl, p1, p2, p3, p4, p5, p6⟩ := p
      obtain ⟨rfl, rfl⟩ := y
      refine ⟨.ref d, rfl, .inl ⟨rfl, _, .inl (.inl p4)⟩, .ref c, rfl, .inl ⟨rfl, _, .inl (.inl p3)⟩, .ref a, rfl, .ref c, rfl, c, iv L, rfl, .inl (.inl (.inl p3)), a, _, rfl, p2, ?_, ?_, fun z H4 z0 z1 hb hrow' hkp => ?_⟩
      · rw [iv_len]
        omega
      · rw [iv_len]
        omega
      rw [iv_len] at z1
      have hz : z.toNat < L.length := by omega
      have ec4 : H4 c = some (.lst (iv L)) := by rw [hkp c hca]; exact p3
      have ed4 : H4 d = some (.lst (iv Z)) := by rw [hkp d hda]; exact p4
      have hLz : L[z.toNat]? = some L[z.toNat] := List.getElem?_eq_getElem hz
      have hperm := erase_perm hLz
      have hel : (L.eraseIdx z.toNat).length + 1 = L.length := by
        have := hperm.length_eq
        rw [List.length_cons] at this
        exact this
      generalize L[z.toNat] = n at hLz hperm
      refine ⟨c, iv L, z, z.toNat, .int (n : Int), rfl, rfl, ec4, by omega, by omega, ?_, iv_at hLz, ?_⟩
      · rw [iv_len]
        exact PySem.seqIndex_of z0 z1
      have ec5 : (upd H4 c (.lst ((iv L).eraseIdx z.toNat))) c = some (.lst (iv (L.eraseIdx z.toNat))) := by rw [upd_same, iv_erase]
      have ed5 : (upd H4 c (.lst ((iv L).eraseIdx z.toNat))) d = some (.lst (iv Z)) := by rw [upd_ne hcd.symm]; exact ed4
      have r5 : RowAt K (upd H4 c (.lst ((iv L).eraseIdx z.toNat))) a := hrow'.upd hca ec4
      have b5 : But a H (upd H4 c (.lst ((iv L).eraseIdx z.toNat))) := (p1.trans hb).put nc
      generalize upd H4 c (.lst ((iv L).eraseIdx z.toNat)) = H5 at ec5 ed5 r5 b5
      refine ⟨d, iv Z, _, rfl, rfl, ed5, ?_, ?_⟩
      · rw [iv_len]
        have := p5.length_eq
        rw [List.length_append] at this
        exact small1000 (by omega)
      · refine ⟨_, L.eraseIdx z.toNat, Z ++ [n], rfl, b5.put nd0, r5.upd hda ed5, ?_, ?_, ?_, by omega⟩
        · rw [upd_ne hcd]
          exact ec5
        · rw [upd_same, iv_append]
          rfl
        · rw [List.append_assoc]
          exact ((hperm.append_left Z)).trans p5
    · obtain ⟨y4, L, Z, rfl, p1, p2, p3, p4, p5, p6⟩ := p
      have eL : L = [] := List.eq_nil_of_length_eq_zero (by omega)
      subst eL
      rw [List.append_nil] at p5
      exact ⟨.ref d, rfl, q d Z H2 p5 p1 p2 nd0 p4⟩
end
end Sb

/-! SbM -/
namespace Sb
open PySem PySem.Spec PyProof.Rows L2 SB
/-- sorted numbers, whatever arrangement they come from -/
theorem srtN_of {ys l : List Nat} (h : ys.Perm l) (a : ys.Pairwise (· ≤ ·)) : ys = srtN l := asc_unique (h.trans (srtN_perm l).symm) a (srtN_le l)
def nameB (ns : List Nat) (b : Bag) : Bag := srtN (b.map fun x => ns.getD x 0)
theorem nameB_len (ns : List Nat) (b : Bag) : (nameB ns b).length = b.length := by
  unfold nameB
  rw [(srtN_perm _).length_eq, List.length_map]
/-- what stands at other places than a changed list -/
theorem isB_upd {K : PySem.W.Frag} {H : Hp} {p : Addr} {l : List V} {o : HO} (hp : H p = some (.lst l)) {v : V} {b : Bag} (h : IsB K H v b) : IsB K (upd H p o) v b := by
  obtain ⟨c, e, h⟩ := h
  refine ⟨c, e, ?_⟩
  rcases h with (h | ⟨u, h⟩) | h
  · refine .inl (.inl ?_)
    rw [upd_ne (ne_of h hp (by intro z; cases z))]
    exact h
  · refine .inl (.inr ⟨u, ?_⟩)
    rw [upd_ne (ne_of h hp (by intro z; cases z))]
    exact h
  · exact .inr h
section
variable {P : Program} {w : World} {K : PySem.W.Frag} {mg : Str → Option Value} {base : Heap}

/-! _law_named -/
theorem scNamed : FnScope ["_law_bags", "_law_names", "_law_bag", "_law_bead"] ["_law_bags", "_law_names"] (defScope sNamed) := ⟨rfl, rfl, rfl, by decide +kernel, rfl, by decide +kernel, by decide +kernel⟩
/-- a list of lists of numbers -/
def IsG (H : Hp) (g : Addr) (rs : List Addr) (G : List Bag) : Prop := H g = some (.lst (rs.map V.ref)) ∧ Paired (fun r b => H r = some (.lst (iv b))) rs G
theorem IsG.same {H H' : Hp} {g : Addr} {rs : List Addr} {G : List Bag} (h : IsG H g rs G) (s : Same H H') : IsG H' g rs G := ⟨s _ _ h.1, pr_imp (fun _ _ h => s _ _ h) h.2⟩
def spNamed (K : PySem.W.Frag) : Sp := fun vs H Q _ => ∃ (g m : Addr) (rs : List Addr) (G : List Bag) (ns : List Nat), vs = [.ref g, .ref m] ∧ IsG H g rs G ∧ H m = some (.lst (iv ns)) ∧ G.length ≤ 900 ∧ (∀ b ∈ G, 0 < b.length ∧ b.length < 60 ∧ ∀ x ∈ b, x < ns.length) ∧
  ∀ (u : V) (H' : Hp), Same H H' → IsF K H' u (srtB (G.map (nameB ns))) → Q u H'
theorem ok_named {f : Addr} {fd : FuncData} (F : Fun K "_law_named" "_law_named" sNamed f fd) (B : Blt mg) : FnOk P w K mg base CX0 1 f fd ["_law_bags", "_law_names"] (spNamed K) := by
  refine F.ok scNamed (fun vs H Q E h => ?_) (fun cdv A outer s H vs Q E hr h => ?_)
  · obtain ⟨g, m, rs, G, ns, rfl, _⟩ := h
    rfl
  · obtain ⟨g, m, rs, G, ns, rfl, hG, hm, hlen, hb, q⟩ := h
    refine ⟨_, pss_one (ps_ret (pe_callTy call_tuple_of (by rfl) B.tuple (by decide +kernel) (pa_cons (pe_callB (cr_sortD dB hr.units alike_dB (fun b => by rw [dep_dB]; decide)) (by rfl) B.sorted (by decide +kernel) (pa_cons
      (pe_lc (own := [("_law_bag", 2)]) (g := gName 2) (tt := tYes) rfl scNamed.nd (pi_list (pv 0))
        (blkOk_by (N := ["_law_bags", "_law_names", "_law_bag", "_law_bead"]) (sc := defScope sNamed) (by decide +kernel))
        (fun _ _ _ _ _ => pg_name (i := 2) scNamed.nd rfl (.inl rfl) (.inr rfl)) (fun _ _ _ _ _ => pts_nil)
        (fun _ _ _ _ _ => pe_callTy (call_tupK (K := K) rfl) (by rfl) B.tuple (by decide +kernel) (pa_cons (pe_callB (cr_sortedK (K := K) rfl) (by rfl) B.sorted (by decide +kernel) (pa_cons
          (pe_lc (own := [("_law_bead", 3)]) (g := gName 3) (tt := tYes) rfl scNamed.nd (pi_listK (K := K) rfl (pv 2))
            (blkOk_by (by rfl))
            (fun _ _ _ _ _ => pg_name (i := 3) scNamed.nd rfl (.inl rfl) (.inr rfl)) (fun _ _ _ _ _ => pts_nil)
            (fun _ _ _ _ _ => pe_ix (ix_listK (K := K) rfl) (pv 1) (pv 3) (fun _ _ => rfl))) pa_nil)) pa_nil))) pa_nil)) pa_nil))), ?_⟩
    have hrl : rs.length = G.length := pr_len hG.2
    refine ⟨.ref g, rfl, g, rfl, ⟨_, .inl (.inl hG.1)⟩, fun D nD => ?_⟩
    have s1 : Same H (upd H D (.lst [])) := sameU nD
    refine lc_it (walk_list (xs := rs.map V.ref)) (fun i H' => Same H H' ∧ ∃ vs, H' D = some (.lst vs) ∧ Paired (IsB K H') vs ((G.take i).map (nameB ns))) ⟨s1, [], upd_same, .nil⟩ (fun i H' _ p => .inl (.inl (p.1 _ _ hG.1))) (fun i x H3 H4 hi p y => ?_) (fun H' p => ?_)
    · obtain ⟨p1, vs, p2, p3⟩ := p
      obtain ⟨rfl, hx⟩ := y
      rw [List.getElem?_map] at hx
      obtain ⟨r, hr1, rfl⟩ : ∃ r, rs[i]? = some r ∧ x = .ref r := by
        cases e : rs[i]? with
        | none =>
          rw [e] at hx
          cases hx
        | some r =>
          rw [e] at hx
          exact ⟨r, rfl, (Option.some.inj hx).symm⟩
      obtain ⟨b, hbi, hrb⟩ := pr_get hG.2 hr1
      have hbm := List.mem_of_getElem? hbi
      obtain ⟨hb0, hb60, hbx⟩ := hb b hbm
      dsimp only [tYes]
      refine ⟨rfl, ?_⟩
      rw [if_pos rfl]
      refine ⟨_, rfl, r, rfl, ⟨_, .inl (.inl (p1 _ _ hrb))⟩, fun L nL => ?_⟩
      refine lc_it (walk_list (xs := iv b)) (fun j H' => Same H4 H' ∧ H' L = some (.lst (iv ((b.take j).map fun x => ns.getD x 0)))) ⟨sameU nL, upd_same⟩ (fun j H' _ p => .inl (.inl (p.1 _ _ (p1 _ _ hrb)))) (fun j x H5 H6 hj p y => ?_) (fun H' p => ?_)
      · obtain ⟨l1, l2⟩ := p
        obtain ⟨rfl, hx⟩ := y
        obtain ⟨n, hn, rfl⟩ := iv_get hx
        have hnl := hbx n (List.mem_of_getElem? hn)
        dsimp only [tYes]
        refine ⟨rfl, ?_⟩
        rw [if_pos rfl]
        refine ⟨_, rfl, _, rfl, m, iv ns, (n : Int), .int ((ns.getD n 0 : Nat) : Int), rfl, rfl, .inl (.inl (l1 _ _ (p1 _ _ hm))), atI_nat (iv_at ?_), _, l2, ?_, sameU2 l1 nL, ?_⟩
        · rw [List.getD_eq_getElem?_getD, List.getElem?_eq_getElem hnl]
          rfl
        · rw [iv_len, List.length_map, List.length_take]
          exact small1000 (by omega)
        · rw [upd_same, List.take_add_one, hn]
          simp [iv]
      · obtain ⟨l1, l2⟩ := p
        rw [iv_len, List.take_length] at l2
        refine ⟨L, (b.map fun x => ns.getD x 0).map Int.ofNat, rfl, .inl (.inl l2), ?_, fun ys p0 pm asc np0 => ?_⟩
        · rw [List.length_map, List.length_map]
          omega
        obtain ⟨zs, rfl, pz⟩ := nat_list pm
        have ez : zs = nameB ns b := srtN_of pz (asc_nat asc)
        subst ez
        refine ⟨p0, _, rfl, .inl ⟨.inl (.inl upd_same), fun t nt => ?_⟩⟩
        have s5 : Same H4 (upd (upd H' p0 (.lst (iv (nameB ns b)))) t (.tup (iv (nameB ns b)))) := (l1.trans (sameU np0)).trans (sameU nt)
        have e5 := s5 _ _ p2
        have e6 : (upd (upd H' p0 (.lst (iv (nameB ns b)))) t (.tup (iv (nameB ns b)))) t = some (.tup (iv (nameB ns b))) := upd_same
        show ∃ acc, (upd (upd H' p0 (.lst (iv (nameB ns b)))) t (.tup (iv (nameB ns b)))) D = some (.lst acc) ∧ _
        generalize upd (upd H' p0 (.lst (iv (nameB ns b)))) t (.tup (iv (nameB ns b))) = H7 at s5 e5 e6
        refine ⟨vs, e5, ?_, sameU2 (p1.trans s5) nD, vs ++ [.ref t], upd_same, ?_⟩
        · rw [pr_len p3, List.length_map, List.length_take]
          exact small1000 (by omega)
        · rw [List.take_add_one, hbi, List.map_append]
          refine pr_app (pr_imp (fun _ _ h => isB_upd e5 (h.same s5)) p3) (.cons (isB_upd e5 ⟨t, rfl, .inl (.inl e6)⟩) .nil)
    · obtain ⟨p1, vs, p2, p3⟩ := p
      rw [List.length_map, List.take_of_length_le (by omega)] at p3
      dsimp only [tNil]
      refine rSD_any (R := IsB K) (.inl (.inl p2)) p3 (fun _ _ h => h.dp) (fun c hc => ?_) fun l vs' hv nl => ?_
      · obtain ⟨b, hbm, rfl⟩ := List.mem_map.mp hc
        refine ne_dB ?_
        rw [nameB_len]
        exact (hb b hbm).1
      · rw [srtB_leD] at hv
        refine ⟨l, vs', rfl, .inl ⟨.inl (.inl upd_same), fun t nt => ?_⟩⟩
        have s3 := sameU (o := .lst vs') nl
        have s4 := s3.trans (sameU (o := .tup vs') nt)
        exact q _ _ (p1.trans s4) ⟨t, vs', rfl, .inl (.inl upd_same), pB_same hv s4⟩
end
end Sb

/-! SbN -/
namespace Sb
open PySem PySem.Spec PyProof.Rows L2 SB
theorem pr_set {α β : Type} {R : α → β → Prop} : ∀ {l : List α} {r : List β} {i : Nat} {x : α} {y : β}, Paired R l r → l[i]? = some x → R x y → Paired R l (r.set i y)
  | _, _, _, _, _, .nil, h, _ => by simp at h
  | _, _, 0, x, _, .cons a t, h, q => by
    have e : _ = x := Option.some.inj h
    subst e
    exact .cons q t
  | _, _, i + 1, _, _, .cons a t, h, q => .cons a (pr_set t (by simpa using h) q)
/-- the bags as they are drawn, new against H0 -/
structure Gro (H0 H : Hp) (a g : Addr) (rs : List Addr) (G : List Bag) : Prop where
  but : But a H0 H
  isg : IsG H g rs G
  nd : rs.Nodup
  ng : g ∉ rs
  new : H0 g = none ∧ ∀ r ∈ rs, H0 r = none
  na : g ≠ a ∧ a ∉ rs
theorem Gro.len {H0 H : Hp} {a g : Addr} {rs : List Addr} {G : List Bag} (h : Gro H0 H a g rs G) : rs.length = G.length := pr_len h.isg.2
theorem Gro.row {H0 H H' : Hp} {a g : Addr} {rs : List Addr} {G : List Bag} (h : Gro H0 H a g rs G) (hb : But a H H') (k : ∀ b, b ≠ a → H' b = H b) : Gro H0 H' a g rs G :=
  ⟨h.but.trans hb, ⟨by rw [k g h.na.1]; exact h.isg.1, by
    refine pr_imp_mem h.isg.2 fun r hr b e => ?_
    rw [k r fun z => h.na.2 (by rw [← z]; exact hr)]
    exact e⟩, h.nd, h.ng, h.new, h.na⟩
where
  pr_imp_mem {α β : Type} {R S : α → β → Prop} : ∀ {l : List α} {r : List β}, Paired R l r → (∀ a ∈ l, ∀ b, R a b → S a b) → Paired S l r
    | _, _, .nil, _ => .nil
    | _, _, .cons h t, k => .cons (k _ (List.mem_cons_self ..) _ h) (pr_imp_mem t fun a ha b h => k a (List.mem_cons_of_mem _ ha) b h)
theorem Gro.same {H0 H H' : Hp} {a g : Addr} {rs : List Addr} {G : List Bag} (h : Gro H0 H a g rs G) (s : Same H H') : Gro H0 H' a g rs G :=
  ⟨h.but.trans (But.of s), h.isg.same s, h.nd, h.ng, h.new, h.na⟩
/-- a bead more in a bag -/
theorem Gro.app {H0 H : Hp} {a g : Addr} {rs : List Addr} {G : List Bag} (h : Gro H0 H a g rs G) {i : Nat} {r : Addr} {b : Bag} {n : Nat} (hr : rs[i]? = some r) (hb : G[i]? = some b) :
    Gro H0 (upd H r (.lst (iv b ++ [.int (n : Int)]))) a g rs (G.set i (b ++ [n])) := by
  have hm := List.mem_of_getElem? hr
  refine ⟨h.but.put (h.new.2 r hm), ⟨?_, ?_⟩, h.nd, h.ng, h.new, h.na⟩
  · rw [upd_ne fun z => h.ng (by rw [z]; exact hm)]
    exact h.isg.1
  · refine pr_at h.isg.2 h.nd hr (fun q hq hne c e => ?_) ?_
    · rw [upd_ne hne]
      exact e
    · rw [upd_same, iv_append]
      rfl
where
  pr_at {R S : Addr → Bag → Prop} : ∀ {l : List Addr} {m : List Bag} {i : Nat} {x : Addr} {y : Bag}, Paired R l m → l.Nodup → l[i]? = some x → (∀ q ∈ l, q ≠ x → ∀ c, R q c → S q c) → S x y → Paired S l (m.set i y)
    | _, _, _, _, _, .nil, _, h, _, _ => by simp at h
    | z :: l, _ :: m, 0, x, y, .cons a t, nd, h, k, q => by
      have e : z = x := Option.some.inj h
      subst e
      refine .cons q (Gro.row.pr_imp_mem t fun p hp c hc => k p (List.mem_cons_of_mem _ hp) (fun e => ?_) c hc)
      subst e
      exact (List.nodup_cons.mp nd).1 hp
    | z :: l, _ :: m, i + 1, x, y, .cons a t, nd, h, k, q => by
      have hx : l[i]? = some x := by simpa using h
      have hzx : z ≠ x := fun e => by
        subst e
        exact (List.nodup_cons.mp nd).1 (List.mem_of_getElem? hx)
      exact .cons (k z (List.mem_cons_self ..) hzx _ a) (pr_at t (List.nodup_cons.mp nd).2 hx (fun p hp => k p (List.mem_cons_of_mem _ hp)) q)
/-- a bag more -/
theorem Gro.more {H0 H : Hp} {a g r : Addr} {rs : List Addr} {G : List Bag} {b : Bag} (h : Gro H0 H a g rs G) (hra : r ≠ a) (nr : H r = none) :
    Gro H0 (upd (upd H r (.lst (iv b))) g (.lst (rs.map V.ref ++ [.ref r]))) a g (rs ++ [r]) (G ++ [b]) := by
  have hgr : g ≠ r := fun z => by
    rw [← z, h.isg.1] at nr
    cases nr
  have nr0 : H0 r = none := h.but.free hra nr
  have hrs : ∀ q ∈ rs, q ≠ r ∧ q ≠ g := fun q hq => by
    refine ⟨fun z => ?_, fun z => h.ng (by rw [← z]; exact hq)⟩
    subst z
    obtain ⟨i, hi⟩ := List.getElem?_of_mem hq
    obtain ⟨c, _, e⟩ := pr_get h.isg.2 hi
    rw [nr] at e
    cases e
  refine ⟨(h.but.put nr0).put h.new.1, ⟨?_, ?_⟩, ?_, ?_, ⟨h.new.1, ?_⟩, ⟨h.na.1, ?_⟩⟩
  · rw [upd_same, List.map_append]
    rfl
  · refine pr_app (Gro.row.pr_imp_mem h.isg.2 fun q hq c e => ?_) (.cons ?_ .nil)
    · rw [upd_ne (hrs q hq).2, upd_ne (hrs q hq).1]
      exact e
    · rw [upd_ne hgr.symm, upd_same]
  · rw [List.nodup_append]
    refine ⟨h.nd, by simp, fun q hq c hc e => ?_⟩
    rw [List.mem_singleton.mp hc] at e
    exact (hrs q hq).1 e
  · rw [List.mem_append, List.mem_singleton]
    rintro (z | z)
    · exact h.ng z
    · exact hgr z
  · intro q hq
    rcases List.mem_append.mp hq with z | z
    · exact h.new.2 q z
    · rw [List.mem_singleton.mp z]
      exact nr0
  · rw [List.mem_append, List.mem_singleton]
    rintro (z | z)
    · exact h.na.2 z
    · exact hra z.symm

section
variable {P : Program} {w : World} {K : PySem.W.Frag} {mg : Str → Option Value} {base : Heap}

/-! _law_family -/
theorem scFamily : FnScope ["_law_row", "_law_most", "_law_size", "_law_often", "_law_bags", "_law_bead"] ["_law_row", "_law_most"] (defScope sFamily) := ⟨rfl, rfl, rfl, by decide +kernel, rfl, by decide +kernel, by decide +kernel⟩
def spFamily (K : PySem.W.Frag) : Sp := fun vs H Q _ => ∃ (a : Addr) (m : Nat), vs = [.ref a, .int (m : Int)] ∧ RowAt K H a ∧ 2 ≤ m ∧ m ≤ 14 ∧
  ∀ (u : V) (n : Nat) (F : List Bag) (H' : Hp), Fam n F → But a H H' → RowAt K H' a → IsF K H' u F → Q u H'
theorem ok_family {f : Addr} {fd : FuncData} (F : Fun K "_law_family" "_law_family" sFamily f fd) (B : Blt mg) (C1 : Cal P w K mg base "_law_taken" 1 ["_law_row", "_law_many"] (spTaken K)) (C2 : Cal P w K mg base "_law_pick" 2 ["_law_row", "_law_things"] (spPick K))
    (C3 : Cal P w K mg base "_law_named" 1 ["_law_bags", "_law_names"] (spNamed K)) (C4 : Cal P w K mg base "_law_mixed" 2 ["_law_row", "_law_some"] (spMixed K)) : FnOk P w K mg base CX0 3 f fd ["_law_row", "_law_most"] (spFamily K) := by
  obtain ⟨f1, fd1, G1, g1, k1, b1⟩ := C1
  obtain ⟨f2, fd2, G2, g2, k2, b2⟩ := C2
  obtain ⟨f3, fd3, G3, g3, k3, b3⟩ := C3
  obtain ⟨f4, fd4, G4, g4, k4, b4⟩ := C4
  refine F.ok scFamily (fun vs H Q E h => ?_) (fun cdv A outer s H vs Q E hr h => ?_)
  · obtain ⟨a, m, rfl, _⟩ := h
    rfl
  · obtain ⟨a, m, rfl, hrow, hm2, hm14, q⟩ := h
    refine ⟨_, pss_cons (ps_par (i := 2) (j := 3) (by rfl) scFamily.nd rfl rfl (by decide) rfl rfl
        (pa_cons (pe_op op_add pe_int (pe_call G1 (hr.mono (by decide)) (by rfl) g1 k1 b1 .nil pass0 (pa_cons (pv 0) (pa_cons (pe_op op_sub (pv 1) pe_int) pa_nil))))
          (pa_cons (pe_call G2 hr (by rfl) g2 k2 b2 .nil pass0 (pa_cons (pv 0) (pa_cons (pe_lst (pa_cons pe_int (pa_cons pe_int (pa_cons pe_int (pa_cons pe_int (pa_cons pe_int pa_nil)))))) pa_nil))) pa_nil)) (by rfl))
      (pss_cons (ps_set (i := 4) scFamily.nd rfl (.inl rfl) (pe_lst (pa_cons (pe_lst (pa_cons pe_int (pa_cons pe_int pa_nil))) pa_nil)))
      (pss_cons (ps_for PassesOwn.never rfl (pi_range2 (by rfl) B.range (pa_cons pe_int (pa_cons (pv 2) pa_nil))) (pg_name (i := 5) scFamily.nd rfl (.inl rfl))
        (pss_one (ps_if (pt_cmpR op_eq (pe_call G1 (hr.mono (by decide)) (by rfl) g1 k1 b1 .nil pass0 (pa_cons (pv 0) (pa_cons (pv 3) pa_nil))) pe_int (nomark _))
          (pss_one (ps_expr (pe_bm PySem.F.plainAttrs_list PySem.F.slot_list_append PySem.F.type_list_append mt_append
            (pe_ix ix_list (pv 4) (pe_call G1 (hr.mono (by decide)) (by rfl) g1 k1 b1 .nil pass0 (pa_cons (pv 0) (pa_cons (pe_callB call_len_seq (by rfl) B.len PySem.boot_len (pa_cons (pv 4) pa_nil)) pa_nil))) (fun _ _ => rfl)) (pa_cons (pv 5) pa_nil))))
          (pss_one (ps_expr (pe_bm PySem.F.plainAttrs_list PySem.F.slot_list_append PySem.F.type_list_append mt_append (pv 4)
            (pa_cons (pe_lst (pa_cons (pe_call G1 (hr.mono (by decide)) (by rfl) g1 k1 b1 .nil pass0 (pa_cons (pv 0) (pa_cons (pv 5) pa_nil))) (pa_cons (pv 5) pa_nil))) pa_nil)))))))
      (pss_one (ps_ret (pe_call G3 (hr.mono (by decide)) (by rfl) g3 k3 b3 .nil pass0 (pa_cons (pv 4)
        (pa_cons (pe_call G4 hr (by rfl) g4 k4 b4 .nil pass0 (pa_cons (pv 0) (pa_cons (pe_listRg rfl (by rfl) B.list (prg_1 (by rfl) B.range (pv 2))) pa_nil))) pa_nil))))))), ?_⟩
    refine ⟨.ref a, rfl, .int (m : Int), rfl, _, 1, rfl, rfl, a, _, rfl, hrow, by omega, by omega, fun z H1 z0 z1 hb1 hrow1 _ => ?_⟩
    refine ⟨2, z, rfl, rfl, .ref a, rfl, by show 5 ≤ sizeLine; decide, fun t nt => ?_⟩
    have r2 := hrow1.same (sameU (o := .lst [.int 2, .int 3, .int 3, .int 4, .int 9]) nt)
    have hta : t ≠ a := fun e => by
      obtain ⟨l, hl⟩ := hrow1.lst
      rw [e, hl] at nt
      cases nt
    refine ⟨a, t, _, rfl, r2, hta, upd_same, by decide, by decide, fun v H2 hv hb2 hrow2 _ => ?_⟩
    obtain ⟨of, rfl, of0, of9⟩ : ∃ of : Int, v = .int of ∧ 0 < of ∧ of ≤ 9 := by
      rcases List.mem_cons.mp hv with e | hv
      · exact ⟨2, e, by decide, by decide⟩
      rcases List.mem_cons.mp hv with e | hv
      · exact ⟨3, e, by decide, by decide⟩
      rcases List.mem_cons.mp hv with e | hv
      · exact ⟨3, e, by decide, by decide⟩
      rcases List.mem_cons.mp hv with e | hv
      · exact ⟨4, e, by decide, by decide⟩
      rcases List.mem_cons.mp hv with e | hv
      · exact ⟨9, e, by decide, by decide⟩
      cases hv
    obtain ⟨k, rfl⟩ : ∃ k : Nat, z = (k : Int) := ⟨z.toNat, by omega⟩
    have hbut : But a H H2 := (hb1.trans (But.of (sameU nt))).trans hb2
    refine ⟨_, _, rfl, by show 2 ≤ sizeLine; decide, fun r nr => ⟨by show 1 ≤ sizeLine; decide, fun g ng => ?_⟩⟩
    obtain ⟨rl, hrl⟩ := hrow2.lst
    have hra : r ≠ a := fun e => by
      rw [e, hrl] at nr
      cases nr
    have s3 : Same H2 (upd H2 r (.lst [.int 0, .int 1])) := sameU nr
    have hga : g ≠ a := fun e => by
      rw [e, s3 _ _ hrl] at ng
      cases ng
    have hgr : g ≠ r := fun e => by
      rw [e, upd_same] at ng
      cases ng
    have s4 : Same H2 (upd (upd H2 r (.lst [.int 0, .int 1])) g (.lst [.ref r])) := s3.trans (sameU ng)
    have gro : Gro H (upd (upd H2 r (.lst [.int 0, .int 1])) g (.lst [.ref r])) a g [r] [[0, 1]] := by
      refine ⟨hbut.trans (But.of s4), ⟨upd_same, .cons ?_ .nil⟩, by simp, by simpa using hgr, ⟨hbut.free hga (s3.free ng), fun q hq => ?_⟩, hga, by simpa using hra.symm⟩
      · rw [upd_ne hgr.symm, upd_same]
        rfl
      · rw [List.mem_singleton.mp hq]
        exact hbut.free hra nr
    have r4 := hrow2.same s4
    generalize upd (upd H2 r (.lst [.int 0, .int 1])) g (.lst [.ref r]) = H4 at gro r4
    show _
    refine ⟨_, rfl, 2, 2 + (k : Int), rfl, by omega, ?_⟩
    have ek : (2 + (k : Int) - 2).toNat = k := by omega
    rw [ek]
    refine for_it walk_range (fun j σ H5 => ∃ y5 rs G, σ = [some (.ref a), some (.int (m : Int)), some (.int (2 + (k : Int))), some (.int of), some (.ref g), y5] ∧ Gro H H5 a g rs G ∧ RowAt K H5 a ∧ Tree (2 + j) G)
      ⟨_, [r], [[0, 1]], rfl, gro, r4, tree_start⟩ (fun _ _ _ _ _ => True.intro) (fun j x σ H5 H6 hj p y => ?_) (fun σ H5 p => ?_)
    · obtain ⟨y5, rs, G, rfl, p1, p2, p3⟩ := p
      obtain ⟨rfl, ex⟩ := y
      have ex : x = .int ((2 + j : Nat) : Int) := ex
      subst ex
      have hfew := p3.few
      have hrl := p1.len
      have hG0 : 0 < G.length := p3.some (by omega)
      refine ⟨.ref a, rfl, .int of, rfl, a, of, rfl, p2, of0, by omega, fun z H7 z0 z1 hb7 hrow7 hk7 => ?_⟩
      have p7 := p1.row hb7 hk7
      refine ⟨rfl, _, rfl, ite2 (fun hz => ?_) (fun hz => ?_)⟩
      · -- into an old bag
        refine ⟨.ref g, rfl, .ref a, rfl, .ref g, rfl, g, rs.map V.ref, rfl, .inl (.inl (.inl p7.isg.1)), a, _, rfl, hrow7, ?_, ?_, fun i H8 i0 i1 hb8 hrow8 hk8 => ?_⟩
        · rw [List.length_map]
          omega
        · rw [List.length_map]
          omega
        rw [List.length_map] at i1
        have p8 := p7.row hb8 hk8
        have hil : i.toNat < rs.length := by omega
        have hri : rs[i.toNat]? = some rs[i.toNat] := List.getElem?_eq_getElem hil
        generalize rs[i.toNat] = ri at hri
        obtain ⟨b, hbi, hrb⟩ := pr_get p8.isg.2 hri
        have hbl := p3.short (List.mem_of_getElem? hbi)
        refine ⟨g, rs.map V.ref, i, .ref ri, rfl, rfl, .inl (.inl p8.isg.1), at_of (j := i.toNat) (by omega) (by rw [List.getElem?_map, hri]; rfl), .inl ⟨rfl, _, .inl (.inl hrb)⟩, _, rfl, ri, iv b, _, rfl, rfl, hrb, ?_, ?_⟩
        · rw [iv_len]
          exact small1000 (by omega)
        · exact ⟨_, rs, _, rfl, p8.app hri hbi, hrow8.upd (fun z => p8.na.2 (by rw [← z]; exact List.mem_of_getElem? hri)) hrb, by
            have := p3.grow hbi
            rw [show 2 + (j + 1) = 2 + j + 1 by omega]
            exact this⟩
      · -- a new bag
        refine ⟨.ref g, rfl, .inl ⟨rfl, _, .inl (.inl p7.isg.1)⟩, .ref a, rfl, _, rfl, a, _, rfl, hrow7, by omega, by omega, fun i H8 i0 i1 hb8 hrow8 hk8 => ?_⟩
        have p8 := p7.row hb8 hk8
        refine ⟨_, rfl, by show 2 ≤ sizeLine; decide, fun rn nrn => ?_⟩
        obtain ⟨i', rfl⟩ : ∃ i' : Nat, i = (i' : Int) := ⟨i.toNat, by omega⟩
        obtain ⟨l8, hl8⟩ := hrow8.lst
        have hna : rn ≠ a := fun e => by
          rw [e, hl8] at nrn
          cases nrn
        have s9 : Same H8 (upd H8 rn (.lst [.int (i' : Int), .int ((2 + j : Nat) : Int)])) := sameU nrn
        refine ⟨g, rs.map V.ref, .ref rn, rfl, rfl, s9 _ _ p8.isg.1, ?_, ?_⟩
        · rw [List.length_map]
          exact small1000 (by omega)
        · refine ⟨_, rs ++ [rn], G ++ [[i', 2 + j]], rfl, p8.more (b := [i', 2 + j]) hna nrn, (hrow8.same s9).upd p8.na.1 (s9 _ _ p8.isg.1), ?_⟩
          have := p3.new (k := i') (by omega)
          rw [show 2 + (j + 1) = 2 + j + 1 by omega]
          exact this
    · obtain ⟨y5, rs, G, rfl, p1, p2, p3⟩ := p
      refine ⟨.ref g, rfl, .ref a, rfl, .int (2 + (k : Int)), rfl, 2 + (k : Int), rfl, ?_⟩
      refine ⟨⟨by omega, by omega, by omega, by omega, by omega⟩, fun l nl => ?_⟩
      have erg : rgV 0 (2 + (k : Int)) = iv (List.range (2 + k)) := by
        unfold rgV iv
        rw [show (2 + (k : Int) - 0).toNat = 2 + k by omega, List.map_map]
        refine List.map_congr_left fun i _ => ?_
        show V.int (0 + (i : Int)) = V.int (i : Int)
        rw [Int.zero_add]
      rw [erg]
      have s6 : Same H5 (upd H5 l (.lst (iv (List.range (2 + k))))) := sameU nl
      refine ⟨a, l, List.range (2 + k), rfl, p2.same s6, .inl (.inl upd_same), by rw [List.length_range]; omega, fun p zs H7 pz hb7 hrow7 np hp => ?_⟩
      have p6 := p1.same s6
      have g7 : IsG H7 g rs G := ⟨hb7 _ _ p6.na.1 p6.isg.1, Gro.row.pr_imp_mem p6.isg.2 fun q hq b e => hb7 _ _ (fun z => p6.na.2 (by rw [← z]; exact hq)) e⟩
      have hfew := p3.few
      have hzl : zs.length = 2 + k := by rw [pz.length_eq, List.length_range]
      refine ⟨g, p, rs, G, zs, rfl, g7, hp, by omega, fun b hb => ⟨?_, ?_, fun x hx => ?_⟩, fun u H8 s8 hu => ?_⟩
      · have := p3.big b hb
        omega
      · have := p3.short hb
        omega
      · have := p3.lt b hb x hx
        omega
      · exact q u (2 + k) _ H8 (Fam.of p3 (by omega) pz) ((p6.but.trans hb7).trans (But.of s8)) (hrow7.same s8) hu
end
end Sb

/-! SbO -/
namespace Sb
open PySem PySem.Spec PyProof.Rows L2 SB
/-- the same numbers in the same tuples and lists, d deep -/
def Alk (K : PySem.W.Frag) (H : Hp) : Nat → V → V → Prop
  | 0, x, y => ∃ i : Int, x = .int i ∧ y = .int i
  | d + 1, x, y => ∃ (a b : Addr) (xs ys : List V), x = .ref a ∧ y = .ref b ∧ ((SqT K H a xs ∧ SqT K H b ys) ∨ (SqL K H a xs ∧ SqL K H b ys)) ∧ xs.length = ys.length ∧ xs.length ≤ 1000 ∧ ∀ (i : Nat) (x y : V), xs[i]? = some x → ys[i]? = some y → Alk K H d x y
theorem Alk.same {K : PySem.W.Frag} {H H' : Hp} (s : Same H H') : ∀ {d : Nat} {x y : V}, Alk K H d x y → Alk K H' d x y
  | 0, _, _, h => h
  | d + 1, _, _, h => by
    obtain ⟨a, b, xs, ys, h1, h2, h3, h4, h5, h6⟩ := h
    refine ⟨a, b, xs, ys, h1, h2, ?_, h4, h5, fun i x y hx hy => (h6 i x y hx hy).same s⟩
    rcases h3 with ⟨p, q⟩ | ⟨p, q⟩
    · exact .inl ⟨seqT s p, seqT s q⟩
    · exact .inr ⟨s.seq p, s.seq q⟩
theorem any_int {K : PySem.W.Frag} : PySem.W.kitAny K (.type "int") [.type "tuple", .type "list"] = some false :=
  kitAny_cons (b := false) (kit_ty (by decide +kernel)) (fun _ => kitAny_cons (b := false) (kit_ty (by decide +kernel)) (fun _ => kitAny_nil) (fun h => nomatch h)) (fun h => nomatch h)
theorem any_tup {K : PySem.W.Frag} : PySem.W.kitAny K (.type "tuple") [.type "tuple", .type "list"] = some true :=
  kitAny_cons (b := true) (kit_ty (by decide +kernel)) (fun h => nomatch h) (fun _ => rfl)
theorem any_lst {K : PySem.W.Frag} : PySem.W.kitAny K (.type "list") [.type "tuple", .type "list"] = some true :=
  kitAny_cons (b := false) (kit_ty (by decide +kernel)) (fun _ => kitAny_cons (b := true) (kit_ty (by decide +kernel)) (fun h => nomatch h) (fun _ => rfl)) (fun h => nomatch h)
theorem cls2 : Paired ClsV [V.ty "tuple", V.ty "list"] [Value.type "tuple", Value.type "list"] := .cons (.ty _) (.cons (.ty _) .nil)
/-- a tuple or a list, its type -/
theorem seq_ty {K : PySem.W.Frag} {H : Hp} {a b : Addr} {xs ys : List V} (h : (SqT K H a xs ∧ SqT K H b ys) ∨ (SqL K H a xs ∧ SqL K H b ys)) :
    ∃ (n : String) (k : Bool), TyX K H (.ref a) (.type n) ∧ TyX K H (.ref b) (.type n) ∧ PySem.W.kitAny K (.type n) [.type "tuple", .type "list"] = some true ∧ PySem.W.kitOne K (.type n) (.type "list") = some k := by
  rcases h with ⟨p, q⟩ | ⟨p, q⟩
  · exact ⟨"tuple", false, ty_tup p, ty_tup q, any_tup, kit_ty (by decide +kernel)⟩
  · exact ⟨"list", true, ty_lst p, ty_lst q, any_lst, kit_ty (by decide +kernel)⟩
theorem ty_same {K : PySem.W.Frag} {H H' : Hp} {a b : Addr} {xs ys : List V} (s : Same H H') (h : (SqT K H a xs ∧ SqT K H b ys) ∨ (SqL K H a xs ∧ SqL K H b ys)) : (SqT K H' a xs ∧ SqT K H' b ys) ∨ (SqL K H' a xs ∧ SqL K H' b ys) := by
  rcases h with ⟨p, q⟩ | ⟨p, q⟩
  · exact .inl ⟨seqT s p, seqT s q⟩
  · exact .inr ⟨s.seq p, s.seq q⟩

section
variable {P : Program} {w : World} {K : PySem.W.Frag} {mg : Str → Option Value} {base : Heap}

/-! _law_alike -/
theorem scAlike : FnScope ["_law_found", "_law_due", "_law_k"] ["_law_found", "_law_due"] (defScope sAlike) := ⟨rfl, rfl, rfl, by decide +kernel, rfl, by decide +kernel, by decide +kernel⟩
def spAlike (K : PySem.W.Frag) (d : Nat) : Sp := fun vs H Q _ => ∃ x y : V, vs = [x, y] ∧ Alk K H d x y ∧ ∀ H', Same H H' → Q (.bl true) H'
theorem ok_alike0 {f : Addr} {fd : FuncData} (F : Fun K "_law_alike" "_law_alike" sAlike f fd) (B : Blt mg) : FnOk P w K mg base CX0 1 f fd ["_law_found", "_law_due"] (spAlike K 0) := by
  refine F.ok scAlike (fun vs H Q E h => ?_) (fun cdv A outer s H vs Q E hr h => ?_)
  · obtain ⟨x, y, rfl, _⟩ := h
    rfl
  · obtain ⟨x, y, rfl, ⟨i, rfl, rfl⟩, q⟩ := h
    refine ⟨_, pss_cons (ps_if (pt_val (pe_callB call_isiT (by rfl) B.isi (by decide +kernel) (pa_cons (pv 1) (pa_cons (pe_tup (pa_cons (pe_bltn (v := .ty "tuple") (by rfl) B.tuple (by decide +kernel) rfl) (pa_cons (pe_bltn (v := .ty "list") (by rfl) B.list (by decide +kernel) rfl) pa_nil))) pa_nil)))) pss_never pss_nil)
      (pss_cons (ps_if (PW.pt (pw_or (pt_cmpR op_isN (pv 1) pe_non (nomark _)) (pw_or1 (pt_val (pe_callB call_isi (by rfl) B.isi (by decide +kernel) (pa_cons (pv 1) (pa_cons (pe_bltn (v := .ty "str") (by rfl) B.str (by decide +kernel) rfl) pa_nil))))))) pss_never pss_nil)
      (pss_one (ps_ret (pe_and (pe_callB call_isi (by rfl) B.isi (by decide +kernel) (pa_cons (pv 0) (pa_cons (pe_bltn (v := .ty "int") (by rfl) B.int (by decide +kernel) rfl) pa_nil)))
        (pe_and (pe_cmpR op_eq (pe_callB call_isi (by rfl) B.isi (by decide +kernel) (pa_cons (pv 0) (pa_cons (pe_bltn (v := .ty "bool") (by rfl) B.bool (by decide +kernel) rfl) pa_nil)))
            (pe_callB call_isi (by rfl) B.isi (by decide +kernel) (pa_cons (pv 1) (pa_cons (pe_bltn (v := .ty "bool") (by rfl) B.bool (by decide +kernel) rfl) pa_nil))) (nomark _))
          (pe_one (pe_cmpR op_eq (pv 0) (pv 1) (nomark _)))))))), ?_⟩
    refine ⟨.int i, rfl, by show 2 ≤ sizeLine; decide, fun tp ntp => ?_⟩
    have s1 := sameU (o := .tup [.ty "tuple", .ty "list"]) ntp
    refine ⟨.int i, tp, _, .type "int", _, false, rfl, upd_same, cls2, .base (.int i), any_int, false, rfl, iteF ?_⟩
    refine ⟨.int i, rfl, rfl, false, ?_, iteF ?_⟩
    · show V.bl (decide (V.int i = V.non)) = V.bl false
      rw [decide_eq_false (fun e => nomatch e)]
    refine ⟨.int i, rfl, _, _, .type "int", .type "str", false, rfl, .ty _, .base (.int i), kit_ty (by decide +kernel), false, rfl, iteF ?_⟩
    refine ⟨.int i, rfl, _, _, .type "int", .type "int", true, rfl, .ty _, .base (.int i), kit_ty (by decide +kernel), true, rfl, iteT ?_⟩
    refine ⟨.int i, rfl, _, _, .type "int", .type "bool", false, rfl, .ty _, .base (.int i), kit_ty (by decide +kernel), .int i, rfl, _, _, .type "int", .type "bool", false, rfl, .ty _, .base (.int i), kit_ty (by decide +kernel), rfl, true, ?_, iteT ?_⟩
    · rw [decide_eq_true rfl]
    refine ⟨.int i, rfl, .int i, rfl, rfl, ?_⟩
    rw [decide_eq_true rfl]
    exact q _ s1
theorem ok_alikeS {f : Addr} {fd : FuncData} {d : Nat} (F : Fun K "_law_alike" "_law_alike" sAlike f fd) (B : Blt mg) (g : mg "_law_alike" = some (.ref f)) (b : Binds K fd ["_law_found", "_law_due"] []) (G : FnOk P w K mg base CX0 (d + 1) f fd ["_law_found", "_law_due"] (spAlike K d)) :
    FnOk P w K mg base CX0 (d + 2) f fd ["_law_found", "_law_due"] (spAlike K (d + 1)) := by
  refine F.ok scAlike (fun vs H Q E h => ?_) (fun cdv A outer s H vs Q E hr h => ?_)
  · obtain ⟨x, y, rfl, _⟩ := h
    rfl
  · obtain ⟨x, y, rfl, ⟨a, c, xs, ys, rfl, rfl, hseq, hlen, hmost, hin⟩, q⟩ := h
    refine ⟨_, pss_cons (ps_if (pt_val (pe_callB call_isiT (by rfl) B.isi (by decide +kernel) (pa_cons (pv 1) (pa_cons (pe_tup (pa_cons (pe_bltn (v := .ty "tuple") (by rfl) B.tuple (by decide +kernel) rfl) (pa_cons (pe_bltn (v := .ty "list") (by rfl) B.list (by decide +kernel) rfl) pa_nil))) pa_nil))))
        (pss_cons (ps_if (PW.pt (pw_or (pt_not (pt_val (pe_callB call_isiT (by rfl) B.isi (by decide +kernel) (pa_cons (pv 0) (pa_cons (pe_tup (pa_cons (pe_bltn (v := .ty "tuple") (by rfl) B.tuple (by decide +kernel) rfl) (pa_cons (pe_bltn (v := .ty "list") (by rfl) B.list (by decide +kernel) rfl) pa_nil))) pa_nil)))))
            (pw_or1 (pt_cmpR op_ne (pe_callB call_isi (by rfl) B.isi (by decide +kernel) (pa_cons (pv 0) (pa_cons (pe_bltn (v := .ty "list") (by rfl) B.list (by decide +kernel) rfl) pa_nil)))
              (pe_callB call_isi (by rfl) B.isi (by decide +kernel) (pa_cons (pv 1) (pa_cons (pe_bltn (v := .ty "list") (by rfl) B.list (by decide +kernel) rfl) pa_nil))) (nomark _))))) pss_never pss_nil)
        (pss_cons (ps_if (pt_cmpR op_ne (pe_callB call_len_seq (by rfl) B.len PySem.boot_len (pa_cons (pv 0) pa_nil)) (pe_callB call_len_seq (by rfl) B.len PySem.boot_len (pa_cons (pv 1) pa_nil)) (nomark _)) pss_never pss_nil)
        (pss_one (ps_ret (pe_cmpR (op_eqD hr.units) (pe_lc (own := [("_law_k", 2)]) (g := gName 2) rfl scAlike.nd (pi_range1 (by rfl) B.range (pa_cons (pe_callB call_len_seq (by rfl) B.len PySem.boot_len (pa_cons (pv 1) pa_nil)) pa_nil))
            (blkOk_by (N := ["_law_found", "_law_due", "_law_k"]) (sc := defScope sAlike) (by decide +kernel))
            (fun _ _ _ _ _ => pg_name (i := 2) scAlike.nd rfl (.inl rfl) (.inr rfl))
            (fun _ _ _ _ _ => pts_one (pt_not (pt_val (pe_call G hr (by rfl) g F.kp b .nil pass0 (pa_cons (pe_ix ((ix_listK (K := K) rfl).or (ix_tupK (K := K) rfl)) (pv 0) (pv 2) (fun _ _ => rfl)) (pa_cons (pe_ix ((ix_listK (K := K) rfl).or (ix_tupK (K := K) rfl)) (pv 1) (pv 2) (fun _ _ => rfl)) pa_nil))))))
            (fun _ _ _ _ _ => pv 2)) (pe_lst pa_nil) (nomark _)))))) pss_nil) pss_never, ?_⟩
    obtain ⟨n, k, t1, t2, ha, hl⟩ := seq_ty hseq
    refine ⟨.ref c, rfl, by show 2 ≤ sizeLine; decide, fun tp ntp => ?_⟩
    have s1 := sameU (o := .tup [.ty "tuple", .ty "list"]) ntp
    have h1 := ty_same s1 hseq
    obtain ⟨n1, k1, u1, u2, ha1, hl1⟩ := seq_ty h1
    refine ⟨.ref c, tp, _, _, _, true, rfl, upd_same, cls2, u2, ha1, true, rfl, iteT ?_⟩
    refine ⟨.ref a, rfl, by show 2 ≤ sizeLine; decide, fun tq ntq => ?_⟩
    have s2 := s1.trans (sameU (o := .tup [.ty "tuple", .ty "list"]) ntq)
    have h2 := ty_same s2 hseq
    obtain ⟨n2, k2, v1, v2, ha2, hl2⟩ := seq_ty h2
    refine ⟨.ref a, tq, _, _, _, true, rfl, upd_same, cls2, v1, ha2, true, rfl, iteF ?_⟩
    refine ⟨.ref a, rfl, _, _, _, _, k2, rfl, .ty _, v1, hl2, .ref c, rfl, _, _, _, _, k2, rfl, .ty _, v2, hl2, rfl, false, ?_, iteF ?_⟩
    · rw [decide_eq_true rfl]
      rfl
    generalize upd (upd H tp (.tup [.ty "tuple", .ty "list"])) tq (.tup [.ty "tuple", .ty "list"]) = H2 at s2 h2
    have ln : ∀ {H'}, Same H H' → (SqL K H' a xs ∨ SqT K H' a xs) ∧ (SqL K H' c ys ∨ SqT K H' c ys) := fun {H'} s => by
      rcases ty_same s hseq with ⟨p, q⟩ | ⟨p, q⟩
      · exact ⟨.inr p, .inr q⟩
      · exact ⟨.inl p, .inl q⟩
    refine ⟨.ref a, rfl, a, xs, rfl, (ln s2).1, .ref c, rfl, c, ys, rfl, (ln s2).2, rfl, false, ?_, iteF ?_⟩
    · rw [hlen, decide_eq_true rfl]
      rfl
    refine ⟨.ref c, rfl, c, ys, rfl, (ln s2).2, (ys.length : Int), rfl, by omega, by omega, fun D nD => ?_⟩
    rw [Int.toNat_natCast]
    have nD0 : H D = none := s2.free nD
    refine lc_it walk_range0 (fun i H' => Same H2 H' ∧ H' D = some (.lst [])) ⟨sameU nD, upd_same⟩ (fun _ _ _ _ => True.intro) (fun i x H3 H4 hi p y => ?_) (fun H' p => ?_)
    · obtain ⟨rfl, rfl⟩ := y
      have hx : xs[i]? = some (xs[i]'(by omega)) := List.getElem?_eq_getElem (by omega)
      have hy : ys[i]? = some ys[i] := List.getElem?_eq_getElem hi
      generalize xs[i]'(by omega) = x at hx
      generalize ys[i] = y at hy
      have s3 := s2.trans p.1
      have ix : ∀ {b : Addr} {zs : List V} {z : V} {Q' : VK}, (SqL K H4 b zs ∨ SqT K H4 b zs) → zs[i]? = some z → Q' z H4 → (rIxL K (.ref b) (.int (i : Int)) H4 Q' ∨ rIxT K (.ref b) (.int (i : Int)) H4 Q') := fun {b zs z Q'} h hz hq => by
        rcases h with h | h
        · exact .inl ⟨b, zs, (i : Int), z, rfl, rfl, h, atI_nat hz, hq⟩
        · exact .inr ⟨b, zs, (i : Int), z, rfl, rfl, h, atI_nat hz, hq⟩
      refine ⟨rfl, .ref a, rfl, .int (i : Int), rfl, ix (ln s3).1 hx ?_⟩
      refine ⟨.ref c, rfl, .int (i : Int), rfl, ix (ln s3).2 hy ?_⟩
      exact ⟨x, y, rfl, (hin i x y hx hy).same s3, fun H5 s5 => ⟨true, rfl, iteF ⟨p.1.trans s5, s5 _ _ p.2⟩⟩⟩
    · refine ⟨by decide, fun e ne => ?_⟩
      have s4 := sameU (o := .lst []) ne
      refine ⟨.list [], .list [], .lst (.inl (.inl (s4 _ _ p.2))) .nil, .lst (.inl (.inl upd_same)) .nil, shaped_nilL, shaped_nilL, ?_⟩
      rw [eqv_nilL]
      exact q _ ((s2.trans p.1).trans s4)
theorem ok_alike {f : Addr} {fd : FuncData} (F : Fun K "_law_alike" "_law_alike" sAlike f fd) (B : Blt mg) (g : mg "_law_alike" = some (.ref f)) (b : Binds K fd ["_law_found", "_law_due"] []) : ∀ d, FnOk P w K mg base CX0 (d + 1) f fd ["_law_found", "_law_due"] (spAlike K d)
  | 0 => ok_alike0 F B
  | d + 1 => ok_alikeS F B g b (ok_alike F B g b d)
end
end Sb

/-! SbP -/
namespace Sb
open PySem PySem.Spec PyProof.Rows L2 SB
theorem seqT_upd {K : PySem.W.Frag} {H : Hp} {p c : Addr} {l xs : List V} {o : HO} (hp : H p = some (.lst l)) (h : SqT K H c xs) : SqT K (upd H p o) c xs := by
  rcases h with (h | ⟨u, h⟩) | h
  · refine .inl (.inl ?_)
    rw [upd_ne (ne_of h hp (by intro z; cases z))]
    exact h
  · refine .inl (.inr ⟨u, ?_⟩)
    rw [upd_ne (ne_of h hp (by intro z; cases z))]
    exact h
  · exact .inr h
theorem isP_upd {K : PySem.W.Frag} {H : Hp} {p : Addr} {l : List V} {o : HO} (hp : H p = some (.lst l)) {v : V} {q : Nat × Nat} (h : IsP K H v q) : IsP K (upd H p o) v q := by
  obtain ⟨c, e, h⟩ := h
  exact ⟨c, e, seqT_upd hp h⟩
theorem isF_upd {K : PySem.W.Frag} {H : Hp} {p : Addr} {l : List V} {o : HO} (hp : H p = some (.lst l)) {v : V} {F : List Bag} (h : IsF K H v F) : IsF K (upd H p o) v F := by
  obtain ⟨c, vs, e, h, hq⟩ := h
  exact ⟨c, vs, e, seqT_upd hp h, pr_imp (fun _ _ h => isB_upd hp h) hq⟩
theorem inV_iv (x : Nat) : ∀ l : List Nat, inV (.int (x : Int)) (iv l) = decide (x ∈ l)
  | [] => rfl
  | y :: l => by
    show (((y : Int) == (x : Int)) || inV (.int (x : Int)) (iv l)) = _
    rw [beq_cast, inV_iv x l]
    by_cases h1 : x = y <;> by_cases h2 : x ∈ l <;> simp [h1, h2]
theorem flat_iv (l : List Nat) : (iv l).all flatV = true := by
  rw [List.all_eq_true]
  intro x hx
  obtain ⟨n, _, rfl⟩ := iv_mem.mp hx
  rfl
theorem shares_meet (A B : Bag) : shares A B = !((meet A B).map dN).isEmpty := by
  unfold shares meet
  induction A with
  | nil => rfl
  | cons x A ih =>
    rw [List.any_cons, List.filter_cons]
    by_cases h : x ∈ B
    · simp [h]
    · rw [if_neg (by simpa using h), ← ih]
      simp [h]
theorem row_few (F : List Bag) (i : Nat) : (pairsRow F i).length ≤ F.length := by
  unfold pairsRow
  rw [List.length_map]
  refine Nat.le_trans (List.length_filter_le _ _) ?_
  rw [List.length_range']
  omega
/-- whole numbers that all are naturals -/
theorem nats_of : ∀ {ns : List Int}, (∀ k ∈ ns, ∃ n : Nat, k = (n : Int)) → ∃ zs : List Nat, ns = zs.map Int.ofNat
  | [], _ => ⟨[], rfl⟩
  | k :: ns, h => by
    obtain ⟨n, hn⟩ := h k (List.mem_cons_self ..)
    obtain ⟨zs, e⟩ := nats_of fun j hj => h j (List.mem_cons_of_mem _ hj)
    exact ⟨n :: zs, by rw [hn, e]; rfl⟩
theorem lt_nat {zs : List Nat} (h : (zs.map Int.ofNat).Pairwise (· < ·)) : zs.Pairwise (· < ·) := by
  rw [List.pairwise_map] at h
  exact h.imp fun h => Int.ofNat_lt.mp h
/-- families in a list, with their places -/
theorem addrs_of {K : PySem.W.Frag} {H : Hp} : ∀ {vs : List V} {G : List (List Bag)}, Paired (IsF K H) vs G → ∃ ps : List (Addr × List Bag), vs = ps.map (fun p => V.ref p.1) ∧ ps.map (·.2) = G ∧ ∀ p ∈ ps, IsF K H (.ref p.1) p.2
  | _, _, .nil => ⟨[], rfl, rfl, fun p hp => by cases hp⟩
  | _, _, .cons h t => by
    obtain ⟨ps, h1, h2, h3⟩ := addrs_of t
    have h0 := h
    obtain ⟨a, ws, rfl, _⟩ := h
    refine ⟨(a, _) :: ps, by rw [h1]; rfl, by rw [List.map_cons, h2], fun p hp => ?_⟩
    rcases List.mem_cons.mp hp with e | hp
    · rw [e]
      exact h0
    · exact h3 p hp
theorem places_of {K : PySem.W.Frag} {H : Hp} : ∀ {qs : List (Addr × List Bag)}, (∀ p ∈ qs, IsF K H (.ref p.1) p.2) → Paired (IsF K H) (qs.map fun q => V.ref q.1) (qs.map (·.2))
  | [], _ => .nil
  | q :: qs, h => .cons (h q (List.mem_cons_self ..)) (places_of fun p hp => h p (List.mem_cons_of_mem _ hp))

section
variable {P : Program} {w : World} {K : PySem.W.Frag} {mg : Str → Option Value} {base : Heap}

/-! _law_pours -/
theorem scLPours : FnScope ["_law_family_here", "_law_found", "_law_one", "_law_other", "_law_bead"] ["_law_family_here"] (defScope sLPours) := ⟨rfl, rfl, rfl, by decide +kernel, rfl, by decide +kernel, by decide +kernel⟩
theorem ok_lpours {f : Addr} {fd : FuncData} (F : Fun K "_law_pours" "_law_pours" sLPours f fd) (B : Blt mg) : FnOk P w K mg base CX0 1 f fd ["_law_family_here"] (spPairs K) := by
  refine F.ok scLPours (fun vs H Q E h => ?_) (fun cdv A outer s H vs Q E hr h => ?_)
  · obtain ⟨v, b, n, rfl, _⟩ := h
    rfl
  · obtain ⟨v, Fm, n, rfl, ⟨a, xs, rfl, hS, hP⟩, hF, q⟩ := h
    have hfew := hF.tree.few
    have hmost := hF.most
    have hB := fam_bags hF
    have hlen : xs.length = Fm.length := pr_len hP
    refine ⟨_, pss_cons (ps_set (i := 1) scLPours.nd rfl (.inl rfl) (pe_lst pa_nil))
      (pss_cons (ps_for PassesOwn.never rfl (pi_range1 (by rfl) B.range (pa_cons (pe_callB call_len_seq (by rfl) B.len PySem.boot_len (pa_cons (pv 0) pa_nil)) pa_nil)) (pg_name (i := 2) scLPours.nd rfl (.inl rfl))
        (pss_one (ps_for PassesOwn.never rfl (pi_range2 (by rfl) B.range (pa_cons (pe_op op_add (pv 2) pe_int) (pa_cons (pe_callB call_len_seq (by rfl) B.len PySem.boot_len (pa_cons (pv 0) pa_nil)) pa_nil))) (pg_name (i := 3) scLPours.nd rfl (.inr rfl))
          (pss_one (ps_if (pt_cmpR (op_neD hr.units) (pe_lc (own := [("_law_bead", 4)]) (g := gName 4) rfl scLPours.nd (pi_tup (pe_ix ix_tup (pv 0) (pv 2) (fun _ _ => rfl)))
                (blkOk_by (N := ["_law_family_here", "_law_found", "_law_one", "_law_other", "_law_bead"]) (sc := defScope sLPours) (by decide +kernel))
                (fun _ _ _ _ _ => pg_name (i := 4) scLPours.nd rfl (.inl rfl) (.inr rfl))
                (fun _ _ _ _ _ => pts_one (pt_cmpR (op_inK (K := K) rfl) (pv 4) (pe_ix (ix_tupK (K := K) rfl) (pv 0) (pv 3) (fun _ _ => rfl)) rfl)) (fun _ _ _ _ _ => pv 4)) (pe_lst pa_nil) (nomark _))
            (pss_one (ps_expr (pe_bm PySem.F.plainAttrs_list PySem.F.slot_list_append PySem.F.type_list_append mt_append (pv 1) (pa_cons (pe_tup (pa_cons (pv 2) (pa_cons (pv 3) pa_nil))) pa_nil)))) pss_nil)))))
      (pss_one (ps_ret (pv 1)))), ?_⟩
    refine ⟨by decide, fun D nD => ?_⟩
    have s0 : Same H (upd H D (.lst [])) := sameU nD
    have hS' : ∀ {H'}, Same H H' → SqT K H' a xs := fun s => seqT s hS
    refine ⟨.ref a, rfl, a, xs, rfl, .inr (hS' s0), (Fm.length : Int), ?_, by omega, by omega, ?_⟩
    · rw [hlen]
    rw [Int.toNat_natCast]
    refine for_it walk_range0 (fun i σ H2 => ∃ y2 y3 qs, σ = [some (.ref a), some (.ref D), y2, y3, none] ∧ Same H H2 ∧ H2 D = some (.lst qs) ∧ Paired (IsP K H2) qs ((List.range i).flatMap (pairsRow Fm)))
      ⟨_, _, [], rfl, s0, upd_same, .nil⟩ (fun _ _ _ _ _ => True.intro) (fun i x σ H2 H3 hi p y => ?_) (fun σ H2 p => ?_)
    · obtain ⟨y2, y3, qs, rfl, p1, p2, p3⟩ := p
      obtain ⟨rfl, rfl⟩ := y
      refine ⟨.int (i : Int), rfl, _, _, rfl, rfl, .ref a, rfl, a, xs, rfl, .inr (hS' p1), ((i + 1 : Nat) : Int), (Fm.length : Int), ?_, by omega, ?_⟩
      · rw [hlen]
        rfl
      have en : ((Fm.length : Int) - ((i + 1 : Nat) : Int)).toNat = Fm.length - (i + 1) := by omega
      rw [en]
      refine for_it walk_range (fun j σ H4 => ∃ y3 qs, σ = [some (.ref a), some (.ref D), some (.int (i : Int)), y3, none] ∧ Same H H4 ∧ H4 D = some (.lst qs) ∧
          Paired (IsP K H4) qs ((List.range i).flatMap (pairsRow Fm) ++ ((List.range' (i + 1) j).filter fun j => shares (bagAt Fm i) (bagAt Fm j)).map fun j => (i, j)))
        ⟨_, qs, rfl, p1, p2, by simpa using p3⟩ (fun _ _ _ _ _ => True.intro) (fun j x σ H4 H5 hj p y => ?_) (fun σ H4 p => ?_)
      · obtain ⟨z3, rs, rfl, l1, l2, l3⟩ := p
        obtain ⟨rfl, ex⟩ := y
        have ex : x = .int ((i + 1 + j : Nat) : Int) := ex
        subst ex
        have hjl : i + 1 + j < Fm.length := by omega
        obtain ⟨u, hu, ⟨a1, rfl, ha1⟩⟩ := pr_get' hP (bagAt_get hi)
        obtain ⟨v, hv, ⟨a2, rfl, ha2⟩⟩ := pr_get' hP (bagAt_get hjl)
        have hlr : rs.length ≤ 200 := by
          rw [pr_len l3, List.length_append, List.length_map]
          have h1 := flat_len (f := pairsRow Fm) (c := 13) (l := List.range i) fun k _ => Nat.le_trans (row_few Fm k) (by omega)
          have h2 := List.length_filter_le (fun j => shares (bagAt Fm i) (bagAt Fm j)) (List.range' (i + 1) j)
          rw [List.length_range] at h1
          rw [List.length_range'] at h2
          have h3 : i * 13 ≤ 13 * 13 := Nat.mul_le_mul_right _ (by omega)
          omega
        refine ⟨.ref a, rfl, .int (i : Int), rfl, a, xs, (i : Int), .ref a1, rfl, rfl, hS' l1, atI_nat hu, a1, rfl, ⟨_, seqT l1 ha1⟩, fun L nL => ?_⟩
        refine lc_it walk_tup (fun t H' => Same H5 H' ∧ H' L = some (.lst (iv (meet ((bagAt Fm i).take t) (bagAt Fm (i + 1 + j)))))) ⟨sameU nL, upd_same⟩ (fun t H' _ p => seqT (l1.trans p.1) ha1) (fun t x H6 H7 ht p y => ?_) (fun H' p => ?_)
        · obtain ⟨m1, m2⟩ := p
          obtain ⟨rfl, hx⟩ := y
          obtain ⟨b, hb, rfl⟩ := iv_get hx
          rw [iv_len] at ht
          have hsh := hF.tree.short (bagAt_mem hi)
          have et : ((bagAt Fm i).take (t + 1)) = (bagAt Fm i).take t ++ [b] := by
            rw [List.take_add_one, hb]
            rfl
          refine ⟨rfl, _, rfl, _, rfl, .int ((i + 1 + j : Nat) : Int), rfl, a, xs, _, .ref a2, rfl, rfl, hS' (l1.trans m1), atI_nat hv, a2, iv (bagAt Fm (i + 1 + j)), rfl, .inr (seqT (l1.trans m1) ha2), rfl, flat_iv _, decide (b ∈ bagAt Fm (i + 1 + j)), ?_, ?_⟩
          · show V.bl (inV (.int (b : Int)) (iv (bagAt Fm (i + 1 + j)))) = _
            rw [inV_iv]
          · by_cases hm : b ∈ bagAt Fm (i + 1 + j)
            · rw [decide_eq_true hm]
              refine iteT ⟨_, rfl, _, m2, ?_, sameU2 m1 nL, ?_⟩
              · rw [iv_len]
                have h1 : (meet ((bagAt Fm i).take t) (bagAt Fm (i + 1 + j))).length ≤ ((bagAt Fm i).take t).length := List.length_filter_le _ _
                rw [List.length_take] at h1
                exact small1000 (by omega)
              · rw [upd_same, et]
                unfold meet
                rw [List.filter_append]
                simp [hm, iv]
            · rw [decide_eq_false hm]
              refine iteF ⟨m1, ?_⟩
              rw [m2, et]
              unfold meet
              rw [List.filter_append]
              simp [hm, iv]
        · obtain ⟨m1, m2⟩ := p
          rw [iv_len, List.take_length] at m2
          refine ⟨by decide, fun e ne => ?_⟩
          have s5 : Same H5 (upd H' e (.lst [])) := m1.trans (sameU ne)
          have e5 := s5 _ _ l2
          refine ⟨dL (meet (bagAt Fm i) (bagAt Fm (i + 1 + j))), .list [], .lst (.inl (.inl (sameU ne _ _ m2))) (dp_ints _), .lst (.inl (.inl upd_same)) .nil, shaped_dL _, shaped_nilL, shares (bagAt Fm i) (bagAt Fm (i + 1 + j)), ?_, ?_⟩
          · unfold dL
            rw [eqv_nilL, shares_meet]
          have er : List.range' (i + 1) (j + 1) = List.range' (i + 1) j ++ [i + 1 + j] := by
            rw [List.range'_concat]
            simp
          by_cases hs : shares (bagAt Fm i) (bagAt Fm (i + 1 + j)) = true
          · rw [hs]
            refine iteT ⟨.ref D, rfl, .inl ⟨rfl, _, .inl (.inl e5)⟩, _, rfl, _, rfl, by show 2 ≤ sizeLine; decide, fun tp ntp => ?_⟩
            have s6 : Same H5 (upd (upd H' e (.lst [])) tp (.tup [.int (i : Int), .int ((i + 1 + j : Nat) : Int)])) := s5.trans (sameU ntp)
            have e6 := s6 _ _ l2
            have e7 : (upd (upd H' e (.lst [])) tp (.tup [.int (i : Int), .int ((i + 1 + j : Nat) : Int)])) tp = some (.tup [.int (i : Int), .int ((i + 1 + j : Nat) : Int)]) := upd_same
            show ∃ l xs y, _
            generalize upd (upd H' e (.lst [])) tp (.tup [.int (i : Int), .int ((i + 1 + j : Nat) : Int)]) = H8 at s6 e6 e7
            refine ⟨D, rs, .ref tp, rfl, rfl, e6, small1000 (by omega), _, rs ++ [.ref tp], rfl, sameU2 (l1.trans s6) nD, upd_same, ?_⟩
            rw [er, List.filter_append, List.map_append, ← List.append_assoc]
            refine pr_app (pr_imp (fun _ _ h => isP_upd e6 (h.same s6)) l3) ?_
            rw [List.filter_cons, if_pos hs]
            exact .cons (isP_upd e6 ⟨tp, rfl, .inl (.inl e7)⟩) .nil
          · have hs' : shares (bagAt Fm i) (bagAt Fm (i + 1 + j)) = false := by simpa using hs
            rw [hs']
            refine iteF ⟨_, rs, rfl, l1.trans s5, e5, ?_⟩
            rw [er, List.filter_append, List.map_append]
            have ef : ([i + 1 + j].filter fun j => shares (bagAt Fm i) (bagAt Fm j)) = [] := by
              rw [List.filter_cons, if_neg hs]
              rfl
            rw [ef, List.map_nil, List.append_nil]
            exact pr_imp (fun _ _ h => h.same s5) l3
      · obtain ⟨z3, rs, rfl, l1, l2, l3⟩ := p
        refine ⟨_, _, rs, rfl, l1, l2, ?_⟩
        rw [List.range_succ, List.flatMap_append]
        have e1 : ([i].flatMap (pairsRow Fm)) = pairsRow Fm i := by simp
        rw [e1]
        exact l3
    · obtain ⟨y2, y3, qs, rfl, p1, p2, p3⟩ := p
      exact ⟨.ref D, rfl, q D qs H2 p1 nD p2 p3⟩
end
end Sb

/-! SbQ -/
namespace Sb
open PySem PySem.Spec PyProof.Rows L2 SB
section
variable {P : Program} {w : World} {K : PySem.W.Frag} {mg : Str → Option Value} {base : Heap}

/-! _law_pour -/
theorem scLPour : FnScope ["_law_family_here", "_law_one", "_law_other", "_law_rest", "_law_at"] ["_law_family_here", "_law_one", "_law_other"] (defScope sLPour) := ⟨rfl, rfl, rfl, by decide +kernel, rfl, by decide +kernel, by decide +kernel⟩
theorem ok_lpour {f : Addr} {fd : FuncData} (F : Fun K "_law_pour" "_law_pour" sLPour f fd) (B : Blt mg) : FnOk P w K mg base CX0 1 f fd ["_law_family_here", "_law_one", "_law_other"] (spPouredAt K) := by
  refine F.ok scLPour (fun vs H Q E h => ?_) (fun cdv A outer s H vs Q E hr h => ?_)
  · obtain ⟨v, b, n, i, j, rfl, _⟩ := h
    rfl
  · obtain ⟨v, Fm, n, i, j, rfl, hIs, hF, hi, hj, q⟩ := h
    have hIs0 := hIs
    obtain ⟨a, xs, rfl, hS, hP⟩ := hIs
    have hB := fam_bags hF
    have hlen : xs.length = Fm.length := pr_len hP
    have hfew := hF.tree.few
    have hmost := hF.most
    refine ⟨_, pss_cons (ps_setLc (i := 3) (own := [("_law_at", 4)]) (g := gName 4) rfl scLPour.nd rfl rfl (sw_true rfl rfl rfl (by decide +kernel))
        (pi_range1 (by rfl) B.range (pa_cons (pe_callB call_len_seq (by rfl) B.len PySem.boot_len (pa_cons (pv 0) pa_nil)) pa_nil))
        (blkOk_by (N := ["_law_family_here", "_law_one", "_law_other", "_law_rest", "_law_at"]) (sc := defScope sLPour) (by decide +kernel))
        (fun _ _ _ _ _ => pg_name (i := 4) scLPour.nd rfl (.inl rfl) (.inr rfl))
        (fun _ _ _ _ _ => pts_one (pt_cmpR (op_notInK (K := K) rfl) (pv 4) (pe_tup (pa_cons (pv 1) (pa_cons (pv 2) pa_nil))) rfl))
        (fun _ _ _ _ _ => pe_ix (ix_tupK (K := K) rfl) (pv 0) (pv 4) (fun _ _ => rfl)))
      (pss_one (ps_ret (pe_callTy call_tuple_of (by rfl) B.tuple (by decide +kernel) (pa_cons (pe_callB (cr_sortD dB hr.units alike_dB (fun b => by rw [dep_dB]; decide)) (by rfl) B.sorted (by decide +kernel) (pa_cons
        (pe_op op_cat (pv 3) (pe_lst (pa_cons
          (pe_callTy call_tuple_of (by rfl) B.tuple (by decide +kernel) (pa_cons (pe_callB (cr_sortedSet rfl) (by rfl) B.sorted (by decide +kernel) (pa_cons
            (pe_callTy (cr_setI rfl) (by rfl) B.set (by decide +kernel) (pa_cons (pe_op op_catT (pe_ix ix_tup (pv 0) (pv 1) (fun _ _ => rfl)) (pe_ix ix_tup (pv 0) (pv 2) (fun _ _ => rfl))) pa_nil)) pa_nil)) pa_nil)) pa_nil))) pa_nil)) pa_nil)))), ?_⟩
    obtain ⟨x, hx, ⟨a1, rfl, ha1⟩⟩ := pr_get' hP (bagAt_get hi)
    obtain ⟨y, hy, ⟨a2, rfl, ha2⟩⟩ := pr_get' hP (bagAt_get hj)
    have big1 := hB.big _ (bagAt_mem hi)
    have big2 := hB.big _ (bagAt_mem hj)
    have sh1 := hF.tree.short (bagAt_mem hi)
    have sh2 := hF.tree.short (bagAt_mem hj)
    have hS' : ∀ {H'}, Same H H' → SqT K H' a xs := fun s => seqT s hS
    refine ⟨.ref a, rfl, a, xs, rfl, .inr hS, (xs.length : Int), rfl, by omega, by omega, fun L nL => ?_⟩
    rw [Int.toNat_natCast]
    refine lc_it walk_range0 (fun t H' => Same H H' ∧ ∃ vs, H' L = some (.lst vs) ∧ Paired (IsB K H) vs (restM Fm i j t)) ⟨sameU nL, [], upd_same, by rw [restM_zero]; exact .nil⟩ (fun _ _ _ _ => True.intro) (fun t x H3 H4 ht p y => ?_) (fun H2 p => ?_)
    · obtain ⟨p1, vs, p2, p3⟩ := p
      obtain ⟨rfl, rfl⟩ := y
      have hv : xs[t]? = some xs[t] := List.getElem?_eq_getElem ht
      generalize xs[t] = v at hv
      obtain ⟨bag, hb, hbag⟩ := pr_get hP hv
      have eb := bagAt_of hb
      refine ⟨rfl, _, rfl, _, rfl, _, rfl, by show 2 ≤ sizeLine; decide, fun tp ntp => ?_⟩
      have s7 : Same H (upd H4 tp (.tup [.int (i : Int), .int (j : Int)])) := p1.trans (sameU ntp)
      have e7 : (upd H4 tp (.tup [.int (i : Int), .int (j : Int)])) L = some (.lst vs) := by
        rw [upd_ne (ne_of_none p2 ntp)]
        exact p2
      refine ⟨tp, _, rfl, .inr (.inl (.inl upd_same)), rfl, rfl, decide (t ≠ i ∧ t ≠ j), ?_, ?_⟩
      · have h1 := beq_cast i t
        have h2 := beq_cast j t
        show V.bl (!(((i : Int) == (t : Int)) || (((j : Int) == (t : Int)) || false))) = _
        rw [h1, h2]
        by_cases z1 : t = i <;> by_cases z2 : t = j <;> simp [z1, z2]
      · have hl2 : vs.length ≤ 100 := by
          rw [pr_len p3]
          unfold restM
          rw [List.length_map]
          have := List.length_filter_le (fun k => decide (k ≠ i ∧ k ≠ j)) (List.range t)
          rw [List.length_range] at this
          omega
        by_cases hz : t ≠ i ∧ t ≠ j
        · rw [decide_eq_true hz]
          refine iteT ⟨.ref a, rfl, .int (t : Int), rfl, a, xs, (t : Int), v, rfl, rfl, hS' s7, atI_nat hv, vs, e7, small1000 (by omega), sameU2 s7 nL, vs ++ [v], upd_same, ?_⟩
          rw [restM_succ, if_pos hz, eb]
          exact pr_app p3 (.cons hbag .nil)
        · rw [decide_eq_false hz]
          refine iteF ⟨s7, vs, e7, ?_⟩
          rw [restM_succ, if_neg hz, List.append_nil]
          exact p3
    · obtain ⟨s2, vs, p2, p3⟩ := p
      rw [hlen] at p3
      have hl2 : vs.length ≤ 100 := by
        rw [pr_len p3]
        unfold restM
        rw [List.length_map]
        have := List.length_filter_le (fun k => decide (k ≠ i ∧ k ≠ j)) (List.range Fm.length)
        rw [List.length_range] at this
        omega
      -- rest + [tuple(sorted(set(..)))]
      refine ⟨.ref L, rfl, .ref a, rfl, .int (i : Int), rfl, a, xs, (i : Int), .ref a1, rfl, rfl, hS' s2, atI_nat hx, .ref a, rfl, .int (j : Int), rfl, a, xs, (j : Int), .ref a2, rfl, rfl, hS' s2, atI_nat hy, ?_⟩
      refine ⟨a1, a2, _, _, rfl, rfl, seqT s2 ha1, seqT s2 ha2, fun e => ?_, ?_, fun e => ?_, fun _ c nc => ?_⟩
      · have := congrArg List.length e
        rw [iv_len, List.length_nil] at this
        omega
      · rw [iv_len, iv_len]
        exact Nat.le_of_lt (small1000 (by omega))
      · have := congrArg List.length e
        rw [iv_len, List.length_nil] at this
        omega
      have s3 : Same H2 (upd H2 c (.tup (iv (bagAt Fm i) ++ iv (bagAt Fm j)))) := sameU nc
      have eC : (upd H2 c (.tup (iv (bagAt Fm i) ++ iv (bagAt Fm j)))) c = some (.tup (((bagAt Fm i ++ bagAt Fm j).map Int.ofNat).map V.int)) := by rw [upd_same, ← iv_append]
      generalize upd H2 c (.tup (iv (bagAt Fm i) ++ iv (bagAt Fm j))) = H3 at s3 eC
      refine ⟨c, (bagAt Fm i ++ bagAt Fm j).map Int.ofNat, rfl, .inl (.inl eC), ?_, fun e0 n0 ne0 hn0 => ?_⟩
      · rw [List.length_map, List.length_append]
        omega
      have s4 := s3.trans (sameU (o := SetO w e0 (fun k => decide (k ∈ (bagAt Fm i ++ bagAt Fm j).map Int.ofNat)) n0) ne0)
      refine ⟨e0, _, n0, rfl, upd_same, ?_, fun ns l asc hmem hnl nl => ?_⟩
      · rw [List.length_map, List.length_append] at hn0
        omega
      have hnat : ∀ k ∈ ns, ∃ m : Nat, k = (m : Int) := fun k hk => by
        have := of_decide_eq_true ((hmem k).mp hk)
        obtain ⟨m, _, e⟩ := List.mem_map.mp this
        exact ⟨m, e.symm⟩
      obtain ⟨zs, rfl⟩ := nats_of hnat
      have hz : zs = wholeM (bagAt Fm i) (bagAt Fm j) := wholeM_eq (lt_nat asc) (fun x => by
          have h1 := hmem (x : Int)
          rw [decide_eq_true_iff] at h1
          have h2 : ∀ l : List Nat, (x : Int) ∈ l.map Int.ofNat ↔ x ∈ l := fun l => by
            constructor
            · intro h
              obtain ⟨m, hm, e⟩ := List.mem_map.mp h
              have : m = x := Int.ofNat.inj e
              exact this ▸ hm
            · intro h
              exact List.mem_map.mpr ⟨x, h, rfl⟩
          rw [h2, h2, List.mem_append] at h1
          exact h1) (fun x hx => by have := hF.tree.lt _ (bagAt_mem hi) x hx; omega) (fun x hx => by have := hF.tree.lt _ (bagAt_mem hj) x hx; omega)
      subst hz
      have s5 := s4.trans (sameU (o := .lst (iv (wholeM (bagAt Fm i) (bagAt Fm j)))) nl)
      refine ⟨l, _, rfl, .inl ⟨.inl (.inl upd_same), fun wh nwh => ?_⟩⟩
      have s6 := s5.trans (sameU (o := .tup (iv (wholeM (bagAt Fm i) (bagAt Fm j)))) nwh)
      have eW : ∀ {G : Hp}, (upd G wh (.tup (iv (wholeM (bagAt Fm i) (bagAt Fm j))))) wh = some (.tup (iv (wholeM (bagAt Fm i) (bagAt Fm j)))) := upd_same
      refine ⟨by show 1 ≤ sizeLine; decide, fun l2 nl2 => ?_⟩
      have s7 := s6.trans (sameU (o := .lst [.ref wh]) nl2)
      have eW2 := sameU (o := .lst [.ref wh]) nl2 _ _ (eW (G := _))
      refine ⟨L, l2, vs, [.ref wh], rfl, rfl, s7 _ _ p2, upd_same, ?_, fun l3 nl3 => ?_⟩
      · exact Nat.le_of_lt (small1000 (by rw [List.length_singleton]; omega))
      have s8 := (s2.trans s7).trans (sameU (o := .lst (vs ++ [.ref wh])) nl3)
      have eW3 := sameU (o := .lst (vs ++ [.ref wh])) nl3 _ _ eW2
      dsimp only [tNil]
      refine rSD_any (R := IsB K) (G := restM Fm i j Fm.length ++ [wholeM (bagAt Fm i) (bagAt Fm j)]) (.inl (.inl upd_same)) (pr_app (pB_same p3 s8) (.cons ⟨wh, rfl, .inl (.inl eW3)⟩ .nil)) (fun _ _ h => h.dp) (fun b hb => ne_dB ?_) fun l4 vs4 hv4 nl4 => ?_
      · rcases List.mem_append.mp hb with hb | hb
        · obtain ⟨k, hk, _, _, rfl⟩ := mem_restM.mp hb
          have := hB.big _ (bagAt_mem hk)
          omega
        · rw [List.mem_singleton.mp hb]
          have hm : lastB (bagAt Fm i) ∈ wholeM (bagAt Fm i) (bagAt Fm j) := mem_wholeM.mpr ⟨by have := hF.tree.lt _ (bagAt_mem hi) _ (last_mem (by omega)); omega, .inl (last_mem (by omega))⟩
          exact List.length_pos_of_mem hm
      · rw [srtB_leD] at hv4
        have s9 := sameU (o := .lst vs4) nl4
        refine ⟨l4, vs4, rfl, .inl ⟨.inl (.inl upd_same), fun t4 nt4 => ?_⟩⟩
        have s10 := s9.trans (sameU (o := .tup vs4) nt4)
        exact q _ _ (s8.trans s10) ⟨t4, vs4, rfl, .inl (.inl upd_same), pB_same hv4 s10⟩

/-! _law_downs -/
theorem scDowns : FnScope ["_law_family_here", "_law_one", "_law_other"] ["_law_family_here"] (defScope sDowns) := ⟨rfl, rfl, rfl, by decide +kernel, rfl, by decide +kernel, by decide +kernel⟩
theorem ok_downs {f : Addr} {fd : FuncData} (F : Fun K "_law_downs" "_law_downs" sDowns f fd) (B : Blt mg) (C2 : Cal P w K mg base "_law_pours" 1 ["_law_family_here"] (spPairs K))
    (C3 : Cal P w K mg base "_law_pour" 1 ["_law_family_here", "_law_one", "_law_other"] (spPouredAt K)) : FnOk P w K mg base CX0 2 f fd ["_law_family_here"] (spPoured K) := by
  obtain ⟨f2, fd2, G2, g2, k2, b2⟩ := C2
  obtain ⟨f3, fd3, G3, g3, k3, b3⟩ := C3
  refine F.ok scDowns (fun vs H Q E h => ?_) (fun cdv A outer s H vs Q E hr h => ?_)
  · obtain ⟨v, b, n, rfl, _⟩ := h
    rfl
  · obtain ⟨v, Fm, n, rfl, hIs, hF, q⟩ := h
    have hfew := pairsM_few hF
    refine ⟨_, pss_one (ps_ret (pe_callB (cr_srtF rfl hr.units) (by rfl) B.sorted (by decide +kernel) (pa_cons
        (pe_callTy (cr_setF rfl hr.units) (by rfl) B.set (by decide +kernel) (pa_cons
        (pe_lc (own := [("_law_one", 1), ("_law_other", 2)]) (tt := tYes) rfl scDowns.nd (pi_list (pe_call G2 hr (by rfl) g2 k2 b2 .nil pass0 (pa_cons (pv 0) pa_nil)))
          (blkOk_by (N := ["_law_family_here", "_law_one", "_law_other"]) (sc := defScope sDowns) (by decide +kernel))
          (fun _ _ _ _ _ => pg_tupK (K := K) (n := 2) rfl rfl (pgs_cons (pg_name (i := 1) scDowns.nd rfl (.inl rfl) (.inr rfl)) (pgs_cons (pg_name (i := 2) scDowns.nd rfl (.inl rfl) (.inr rfl)) pgs_nil))) (fun _ _ _ _ _ => pts_nil)
          (fun _ _ _ _ _ => pe_call G3 hr (by rfl) g3 k3 b3 .nil pass0 (pa_cons (pv 0) (pa_cons (pv 1) (pa_cons (pv 2) pa_nil))))) pa_nil)) pa_nil))), ?_⟩
    refine ⟨v, rfl, v, Fm, n, rfl, hIs, hF, fun p3 xs3 H3 s03 np3 hp3 hP3 => ?_⟩
    refine ⟨p3, rfl, ⟨xs3, .inl (.inl hp3)⟩, fun L nL => ?_⟩
    have hlen := pr_len hP3
    refine lc_it (walk_list (xs := xs3)) (fun t H' => Same H3 H' ∧ ∃ vs, H' L = some (.lst vs) ∧ Paired (IsF K H') vs (((pairsM Fm).take t).map fun p => pourM Fm p.1 p.2)) ⟨sameU nL, [], upd_same, .nil⟩ (fun t H' _ p => .inl (.inl (p.1 _ _ hp3))) (fun t x H5 H6 ht p y => ?_) (fun H' p => ?_)
    · obtain ⟨p1, vs, p2, p4⟩ := p
      obtain ⟨rfl, hx⟩ := y
      obtain ⟨⟨i, j⟩, hij, ⟨a1, rfl, h1⟩⟩ := pr_get hP3 hx
      have hm := mem_pairsM.mp (List.mem_of_getElem? hij)
      dsimp only [tYes]
      refine ⟨a1, _, rfl, seqT p1 h1, rfl, _, _, rfl, _, _, rfl, rfl, rfl, ?_⟩
      rw [if_pos rfl]
      refine ⟨_, rfl, _, rfl, _, rfl, v, Fm, n, i, j, rfl, hIs.same (s03.trans p1), hF, by omega, hm.2.1, fun u H7 s7 hu => ?_⟩
      have hl : vs.length ≤ 169 := by
        rw [pr_len p4, List.length_map, List.length_take]
        omega
      have e7 := s7 _ _ p2
      refine ⟨vs, e7, small1000 (by omega), sameU2 (p1.trans s7) nL, vs ++ [u], upd_same, ?_⟩
      rw [List.take_add_one, hij, List.map_append]
      exact pr_app (pr_imp (fun _ _ h => isF_upd e7 (h.same s7)) p4) (.cons (isF_upd e7 hu) .nil)
    · obtain ⟨p1, vs, p2, p4⟩ := p
      rw [List.take_of_length_le (by omega)] at p4
      have p5 : Paired (IsF K H') vs (poursM Fm) := p4
      obtain ⟨ps, rfl, e2, h3⟩ := addrs_of p5
      have hn := hF.most
      have nd : (ps.map (·.2)).Nodup := by
        rw [e2]
        exact poursM_nodup hF.tree (by omega)
      have hle : ps.length ≤ 180 := by
        have h1 := congrArg List.length e2
        unfold poursM at h1
        rw [List.length_map, List.length_map] at h1
        omega
      dsimp only [tNil]
      refine ⟨L, ps, rfl, .inl (.inl p2), h3, nd, hle, fun c nc => ?_⟩
      have s1 := sameU (o := SetFO w c (ps.map (·.1))) nc
      refine ⟨c, ps, rfl, upd_same, fun p hp => (h3 p hp).same s1, fun p hp => ?_, hle, fun qs l pm em nl => ?_⟩
      · have : p.2 ∈ poursM Fm := by
          rw [← e2]
          exact List.mem_map.mpr ⟨p, hp, rfl⟩
        obtain ⟨z, _, e⟩ := List.mem_map.mp this
        rw [← e]
        exact pour_len (n := n) _ _
      · have s2 := s1.trans (sameU (o := .lst (qs.map fun q => V.ref q.1)) nl)
        refine q l _ _ ((s03.trans p1).trans s2) (.inl (.inl upd_same)) ?_
        have h4 := places_of (K := K) (qs := qs) fun p hp => (h3 p (pm.mem_iff.mp hp)).same s2
        rw [em, e2] at h4
        exact h4
end
end Sb

/-! SbR -/
namespace Sb
open PySem PySem.Spec PyProof.Rows L2 SB
theorem units65 {k : Nat} {A : Around} (r : Room k A) : A.units + 65 < cLine := by
  have := r.un
  omega
/-! lists of pairs, of families -/
theorem lay_pairs : ∀ l : List (Nat × Nat), PyData.canLayAll0 (l.map dP) = true
  | [] => by simp [PyData.canLayAll0]
  | p :: l => by
    rw [List.map_cons, PyData.canLayAll0, lay_pairs l]
    simp [dP, dN, PyData.canLay0, PyData.canLayAll0]
theorem dep_pairs : ∀ l : List (Nat × Nat), PyData.depthAll (l.map dP) ≤ 1
  | [] => by simp [PyData.depthAll]
  | p :: l => by
    rw [List.map_cons, PyData.depthAll, dep_dP]
    have := dep_pairs l
    omega
theorem shaped_pairs (l : List (Nat × Nat)) : SeqAt.shaped (.list (l.map dP)) = true := by
  refine shaped_of ?_ ?_
  · rw [PyData.canLay0]
    exact lay_pairs l
  · rw [PyData.depth]
    have := dep_pairs l
    omega
theorem dp_pairs {K : PySem.W.Frag} {H : Hp} : ∀ {vs : List V} {l : List (Nat × Nat)}, Paired (IsP K H) vs l → DpAll K H vs (l.map dP)
  | _, _, .nil => .nil
  | _, _, .cons h t => .cons h.dp (dp_pairs t)
theorem lay_fams : ∀ l : List (List Bag), PyData.canLayAll0 (l.map dF) = true
  | [] => by simp [PyData.canLayAll0]
  | F :: l => by
    rw [List.map_cons, PyData.canLayAll0, lay_fams l, lay_dF]
    rfl
theorem dep_fams : ∀ l : List (List Bag), PyData.depthAll (l.map dF) ≤ 2
  | [] => by simp [PyData.depthAll]
  | F :: l => by
    rw [List.map_cons, PyData.depthAll]
    have h1 := dep_dF F
    have h2 := dep_fams l
    omega
theorem shaped_fams (l : List (List Bag)) : SeqAt.shaped (.list (l.map dF)) = true := by
  refine shaped_of ?_ ?_
  · rw [PyData.canLay0]
    exact lay_fams l
  · rw [PyData.depth]
    have := dep_fams l
    omega
theorem dp_fams {K : PySem.W.Frag} {H : Hp} : ∀ {vs : List V} {l : List (List Bag)}, Paired (IsF K H) vs l → DpAll K H vs (l.map dF)
  | _, _, .nil => .nil
  | _, _, .cons h t => .cons h.dp (dp_fams t)
/-! alike -/
theorem pr_both {α β γ : Type} {R : α → γ → Prop} {S : β → γ → Prop} {xs : List α} {ys : List β} {zs : List γ} (h : Paired R xs zs) (k : Paired S ys zs) {i : Nat} {x : α} {y : β} (hx : xs[i]? = some x) (hy : ys[i]? = some y) : ∃ z ∈ zs, R x z ∧ S y z := by
  obtain ⟨z, h1, h2⟩ := pr_get h hx
  obtain ⟨z', h3, h4⟩ := pr_get k hy
  rw [h1] at h3
  cases h3
  exact ⟨z, List.mem_of_getElem? h1, h2, h4⟩
theorem alk_iv {K : PySem.W.Frag} {H : Hp} {a b : Addr} {l : List Nat} (h : SqT K H a (iv l)) (k : SqT K H b (iv l)) (hl : l.length ≤ 1000) : Alk K H 1 (.ref a) (.ref b) := by
  refine ⟨a, b, iv l, iv l, rfl, rfl, .inl ⟨h, k⟩, rfl, by rw [iv_len]; exact hl, fun i x y hx hy => ?_⟩
  rw [hx] at hy
  cases hy
  obtain ⟨n, _, rfl⟩ := iv_get hx
  exact ⟨(n : Int), rfl, rfl⟩
theorem alk_B {K : PySem.W.Frag} {H : Hp} {x y : V} {b : Bag} (h : IsB K H x b) (k : IsB K H y b) (hl : b.length ≤ 1000) : Alk K H 1 x y := by
  obtain ⟨a, rfl, h⟩ := h
  obtain ⟨c, rfl, k⟩ := k
  exact alk_iv h k hl
theorem alk_P {K : PySem.W.Frag} {H : Hp} {x y : V} {p : Nat × Nat} (h : IsP K H x p) (k : IsP K H y p) : Alk K H 1 x y := by
  obtain ⟨a, rfl, h⟩ := h
  obtain ⟨c, rfl, k⟩ := k
  exact alk_iv (l := [p.1, p.2]) h k (by show 2 ≤ 1000; decide)
/-- a family small enough -/
def Few (F : List Bag) : Prop := F.length ≤ 1000 ∧ ∀ b ∈ F, b.length ≤ 1000
theorem alk_F {K : PySem.W.Frag} {H : Hp} {x y : V} {F : List Bag} (h : IsF K H x F) (k : IsF K H y F) (hl : Few F) : Alk K H 2 x y := by
  obtain ⟨a, xs, rfl, h1, h2⟩ := h
  obtain ⟨c, ys, rfl, k1, k2⟩ := k
  refine ⟨a, c, xs, ys, rfl, rfl, .inl ⟨h1, k1⟩, by rw [pr_len h2, pr_len k2], by rw [pr_len h2]; exact hl.1, fun i x y hx hy => ?_⟩
  obtain ⟨b, hb, q1, q2⟩ := pr_both h2 k2 hx hy
  exact alk_B q1 q2 (hl.2 b hb)
theorem alk_Ps {K : PySem.W.Frag} {H : Hp} {a c : Addr} {xs ys : List V} {l : List (Nat × Nat)} (h1 : SqT K H a xs) (k1 : SqT K H c ys) (h2 : Paired (IsP K H) xs l) (k2 : Paired (IsP K H) ys l) (hl : l.length ≤ 1000) : Alk K H 2 (.ref a) (.ref c) := by
  refine ⟨a, c, xs, ys, rfl, rfl, .inl ⟨h1, k1⟩, by rw [pr_len h2, pr_len k2], by rw [pr_len h2]; exact hl, fun i x y hx hy => ?_⟩
  obtain ⟨b, hb, q1, q2⟩ := pr_both h2 k2 hx hy
  exact alk_P q1 q2
theorem alk_Fs {K : PySem.W.Frag} {H : Hp} {a c : Addr} {xs ys : List V} {l : List (List Bag)} (h1 : SqL K H a xs) (k1 : SqL K H c ys) (h2 : Paired (IsF K H) xs l) (k2 : Paired (IsF K H) ys l) (hl : l.length ≤ 1000) (hf : ∀ F ∈ l, Few F) : Alk K H 3 (.ref a) (.ref c) := by
  refine ⟨a, c, xs, ys, rfl, rfl, .inr ⟨h1, k1⟩, by rw [pr_len h2, pr_len k2], by rw [pr_len h2]; exact hl, fun i x y hx hy => ?_⟩
  obtain ⟨b, hb, q1, q2⟩ := pr_both h2 k2 hx hy
  exact alk_F q1 q2 (hf b hb)
theorem whole_few (A B : Bag) : (wholeM A B).length ≤ 60 := by
  unfold wholeM
  refine Nat.le_trans (List.length_filter_le _ _) ?_
  rw [List.length_range]
  exact Nat.le_refl _
theorem pour_few {n : Nat} {F : List Bag} (hF : Fam n F) (i j : Nat) : Few (pourM F i j) := by
  have hfew := hF.tree.few
  have hmost := hF.most
  refine ⟨?_, fun b hb => ?_⟩
  · unfold pourM
    rw [(srtB_perm _).length_eq, List.length_append, List.length_singleton]
    unfold restM
    rw [List.length_map]
    have := List.length_filter_le (fun k => decide (k ≠ i ∧ k ≠ j)) (List.range F.length)
    rw [List.length_range] at this
    omega
  · unfold pourM at hb
    rw [(srtB_perm _).mem_iff] at hb
    rcases List.mem_append.mp hb with hb | hb
    · obtain ⟨k, hk, _, _, rfl⟩ := mem_restM.mp hb
      have := hF.tree.short (bagAt_mem hk)
      omega
    · rw [List.mem_singleton.mp hb]
      have := whole_few (bagAt F i) (bagAt F j)
      omega
theorem mem_downs {F : List Bag} {G : List Bag} : G ∈ downsM F ↔ ∃ p ∈ pairsM F, pourM F p.1 p.2 = G := by
  unfold downsM
  rw [(srtF_perm _).mem_iff]
  unfold poursM
  rw [List.mem_map]
theorem downs_len (F : List Bag) : (downsM F).length = (pairsM F).length := by
  unfold downsM
  rw [(srtF_perm _).length_eq]
  unfold poursM
  rw [List.length_map]
theorem sqF_of {K : PySem.W.Frag} {H : Hp} {a : Addr} {xs : List V} (o : Only H) (h : SqL K H a xs) : SqF K H a xs := by
  rcases h with (h | h) | h
  · exfalso
    rcases o a with e | ⟨u, ys, e⟩
    · rw [h] at e
      cases e
    · rw [h] at e
      cases e
  · exact .inl h
  · exact .inr h

section
variable {P : Program} {w : World} {K : PySem.W.Frag} {mg : Str → Option Value} {base : Heap}

/-! law -/
theorem scLaw : FnScope ["_law_script", "_law_row", "_law_family_here", "_law_due", "_law_one", "_law_other", "_law_there"] ["_law_script"] (defScope sLaw) := ⟨rfl, rfl, rfl, by decide +kernel, rfl, by decide +kernel, by decide +kernel⟩
def spLaw (K : PySem.W.Frag) : Sp := fun vs H Q _ => ∃ (a : Addr) (ns : List Int), vs = [.ref a] ∧ SqF K H a (ns.map V.int) ∧ ∀ H', Q (.bl true) H'
theorem ok_law {f : Addr} {fd : FuncData} (F : Fun K "law" "law" sLaw f fd) (B : Blt mg)
    (C1 : Cal P w K mg base "_law_pick" 2 ["_law_row", "_law_things"] (spPick K)) (C2 : Cal P w K mg base "_law_family" 3 ["_law_row", "_law_most"] (spFamily K))
    (C3 : Cal P w K mg base "_law_pours" 1 ["_law_family_here"] (spPairs K)) (C4 : Cal P w K mg base "_law_pour" 1 ["_law_family_here", "_law_one", "_law_other"] (spPouredAt K))
    (C5 : Cal P w K mg base "_law_downs" 2 ["_law_family_here"] (spPoured K))
    (C6 : Cal P w K mg base "_law_alike" 3 ["_law_found", "_law_due"] (spAlike K 2)) (C7 : Cal P w K mg base "_law_alike" 4 ["_law_found", "_law_due"] (spAlike K 3))
    (C8 : Cal P w K mg base "pours" 6 ["family"] (spPours K)) (C9 : Cal P w K mg base "poured" 6 ["family"] (spPoured K)) (C10 : Cal P w K mg base "moves" 6 ["family"] (spMoves K))
    (C11 : Cal P w K mg base "pour" 6 ["family", "one", "other"] (spPour K)) : FnOk P w K mg base CX0 7 f fd ["_law_script"] (spLaw K) := by
  obtain ⟨f1, fd1, G1, g1, k1, b1⟩ := C1
  obtain ⟨f2, fd2, G2, g2, k2, b2⟩ := C2
  obtain ⟨f3, fd3, G3, g3, k3, b3⟩ := C3
  obtain ⟨f4, fd4, G4, g4, k4, b4⟩ := C4
  obtain ⟨f5, fd5, G5, g5, k5, b5⟩ := C5
  obtain ⟨f6, fd6, G6, g6, k6, b6⟩ := C6
  obtain ⟨f7, fd7, G7, g7, k7, b7⟩ := C7
  obtain ⟨f8, fd8, G8, g8, k8, b8⟩ := C8
  obtain ⟨f9, fd9, G9, g9, k9, b9⟩ := C9
  obtain ⟨f10, fd10, G10, g10, k10, b10⟩ := C10
  obtain ⟨f11, fd11, G11, g11, k11, b11⟩ := C11
  refine F.ok scLaw (fun vs H Q E h => ?_) (fun cdv A outer s H vs Q E hr h => ?_)
  · obtain ⟨a, ns, rfl, _⟩ := h
    rfl
  · obtain ⟨sc, ns, rfl, hsc, q⟩ := h
    refine ⟨_, pss_cons (ps_set (i := 1) scLaw.nd rfl (.inl rfl) (pe_lst (pa_cons (pv 0) (pa_cons pe_int (pa_cons pe_int (pa_cons pe_int pa_nil))))))
      (pss_cons (ps_set (i := 2) scLaw.nd rfl (.inl rfl) (pe_call G2 (hr.mono (by decide)) (by rfl) g2 k2 b2 .nil pass0 (pa_cons (pv 1) (pa_cons
          (pe_call G1 (hr.mono (by decide)) (by rfl) g1 k1 b1 .nil pass0 (pa_cons (pv 1) (pa_cons (pe_lst (pa_cons pe_int (pa_cons pe_int pa_nil))) pa_nil))) pa_nil))))
      (pss_cons (ps_set (i := 3) scLaw.nd rfl (.inl rfl) (pe_call G3 (hr.mono (by decide)) (by rfl) g3 k3 b3 .nil pass0 (pa_cons (pv 2) pa_nil)))
      (pss_cons (ps_if (PW.pt (pw_or
            (pt_not (pt_val (pe_call G6 (hr.mono (by decide)) (by rfl) g6 k6 b6 .nil pass0 (pa_cons (pe_call G8 hr (by rfl) g8 k8 b8 .nil pass0 (pa_cons (pv 2) pa_nil)) (pa_cons (pe_callTy call_tuple_of (by rfl) B.tuple (by decide +kernel) (pa_cons (pv 3) pa_nil)) pa_nil)))))
          (pw_or
            (pt_not (pt_val (pe_call G7 (hr.mono (by decide)) (by rfl) g7 k7 b7 .nil pass0 (pa_cons (pe_call G9 hr (by rfl) g9 k9 b9 .nil pass0 (pa_cons (pv 2) pa_nil)) (pa_cons (pe_call G5 (hr.mono (by decide)) (by rfl) g5 k5 b5 .nil pass0 (pa_cons (pv 2) pa_nil)) pa_nil)))))
          (pw_or1 (pt_cmpR op_ne (pe_ix ix_tup (pe_call G10 hr (by rfl) g10 k10 b10 .nil pass0 (pa_cons (pv 2) pa_nil)) pe_int (fun _ _ => rfl)) (pe_callB call_len_seq (by rfl) B.len PySem.boot_len (pa_cons (pv 3) pa_nil)) (nomark _)))))) pss_never pss_nil)
      (pss_cons (ps_if (pt_cmpR (op_eqD hr.units) (pv 3) (pe_lst pa_nil) (nomark _))
          (pss_one (ps_ret (pe_cmpR op_eq (pe_callB call_len_seq (by rfl) B.len PySem.boot_len (pa_cons (pv 2) pa_nil)) pe_int (nomark _)))) pss_nil)
      (pss_cons (ps_asg (pe_call G1 (hr.mono (by decide)) (by rfl) g1 k1 b1 .nil pass0 (pa_cons (pv 1) (pa_cons (pv 3) pa_nil))) (pg_tup (n := 2) rfl (pgs_cons (pg_name (i := 4) scLaw.nd rfl (.inl rfl)) (pgs_cons (pg_name (i := 5) scLaw.nd rfl (.inl rfl)) pgs_nil))))
      (pss_cons (ps_set (i := 6) scLaw.nd rfl (.inl rfl) (pe_call G4 (hr.mono (by decide)) (by rfl) g4 k4 b4 .nil pass0 (pa_cons (pv 2) (pa_cons (pv 4) (pa_cons (pv 5) pa_nil)))))
      (pss_one (ps_ret (pe_and
          (pe_call G6 (hr.mono (by decide)) (by rfl) g6 k6 b6 .nil pass0 (pa_cons (pe_call G11 hr (by rfl) g11 k11 b11 .nil pass0 (pa_cons (pv 2) (pa_cons (pv 4) (pa_cons (pv 5) pa_nil)))) (pa_cons (pv 6) pa_nil)))
        (pe_and
          (pe_call G6 (hr.mono (by decide)) (by rfl) g6 k6 b6 .nil pass0 (pa_cons (pe_call G11 hr (by rfl) g11 k11 b11 .nil pass0 (pa_cons (pv 2) (pa_cons (pv 5) (pa_cons (pv 4) pa_nil)))) (pa_cons (pv 6) pa_nil)))
        (pe_one (pe_cmpR (op_inD (units65 hr)) (pv 6) (pe_call G5 (hr.mono (by decide)) (by rfl) g5 k5 b5 .nil pass0 (pa_cons (pv 2) pa_nil)) rfl)))))))))))), ?_⟩
    -- the row, the family
    refine ⟨.ref sc, rfl, by show 4 ≤ sizeLine; decide, fun row nrow => ?_⟩
    have s1 := sameU (o := .lst [.ref sc, .int 0, .int 5203, .int 0]) nrow
    have r1 : RowAt K (upd H row (.lst [.ref sc, .int 0, .int 5203, .int 0])) row := ⟨sc, ns, 0, 5203, 0, upd_same, hsc.same s1, by decide, by decide, by decide⟩
    generalize upd H row (.lst [.ref sc, .int 0, .int 5203, .int 0]) = H1 at s1 r1
    refine ⟨.ref row, rfl, .ref row, rfl, by show 2 ≤ sizeLine; decide, fun t nt => ?_⟩
    have htr : t ≠ row := fun e => by
      obtain ⟨l, hl⟩ := r1.lst
      rw [e, hl] at nt
      cases nt
    refine ⟨row, t, [.int 6, .int 14], rfl, r1.same (sameU nt), htr, upd_same, by show 0 < 2; decide, by show 2 ≤ 1000; decide, fun v H2 hv _ r2 _ => ?_⟩
    obtain ⟨m, rfl, hm1, hm2⟩ : ∃ m : Nat, v = .int (m : Int) ∧ 2 ≤ m ∧ m ≤ 14 := by
      rcases List.mem_cons.mp hv with e | hv
      · exact ⟨6, e, by decide, by decide⟩
      · exact ⟨14, List.mem_singleton.mp hv, by decide, by decide⟩
    refine ⟨row, m, rfl, r2, hm1, hm2, fun u n Fm H3 hF _ r3 hu => ?_⟩
    have hfew := pairsM_few hF
    have hfm := hF.tree.few
    have hmost := hF.most
    -- due
    refine ⟨u, rfl, u, Fm, n, rfl, hu, hF, fun D ds H4 s4 nD hD hds => ?_⟩
    have r4 := r3.same s4
    have u4 := hu.same s4
    have hDr : D ≠ row := fun e => by
      obtain ⟨l, hl⟩ := r3.lst
      rw [e, hl] at nD
      cases nD
    have hdl : ds.length = (pairsM Fm).length := pr_len hds
    -- pours
    refine ⟨u, rfl, u, Fm, n, rfl, u4, hF, fun p5 xs5 H5 s5 hp5 hx5 => ?_⟩
    refine ⟨.ref D, rfl, D, ds, rfl, .inl ⟨.inl (.inl (s5 _ _ hD)), fun t6 nt6 => ?_⟩⟩
    have s6 := sameU (o := .tup ds) nt6
    refine ⟨_, _, rfl, alk_Ps (seqT s6 hp5) (.inl (.inl upd_same)) (pr_imp (fun _ _ h => h.same s6) hx5) (pr_imp (fun _ _ h => h.same (s5.trans s6)) hds) (by omega), fun H7 s7 => ⟨true, rfl, iteF ?_⟩⟩
    have s47 := s5.trans (s6.trans s7)
    -- poured
    refine ⟨u, rfl, u, Fm, n, rfl, u4.same s47, hF, fun p8 xs8 H8 s8 hp8 hx8 => ?_⟩
    refine ⟨u, rfl, u, Fm, n, rfl, u4.same (s47.trans s8), hF, fun p9 xs9 H9 s9 hp9 hx9 => ?_⟩
    refine ⟨_, _, rfl, alk_Fs (s9.seq hp8) hp9 (pr_imp (fun _ _ h => h.same s9) hx8) hx9 (by rw [downs_len]; omega) (fun G hG => ?_), fun H10 s10 => ⟨true, rfl, iteF ?_⟩⟩
    · obtain ⟨p, _, rfl⟩ := mem_downs.mp hG
      exact pour_few hF _ _
    have s410 := s47.trans (s8.trans (s9.trans s10))
    -- moves
    refine ⟨u, rfl, u, Fm, n, rfl, u4.same s410, hF, fun p11 z11 H11 s11 hp11 => ?_⟩
    have s411 := s410.trans s11
    refine ⟨p11, _, 0, _, rfl, rfl, hp11, rfl, .ref D, rfl, D, ds, rfl, .inl (.inl (.inl (s411 _ _ hD))), rfl, false, ?_, iteF ?_⟩
    · rw [hdl, decide_eq_true rfl]
      rfl
    -- due == []
    refine ⟨.ref D, rfl, by decide, fun e12 ne12 => ?_⟩
    have s12 := s411.trans (sameU (o := .lst []) ne12)
    have e12' : (upd H11 e12 (.lst [])) e12 = some (.lst []) := upd_same
    show _
    generalize upd H11 e12 (.lst []) = H12 at s12 e12'
    have hds12 := pr_imp (fun _ _ (h : IsP K H4 _ _) => h.same s12) hds
    refine ⟨.list ((pairsM Fm).map dP), .list [], .lst (.inl (.inl (s12 _ _ hD))) (dp_pairs hds12), .lst (.inl (.inl e12')) .nil, shaped_pairs _, shaped_nilL, (pairsM Fm).isEmpty, ?_, ?_⟩
    · rw [eqv_nilL]
      cases pairsM Fm <;> rfl
    by_cases h0 : pairsM Fm = []
    · have e0 : (pairsM Fm).isEmpty = true := by rw [h0]; rfl
      rw [e0]
      obtain ⟨a, xs, rfl, hS, hP⟩ := u4
      have h1 := one_left hF.tree h0 (by omega)
      refine iteT ⟨.ref a, rfl, a, xs, rfl, .inr (seqT s12 hS), rfl, ?_⟩
      show Q (V.bl (decide (V.int (xs.length : Int) = V.int 1))) H12
      have e1 : V.int (xs.length : Int) = V.int 1 := by rw [pr_len hP, h1]; rfl
      rw [decide_eq_true e1]
      exact q _
    have e0 : (pairsM Fm).isEmpty = false := by
      cases e : pairsM Fm with
      | nil => exact absurd e h0
      | cons _ _ => rfl
    rw [e0]
    have hpos : 0 < ds.length := by
      rw [hdl]
      exact List.length_pos_iff.mpr h0
    have u12 := u4.same s12
    refine iteF ⟨.ref row, rfl, .ref D, rfl, row, D, ds, rfl, r4.same s12, hDr, s12 _ _ hD, hpos, by omega, fun v H13 hv but13 r13 k13 => ?_⟩
    obtain ⟨l, hl⟩ := (r4.same s12).lst
    have u13 := but13.isF hl u12
    obtain ⟨⟨i, j⟩, hij, c, rfl, hc⟩ := pr_mem hds12 hv
    obtain ⟨hlt, hj, hsh⟩ := mem_pairsM.mp hij
    have hi : i < Fm.length := by omega
    refine ⟨c, _, rfl, but13.seqT hl hc, rfl, _, _, rfl, _, _, rfl, rfl, ?_⟩
    -- there
    refine ⟨u, rfl, .int (i : Int), rfl, .int (j : Int), rfl, u, Fm, n, i, j, rfl, u13, hF, hi, hj, fun t H14 s14 ht => ?_⟩
    have hpf := pour_few hF i j
    have u14 := u13.same s14
    refine ⟨u, rfl, .int (i : Int), rfl, .int (j : Int), rfl, u, Fm, n, i, j, rfl, u14, hF, hi, hj, by omega, hsh, fun p15 H15 s15 hp15 => ?_⟩
    refine ⟨t, rfl, p15, t, rfl, alk_F hp15 (ht.same s15) hpf, fun H16 s16 => ⟨true, rfl, iteT ?_⟩⟩
    have s1416 := s15.trans s16
    refine ⟨u, rfl, .int (j : Int), rfl, .int (i : Int), rfl, u, Fm, n, j, i, rfl, u14.same s1416, hF, hj, hi, by omega, by obtain ⟨x, h1, h2⟩ := hsh; exact ⟨x, h2, h1⟩, fun p17 H17 s17 hp17 => ?_⟩
    rw [pourM_comm] at hp17
    refine ⟨t, rfl, p17, t, rfl, alk_F hp17 (ht.same (s1416.trans s17)) hpf, fun H18 s18 => ⟨true, rfl, iteT ?_⟩⟩
    have s1418 := s1416.trans (s17.trans s18)
    refine ⟨t, rfl, u, rfl, u, Fm, n, rfl, u14.same s1418, hF, fun p19 xs19 H19 s19 hp19 hx19 => ?_⟩
    refine ⟨dF (pourM Fm i j), (downsM Fm).map dF, (ht.same (s1418.trans s19)).dp, .lst hp19 (dp_fams hx19), shaped_dF _, shaped_fams _, ?_⟩
    have hin : (((downsM Fm).map dF).any fun z => PyData.eqv z (dF (pourM Fm i j))) = true := by
      rw [List.any_eq_true]
      exact ⟨_, List.mem_map.mpr ⟨_, mem_downs.mpr ⟨(i, j), hij, rfl⟩, rfl⟩, by rw [eqv_dF, decide_eq_true rfl]⟩
    rw [hin]
    exact q _
end
end Sb

/-! SbHead -/
namespace Sb
open PySem PySem.Spec PyProof.Rows L2 SB
/-! ### what the top has written; the law's own head -/
/-- a def of the top as K holds it -/
def DefAt (K : PySem.W.Frag) (x : Str) (st : Stmt) : Prop := ∃ (f : Addr) (oc : Value) (od an : Option Addr) (sl : Array (Option Value)) (kV dc pm cd ct : Value), PySem.W.nsIn K mainGlobals x = some (some (.ref f)) ∧
  K.lookup f = some ⟨oc, od, .func (PySem.W.fnOf x x (defArgs st) (defBody st) (defScope st) .none kV dc pm an cd ct), sl⟩ ∧ PySem.W.codeIn K cd x = true ∧ PySem.W.keepIn K (.ref f) = true
theorem at_mk {K : PySem.W.Frag} {x : Str} {st : Stmt} {f : Addr} {oc : Value} {od an : Option Addr} {sl : Array (Option Value)} {kV dc pm cd ct : Value} (a : PySem.W.nsIn K mainGlobals x = some (some (.ref f)))
    (l : K.lookup f = some ⟨oc, od, .func (PySem.W.fnOf x x (defArgs st) (defBody st) (defScope st) .none kV dc pm an cd ct), sl⟩) (c : PySem.W.codeIn K cd x = true) (k : PySem.W.keepIn K (.ref f) = true) : DefAt K x st :=
  ⟨f, oc, od, an, sl, kV, dc, pm, cd, ct, a, l, c, k⟩
/-- .. as its callers take it -/
def Got (K : PySem.W.Frag) (mg : Str → Option Value) (x : Str) (st : Stmt) (ps : List Str) : Prop := ∃ (f : Addr) (fd : FuncData), Fun K x x st f fd ∧ mg x = some (.ref f) ∧ Binds K fd ps []

theorem all_mk {l : PySem.W.OpenLaw} {w : World} {K : PySem.W.Frag} {h : Heap} {mg : Str → Option Value} {fa : Addr} {t1 t2 : Tok} (X : K.In h) (G : h.Ns mainGlobals mg) (hfa : mg "law" = some (.ref fa))
    (D_is_int : DefAt K "is_int" sIsInt)
    (D_is_in : DefAt K "is_in" sIsIn)
    (D_is_rising : DefAt K "is_rising" sRising)
    (D_is_bag : DefAt K "is_bag" sIsBag)
    (D_need_bags : DefAt K "need_bags" sNeedBags)
    (D_size_of : DefAt K "size_of" sSize)
    (D_shared_by : DefAt K "shared_by" sShared)
    (D_homes_of : DefAt K "homes_of" sHomes)
    (D_reached_from : DefAt K "reached_from" sReached)
    (D_bar_of : DefAt K "bar_of" sBar)
    (D_need_family : DefAt K "need_family" sNeedFam)
    (D_poured_at : DefAt K "poured_at" sPouredAt)
    (D_pairs_of : DefAt K "pairs_of" sPairs)
    (D_pours : DefAt K "pours" sPours)
    (D_pour : DefAt K "pour" sPour)
    (D_part_number : DefAt K "part_number" sPartNo)
    (D_moves : DefAt K "moves" sMoves)
    (D_poured : DefAt K "poured" sPoured)
    (D__law_taken : DefAt K "_law_taken" sTaken)
    (D__law_pick : DefAt K "_law_pick" sPick)
    (D__law_mixed : DefAt K "_law_mixed" sMixed)
    (D__law_named : DefAt K "_law_named" sNamed)
    (D__law_family : DefAt K "_law_family" sFamily)
    (D__law_pours : DefAt K "_law_pours" sLPours)
    (D__law_pour : DefAt K "_law_pour" sLPour)
    (D__law_downs : DefAt K "_law_downs" sDowns)
    (D__law_alike : DefAt K "_law_alike" sAlike)
    (D_law : DefAt K "law" sLaw)
    (vB : PySem.W.nsIn K mainGlobals "MOST_BEADS" = some (some (.int 60 t1))) (vL : PySem.W.nsIn K mainGlobals "MOST_LISTED" = some (some (.int 500 t2)))
    (z_isinstance : PySem.W.nsIn K mainGlobals "isinstance" = some none)
    (z_int : PySem.W.nsIn K mainGlobals "int" = some none)
    (z_bool : PySem.W.nsIn K mainGlobals "bool" = some none)
    (z_all : PySem.W.nsIn K mainGlobals "all" = some none)
    (z_zip : PySem.W.nsIn K mainGlobals "zip" = some none)
    (z_tuple : PySem.W.nsIn K mainGlobals "tuple" = some none)
    (z_len : PySem.W.nsIn K mainGlobals "len" = some none)
    (z_max : PySem.W.nsIn K mainGlobals "max" = some none)
    (z_range : PySem.W.nsIn K mainGlobals "range" = some none)
    (z_enumerate : PySem.W.nsIn K mainGlobals "enumerate" = some none)
    (z_sum : PySem.W.nsIn K mainGlobals "sum" = some none)
    (z_sorted : PySem.W.nsIn K mainGlobals "sorted" = some none)
    (z_list : PySem.W.nsIn K mainGlobals "list" = some none)
    (z_str : PySem.W.nsIn K mainGlobals "str" = some none)
    (z_set : PySem.W.nsIn K mainGlobals "set" = some none)
    : ∃ fd : FuncData, (∀ (s : Shared) (v : Value), BindsTo s fd ⟨[v], []⟩ [("_law_script", v)]) ∧ ∀ base : Heap, K.In base → base.Ns mainGlobals mg → FnOk l.prog w K mg base CX0 7 fa fd ["_law_script"] (spLaw K) := by
  have gB := PySem.W.mg_of X G vB
  have gL := PySem.W.mg_of X G vL
  have B : Blt mg := ⟨PySem.W.mg_none_of X G z_isinstance, PySem.W.mg_none_of X G z_int, PySem.W.mg_none_of X G z_bool, PySem.W.mg_none_of X G z_all, PySem.W.mg_none_of X G z_zip, PySem.W.mg_none_of X G z_tuple, PySem.W.mg_none_of X G z_len, PySem.W.mg_none_of X G z_max, PySem.W.mg_none_of X G z_range, PySem.W.mg_none_of X G z_enumerate, PySem.W.mg_none_of X G z_sum, PySem.W.mg_none_of X G z_sorted, PySem.W.mg_none_of X G z_list, PySem.W.mg_none_of X G z_str, PySem.W.mg_none_of X G z_set⟩
  obtain ⟨f_is_int, fd_is_int, F_is_int, g_is_int, b_is_int⟩ : Got K mg "is_int" sIsInt ["value"] := by
    obtain ⟨f, oc, od, an, sl, kV, dc, pm, cd, ct, a, l, c, k⟩ := D_is_int
    have F := fun_mk (st := sIsInt) l c k
    exact ⟨f, _, F, PySem.W.mg_of X G a, F.binds (ps := ["value"]) fun _ _ _ _ _ _ us hl => match us, hl with | [_], _ => rfl⟩
  obtain ⟨f_is_in, fd_is_in, F_is_in, g_is_in, b_is_in⟩ : Got K mg "is_in" sIsIn ["value", "least", "most"] := by
    obtain ⟨f, oc, od, an, sl, kV, dc, pm, cd, ct, a, l, c, k⟩ := D_is_in
    have F := fun_mk (st := sIsIn) l c k
    exact ⟨f, _, F, PySem.W.mg_of X G a, F.binds (ps := ["value", "least", "most"]) fun _ _ _ _ _ _ us hl => match us, hl with | [_, _, _], _ => rfl⟩
  obtain ⟨f_is_rising, fd_is_rising, F_is_rising, g_is_rising, b_is_rising⟩ : Got K mg "is_rising" sRising ["value"] := by
    obtain ⟨f, oc, od, an, sl, kV, dc, pm, cd, ct, a, l, c, k⟩ := D_is_rising
    have F := fun_mk (st := sRising) l c k
    exact ⟨f, _, F, PySem.W.mg_of X G a, F.binds (ps := ["value"]) fun _ _ _ _ _ _ us hl => match us, hl with | [_], _ => rfl⟩
  obtain ⟨f_is_bag, fd_is_bag, F_is_bag, g_is_bag, b_is_bag⟩ : Got K mg "is_bag" sIsBag ["value"] := by
    obtain ⟨f, oc, od, an, sl, kV, dc, pm, cd, ct, a, l, c, k⟩ := D_is_bag
    have F := fun_mk (st := sIsBag) l c k
    exact ⟨f, _, F, PySem.W.mg_of X G a, F.binds (ps := ["value"]) fun _ _ _ _ _ _ us hl => match us, hl with | [_], _ => rfl⟩
  obtain ⟨f_need_bags, fd_need_bags, F_need_bags, g_need_bags, b_need_bags⟩ : Got K mg "need_bags" sNeedBags ["value"] := by
    obtain ⟨f, oc, od, an, sl, kV, dc, pm, cd, ct, a, l, c, k⟩ := D_need_bags
    have F := fun_mk (st := sNeedBags) l c k
    exact ⟨f, _, F, PySem.W.mg_of X G a, F.binds (ps := ["value"]) fun _ _ _ _ _ _ us hl => match us, hl with | [_], _ => rfl⟩
  obtain ⟨f_size_of, fd_size_of, F_size_of, g_size_of, b_size_of⟩ : Got K mg "size_of" sSize ["bags"] := by
    obtain ⟨f, oc, od, an, sl, kV, dc, pm, cd, ct, a, l, c, k⟩ := D_size_of
    have F := fun_mk (st := sSize) l c k
    exact ⟨f, _, F, PySem.W.mg_of X G a, F.binds (ps := ["bags"]) fun _ _ _ _ _ _ us hl => match us, hl with | [_], _ => rfl⟩
  obtain ⟨f_shared_by, fd_shared_by, F_shared_by, g_shared_by, b_shared_by⟩ : Got K mg "shared_by" sShared ["one", "other"] := by
    obtain ⟨f, oc, od, an, sl, kV, dc, pm, cd, ct, a, l, c, k⟩ := D_shared_by
    have F := fun_mk (st := sShared) l c k
    exact ⟨f, _, F, PySem.W.mg_of X G a, F.binds (ps := ["one", "other"]) fun _ _ _ _ _ _ us hl => match us, hl with | [_, _], _ => rfl⟩
  obtain ⟨f_homes_of, fd_homes_of, F_homes_of, g_homes_of, b_homes_of⟩ : Got K mg "homes_of" sHomes ["bags"] := by
    obtain ⟨f, oc, od, an, sl, kV, dc, pm, cd, ct, a, l, c, k⟩ := D_homes_of
    have F := fun_mk (st := sHomes) l c k
    exact ⟨f, _, F, PySem.W.mg_of X G a, F.binds (ps := ["bags"]) fun _ _ _ _ _ _ us hl => match us, hl with | [_], _ => rfl⟩
  obtain ⟨f_reached_from, fd_reached_from, F_reached_from, g_reached_from, b_reached_from⟩ : Got K mg "reached_from" sReached ["bags", "homes", "first"] := by
    obtain ⟨f, oc, od, an, sl, kV, dc, pm, cd, ct, a, l, c, k⟩ := D_reached_from
    have F := fun_mk (st := sReached) l c k
    exact ⟨f, _, F, PySem.W.mg_of X G a, F.binds (ps := ["bags", "homes", "first"]) fun _ _ _ _ _ _ us hl => match us, hl with | [_, _, _], _ => rfl⟩
  obtain ⟨f_bar_of, fd_bar_of, F_bar_of, g_bar_of, b_bar_of⟩ : Got K mg "bar_of" sBar ["bags"] := by
    obtain ⟨f, oc, od, an, sl, kV, dc, pm, cd, ct, a, l, c, k⟩ := D_bar_of
    have F := fun_mk (st := sBar) l c k
    exact ⟨f, _, F, PySem.W.mg_of X G a, F.binds (ps := ["bags"]) fun _ _ _ _ _ _ us hl => match us, hl with | [_], _ => rfl⟩
  obtain ⟨f_need_family, fd_need_family, F_need_family, g_need_family, b_need_family⟩ : Got K mg "need_family" sNeedFam ["value"] := by
    obtain ⟨f, oc, od, an, sl, kV, dc, pm, cd, ct, a, l, c, k⟩ := D_need_family
    have F := fun_mk (st := sNeedFam) l c k
    exact ⟨f, _, F, PySem.W.mg_of X G a, F.binds (ps := ["value"]) fun _ _ _ _ _ _ us hl => match us, hl with | [_], _ => rfl⟩
  obtain ⟨f_poured_at, fd_poured_at, F_poured_at, g_poured_at, b_poured_at⟩ : Got K mg "poured_at" sPouredAt ["family", "one", "other"] := by
    obtain ⟨f, oc, od, an, sl, kV, dc, pm, cd, ct, a, l, c, k⟩ := D_poured_at
    have F := fun_mk (st := sPouredAt) l c k
    exact ⟨f, _, F, PySem.W.mg_of X G a, F.binds (ps := ["family", "one", "other"]) fun _ _ _ _ _ _ us hl => match us, hl with | [_, _, _], _ => rfl⟩
  obtain ⟨f_pairs_of, fd_pairs_of, F_pairs_of, g_pairs_of, b_pairs_of⟩ : Got K mg "pairs_of" sPairs ["family"] := by
    obtain ⟨f, oc, od, an, sl, kV, dc, pm, cd, ct, a, l, c, k⟩ := D_pairs_of
    have F := fun_mk (st := sPairs) l c k
    exact ⟨f, _, F, PySem.W.mg_of X G a, F.binds (ps := ["family"]) fun _ _ _ _ _ _ us hl => match us, hl with | [_], _ => rfl⟩
  obtain ⟨f_pours, fd_pours, F_pours, g_pours, b_pours⟩ : Got K mg "pours" sPours ["family"] := by
    obtain ⟨f, oc, od, an, sl, kV, dc, pm, cd, ct, a, l, c, k⟩ := D_pours
    have F := fun_mk (st := sPours) l c k
    exact ⟨f, _, F, PySem.W.mg_of X G a, F.binds (ps := ["family"]) fun _ _ _ _ _ _ us hl => match us, hl with | [_], _ => rfl⟩
  obtain ⟨f_pour, fd_pour, F_pour, g_pour, b_pour⟩ : Got K mg "pour" sPour ["family", "one", "other"] := by
    obtain ⟨f, oc, od, an, sl, kV, dc, pm, cd, ct, a, l, c, k⟩ := D_pour
    have F := fun_mk (st := sPour) l c k
    exact ⟨f, _, F, PySem.W.mg_of X G a, F.binds (ps := ["family", "one", "other"]) fun _ _ _ _ _ _ us hl => match us, hl with | [_, _, _], _ => rfl⟩
  obtain ⟨f_part_number, fd_part_number, F_part_number, g_part_number, b_part_number⟩ : Got K mg "part_number" sPartNo ["family"] := by
    obtain ⟨f, oc, od, an, sl, kV, dc, pm, cd, ct, a, l, c, k⟩ := D_part_number
    have F := fun_mk (st := sPartNo) l c k
    exact ⟨f, _, F, PySem.W.mg_of X G a, F.binds (ps := ["family"]) fun _ _ _ _ _ _ us hl => match us, hl with | [_], _ => rfl⟩
  obtain ⟨f_moves, fd_moves, F_moves, g_moves, b_moves⟩ : Got K mg "moves" sMoves ["family"] := by
    obtain ⟨f, oc, od, an, sl, kV, dc, pm, cd, ct, a, l, c, k⟩ := D_moves
    have F := fun_mk (st := sMoves) l c k
    exact ⟨f, _, F, PySem.W.mg_of X G a, F.binds (ps := ["family"]) fun _ _ _ _ _ _ us hl => match us, hl with | [_], _ => rfl⟩
  obtain ⟨f_poured, fd_poured, F_poured, g_poured, b_poured⟩ : Got K mg "poured" sPoured ["family"] := by
    obtain ⟨f, oc, od, an, sl, kV, dc, pm, cd, ct, a, l, c, k⟩ := D_poured
    have F := fun_mk (st := sPoured) l c k
    exact ⟨f, _, F, PySem.W.mg_of X G a, F.binds (ps := ["family"]) fun _ _ _ _ _ _ us hl => match us, hl with | [_], _ => rfl⟩
  obtain ⟨f__law_taken, fd__law_taken, F__law_taken, g__law_taken, b__law_taken⟩ : Got K mg "_law_taken" sTaken ["_law_row", "_law_many"] := by
    obtain ⟨f, oc, od, an, sl, kV, dc, pm, cd, ct, a, l, c, k⟩ := D__law_taken
    have F := fun_mk (st := sTaken) l c k
    exact ⟨f, _, F, PySem.W.mg_of X G a, F.binds (ps := ["_law_row", "_law_many"]) fun _ _ _ _ _ _ us hl => match us, hl with | [_, _], _ => rfl⟩
  obtain ⟨f__law_pick, fd__law_pick, F__law_pick, g__law_pick, b__law_pick⟩ : Got K mg "_law_pick" sPick ["_law_row", "_law_things"] := by
    obtain ⟨f, oc, od, an, sl, kV, dc, pm, cd, ct, a, l, c, k⟩ := D__law_pick
    have F := fun_mk (st := sPick) l c k
    exact ⟨f, _, F, PySem.W.mg_of X G a, F.binds (ps := ["_law_row", "_law_things"]) fun _ _ _ _ _ _ us hl => match us, hl with | [_, _], _ => rfl⟩
  obtain ⟨f__law_mixed, fd__law_mixed, F__law_mixed, g__law_mixed, b__law_mixed⟩ : Got K mg "_law_mixed" sMixed ["_law_row", "_law_some"] := by
    obtain ⟨f, oc, od, an, sl, kV, dc, pm, cd, ct, a, l, c, k⟩ := D__law_mixed
    have F := fun_mk (st := sMixed) l c k
    exact ⟨f, _, F, PySem.W.mg_of X G a, F.binds (ps := ["_law_row", "_law_some"]) fun _ _ _ _ _ _ us hl => match us, hl with | [_, _], _ => rfl⟩
  obtain ⟨f__law_named, fd__law_named, F__law_named, g__law_named, b__law_named⟩ : Got K mg "_law_named" sNamed ["_law_bags", "_law_names"] := by
    obtain ⟨f, oc, od, an, sl, kV, dc, pm, cd, ct, a, l, c, k⟩ := D__law_named
    have F := fun_mk (st := sNamed) l c k
    exact ⟨f, _, F, PySem.W.mg_of X G a, F.binds (ps := ["_law_bags", "_law_names"]) fun _ _ _ _ _ _ us hl => match us, hl with | [_, _], _ => rfl⟩
  obtain ⟨f__law_family, fd__law_family, F__law_family, g__law_family, b__law_family⟩ : Got K mg "_law_family" sFamily ["_law_row", "_law_most"] := by
    obtain ⟨f, oc, od, an, sl, kV, dc, pm, cd, ct, a, l, c, k⟩ := D__law_family
    have F := fun_mk (st := sFamily) l c k
    exact ⟨f, _, F, PySem.W.mg_of X G a, F.binds (ps := ["_law_row", "_law_most"]) fun _ _ _ _ _ _ us hl => match us, hl with | [_, _], _ => rfl⟩
  obtain ⟨f__law_pours, fd__law_pours, F__law_pours, g__law_pours, b__law_pours⟩ : Got K mg "_law_pours" sLPours ["_law_family_here"] := by
    obtain ⟨f, oc, od, an, sl, kV, dc, pm, cd, ct, a, l, c, k⟩ := D__law_pours
    have F := fun_mk (st := sLPours) l c k
    exact ⟨f, _, F, PySem.W.mg_of X G a, F.binds (ps := ["_law_family_here"]) fun _ _ _ _ _ _ us hl => match us, hl with | [_], _ => rfl⟩
  obtain ⟨f__law_pour, fd__law_pour, F__law_pour, g__law_pour, b__law_pour⟩ : Got K mg "_law_pour" sLPour ["_law_family_here", "_law_one", "_law_other"] := by
    obtain ⟨f, oc, od, an, sl, kV, dc, pm, cd, ct, a, l, c, k⟩ := D__law_pour
    have F := fun_mk (st := sLPour) l c k
    exact ⟨f, _, F, PySem.W.mg_of X G a, F.binds (ps := ["_law_family_here", "_law_one", "_law_other"]) fun _ _ _ _ _ _ us hl => match us, hl with | [_, _, _], _ => rfl⟩
  obtain ⟨f__law_downs, fd__law_downs, F__law_downs, g__law_downs, b__law_downs⟩ : Got K mg "_law_downs" sDowns ["_law_family_here"] := by
    obtain ⟨f, oc, od, an, sl, kV, dc, pm, cd, ct, a, l, c, k⟩ := D__law_downs
    have F := fun_mk (st := sDowns) l c k
    exact ⟨f, _, F, PySem.W.mg_of X G a, F.binds (ps := ["_law_family_here"]) fun _ _ _ _ _ _ us hl => match us, hl with | [_], _ => rfl⟩
  obtain ⟨f__law_alike, fd__law_alike, F__law_alike, g__law_alike, b__law_alike⟩ : Got K mg "_law_alike" sAlike ["_law_found", "_law_due"] := by
    obtain ⟨f, oc, od, an, sl, kV, dc, pm, cd, ct, a, l, c, k⟩ := D__law_alike
    have F := fun_mk (st := sAlike) l c k
    exact ⟨f, _, F, PySem.W.mg_of X G a, F.binds (ps := ["_law_found", "_law_due"]) fun _ _ _ _ _ _ us hl => match us, hl with | [_, _], _ => rfl⟩
  obtain ⟨f, oc, od, an, sl, kV, dc, pm, cd, ct, a, lk, c, k⟩ := D_law
  have e := hfa.symm.trans (PySem.W.mg_of X G a)
  cases e
  have F := fun_mk (st := sLaw) lk c k
  refine ⟨PySem.W.fnOf "law" "law" (defArgs sLaw) (defBody sLaw) (defScope sLaw) .none kV dc pm an cd ct, fun s v => .of_eq rfl, fun base _ _ => ?_⟩
  have C_is_int : Cal l.prog w K mg base "is_int" 1 ["value"] spIsInt := .mk' F_is_int g_is_int b_is_int (ok_isInt F_is_int B)
  have C_is_in : Cal l.prog w K mg base "is_in" 2 ["value", "least", "most"] spIsIn := .mk' F_is_in g_is_in b_is_in (ok_isIn F_is_in C_is_int)
  have C_is_rising : Cal l.prog w K mg base "is_rising" 1 ["value"] (spRising K) := .mk' F_is_rising g_is_rising b_is_rising (ok_rising F_is_rising B)
  have C_is_bag : Cal l.prog w K mg base "is_bag" 3 ["value"] (spIsBag K) := .mk' F_is_bag g_is_bag b_is_bag (ok_isBag F_is_bag B gB C_is_in C_is_rising)
  have C_need_bags : Cal l.prog w K mg base "need_bags" 4 ["value"] (spNeedBags K) := .mk' F_need_bags g_need_bags b_need_bags (ok_needBags F_need_bags B C_is_bag C_is_rising)
  have C_size_of : Cal l.prog w K mg base "size_of" 1 ["bags"] (spSize K) := .mk' F_size_of g_size_of b_size_of (ok_size F_size_of B)
  have C_shared_by : Cal l.prog w K mg base "shared_by" 1 ["one", "other"] (spShared K) := .mk' F_shared_by g_shared_by b_shared_by (ok_shared F_shared_by )
  have C_homes_of : Cal l.prog w K mg base "homes_of" 2 ["bags"] (spHomes K) := .mk' F_homes_of g_homes_of b_homes_of (ok_homes F_homes_of B C_size_of)
  have C_reached_from : Cal l.prog w K mg base "reached_from" 1 ["bags", "homes", "first"] (spReached K) := .mk' F_reached_from g_reached_from b_reached_from (ok_reached F_reached_from )
  have C_bar_of : Cal l.prog w K mg base "bar_of" 3 ["bags"] (spBar K) := .mk' F_bar_of g_bar_of b_bar_of (ok_bar F_bar_of B C_homes_of C_shared_by C_reached_from)
  have C_need_family : Cal l.prog w K mg base "need_family" 5 ["value"] (spBar K) := .mk' F_need_family g_need_family b_need_family (ok_needFam F_need_family C_need_bags C_bar_of)
  have C_poured_at : Cal l.prog w K mg base "poured_at" 1 ["family", "one", "other"] (spPouredAt K) := .mk' F_poured_at g_poured_at b_poured_at (ok_pouredAt F_poured_at B)
  have C_pairs_of : Cal l.prog w K mg base "pairs_of" 3 ["family"] (spPairs K) := .mk' F_pairs_of g_pairs_of b_pairs_of (ok_pairs F_pairs_of B C_homes_of)
  have C_pours : Cal l.prog w K mg base "pours" 6 ["family"] (spPours K) := .mk' F_pours g_pours b_pours (ok_pours F_pours B C_need_family C_pairs_of)
  have C_pour : Cal l.prog w K mg base "pour" 6 ["family", "one", "other"] (spPour K) := .mk' F_pour g_pour b_pour (ok_pour F_pour B C_need_family C_is_in C_shared_by C_poured_at)
  have C_part_number : Cal l.prog w K mg base "part_number" 1 ["family"] (spPartNo K) := .mk' F_part_number g_part_number b_part_number (ok_partNo F_part_number B)
  have C_moves : Cal l.prog w K mg base "moves" 6 ["family"] (spMoves K) := .mk' F_moves g_moves b_moves (ok_moves F_moves B C_need_family C_pairs_of C_part_number)
  have C_poured : Cal l.prog w K mg base "poured" 6 ["family"] (spPoured K) := .mk' F_poured g_poured b_poured (ok_poured F_poured B gL C_need_family C_pairs_of C_poured_at)
  have C__law_taken : Cal l.prog w K mg base "_law_taken" 1 ["_law_row", "_law_many"] (spTaken K) := .mk' F__law_taken g__law_taken b__law_taken (ok_taken F__law_taken B)
  have C__law_pick : Cal l.prog w K mg base "_law_pick" 2 ["_law_row", "_law_things"] (spPick K) := .mk' F__law_pick g__law_pick b__law_pick (ok_pick F__law_pick B C__law_taken)
  have C__law_mixed : Cal l.prog w K mg base "_law_mixed" 2 ["_law_row", "_law_some"] (spMixed K) := .mk' F__law_mixed g__law_mixed b__law_mixed (ok_mixed F__law_mixed B C__law_taken)
  have C__law_named : Cal l.prog w K mg base "_law_named" 1 ["_law_bags", "_law_names"] (spNamed K) := .mk' F__law_named g__law_named b__law_named (ok_named F__law_named B)
  have C__law_family : Cal l.prog w K mg base "_law_family" 3 ["_law_row", "_law_most"] (spFamily K) := .mk' F__law_family g__law_family b__law_family (ok_family F__law_family B C__law_taken C__law_pick C__law_named C__law_mixed)
  have C__law_pours : Cal l.prog w K mg base "_law_pours" 1 ["_law_family_here"] (spPairs K) := .mk' F__law_pours g__law_pours b__law_pours (ok_lpours F__law_pours B)
  have C__law_pour : Cal l.prog w K mg base "_law_pour" 1 ["_law_family_here", "_law_one", "_law_other"] (spPouredAt K) := .mk' F__law_pour g__law_pour b__law_pour (ok_lpour F__law_pour B)
  have C__law_downs : Cal l.prog w K mg base "_law_downs" 2 ["_law_family_here"] (spPoured K) := .mk' F__law_downs g__law_downs b__law_downs (ok_downs F__law_downs B C__law_pours C__law_pour)
  have C_alike2 : Cal l.prog w K mg base "_law_alike" 3 ["_law_found", "_law_due"] (spAlike K 2) := .mk' F__law_alike g__law_alike b__law_alike (ok_alike F__law_alike B g__law_alike b__law_alike 2)
  have C_alike3 : Cal l.prog w K mg base "_law_alike" 4 ["_law_found", "_law_due"] (spAlike K 3) := .mk' F__law_alike g__law_alike b__law_alike (ok_alike F__law_alike B g__law_alike b__law_alike 3)
  exact ok_law F B C__law_pick C__law_family C__law_pours C__law_pour C__law_downs C_alike2 C_alike3 C_pours C_poured C_moves C_pour
end Sb
open PySem PySem.W PyProof.Rows
set_option maxHeartbeats 0 in
theorem PySem.Challenge.cw_sharebags_k03_whole_pourings_holds : PySem.Challenge.rw_sharebags_k03_whole_pourings.Holds := by
  w_on; o_law; k_head; (case hw => w_witness2)
  k_fill
  refine L2.walk_of (l := PySem.Challenge.rw_sharebags_k03_whole_pourings) (n := 63) (k := 7) (x := "_law_script") (CX := fun _ => L2.CX0) (sp := fun w => Sb.spLaw _) rfl (by decide) rfl ⟨rfl, by decide, by decide⟩ (fun w h Y => PySem.W.kIn_of Y) ?F (fun _ _ a ns hl hO hS => ⟨a, ns, rfl, Sb.sqF_of hO hS, fun _ => rfl⟩) (fun _ _ _ _ _ h => h)
  case F =>
    intro w mg fa h KX G hmg
    refine' Sb.all_mk KX G hmg (Sb.at_mk ?a0 ?l0 ?c0 ?k0) (Sb.at_mk ?a1 ?l1 ?c1 ?k1) (Sb.at_mk ?a2 ?l2 ?c2 ?k2) (Sb.at_mk ?a3 ?l3 ?c3 ?k3) (Sb.at_mk ?a4 ?l4 ?c4 ?k4) (Sb.at_mk ?a5 ?l5 ?c5 ?k5) (Sb.at_mk ?a6 ?l6 ?c6 ?k6) (Sb.at_mk ?a7 ?l7 ?c7 ?k7) (Sb.at_mk ?a8 ?l8 ?c8 ?k8) (Sb.at_mk ?a9 ?l9 ?c9 ?k9) (Sb.at_mk ?a10 ?l10 ?c10 ?k10) (Sb.at_mk ?a11 ?l11 ?c11 ?k11) (Sb.at_mk ?a12 ?l12 ?c12 ?k12) (Sb.at_mk ?a13 ?l13 ?c13 ?k13) (Sb.at_mk ?a14 ?l14 ?c14 ?k14) (Sb.at_mk ?a15 ?l15 ?c15 ?k15) (Sb.at_mk ?a16 ?l16 ?c16 ?k16) (Sb.at_mk ?a17 ?l17 ?c17 ?k17) (Sb.at_mk ?a18 ?l18 ?c18 ?k18) (Sb.at_mk ?a19 ?l19 ?c19 ?k19) (Sb.at_mk ?a20 ?l20 ?c20 ?k20) (Sb.at_mk ?a21 ?l21 ?c21 ?k21) (Sb.at_mk ?a22 ?l22 ?c22 ?k22) (Sb.at_mk ?a23 ?l23 ?c23 ?k23) (Sb.at_mk ?a24 ?l24 ?c24 ?k24) (Sb.at_mk ?a25 ?l25 ?c25 ?k25) (Sb.at_mk ?a26 ?l26 ?c26 ?k26) (Sb.at_mk ?a27 ?l27 ?c27 ?k27) ?vB ?vL ?z0 ?z1 ?z2 ?z3 ?z4 ?z5 ?z6 ?z7 ?z8 ?z9 ?z10 ?z11 ?z12 ?z13 ?z14
    (case a0 => k_is); (case l0 => k_is); (case c0 => k_is); (case k0 => k_is); (case a1 => k_is); (case l1 => k_is); (case c1 => k_is); (case k1 => k_is)
    (case a2 => k_is); (case l2 => k_is); (case c2 => k_is); (case k2 => k_is); (case a3 => k_is); (case l3 => k_is); (case c3 => k_is); (case k3 => k_is)
    (case a4 => k_is); (case l4 => k_is); (case c4 => k_is); (case k4 => k_is); (case a5 => k_is); (case l5 => k_is); (case c5 => k_is); (case k5 => k_is)
    (case a6 => k_is); (case l6 => k_is); (case c6 => k_is); (case k6 => k_is); (case a7 => k_is); (case l7 => k_is); (case c7 => k_is); (case k7 => k_is)
    (case a8 => k_is); (case l8 => k_is); (case c8 => k_is); (case k8 => k_is); (case a9 => k_is); (case l9 => k_is); (case c9 => k_is); (case k9 => k_is)
    (case a10 => k_is); (case l10 => k_is); (case c10 => k_is); (case k10 => k_is); (case a11 => k_is); (case l11 => k_is); (case c11 => k_is); (case k11 => k_is)
    (case a12 => k_is); (case l12 => k_is); (case c12 => k_is); (case k12 => k_is); (case a13 => k_is); (case l13 => k_is); (case c13 => k_is); (case k13 => k_is)
    (case a14 => k_is); (case l14 => k_is); (case c14 => k_is); (case k14 => k_is); (case a15 => k_is); (case l15 => k_is); (case c15 => k_is); (case k15 => k_is)
    (case a16 => k_is); (case l16 => k_is); (case c16 => k_is); (case k16 => k_is); (case a17 => k_is); (case l17 => k_is); (case c17 => k_is); (case k17 => k_is)
    (case a18 => k_is); (case l18 => k_is); (case c18 => k_is); (case k18 => k_is); (case a19 => k_is); (case l19 => k_is); (case c19 => k_is); (case k19 => k_is)
    (case a20 => k_is); (case l20 => k_is); (case c20 => k_is); (case k20 => k_is); (case a21 => k_is); (case l21 => k_is); (case c21 => k_is); (case k21 => k_is)
    (case a22 => k_is); (case l22 => k_is); (case c22 => k_is); (case k22 => k_is); (case a23 => k_is); (case l23 => k_is); (case c23 => k_is); (case k23 => k_is)
    (case a24 => k_is); (case l24 => k_is); (case c24 => k_is); (case k24 => k_is); (case a25 => k_is); (case l25 => k_is); (case c25 => k_is); (case k25 => k_is)
    (case a26 => k_is); (case l26 => k_is); (case c26 => k_is); (case k26 => k_is); (case a27 => k_is); (case l27 => k_is); (case c27 => k_is); (case k27 => k_is)
    (case vB => k_is); (case vL => k_is); (case z0 => k_is); (case z1 => k_is); (case z2 => k_is); (case z3 => k_is); (case z4 => k_is); (case z5 => k_is)
    (case z6 => k_is); (case z7 => k_is); (case z8 => k_is); (case z9 => k_is); (case z10 => k_is); (case z11 => k_is); (case z12 => k_is); (case z13 => k_is)
    (case z14 => k_is)
