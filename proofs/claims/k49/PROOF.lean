import PyProof.Rows.All
import Wide.All
import OpenK.AllK
import Wide.FinOn
import HandS.ForMost
import KE.SortData
import KE.SortKeyHeap
import HandS.Evl
import HandS.TupAny
import HandS.Deep
import HandS.Style
import HandS.Conv
import HandS.Defaults
import HandS.Strs
import HandS.SetFor
import HandS.IsInst
import HandS.Walk
import KE.KDictSum
import KE.KDictCopyH
import KE.GoesMore
import KE.KDictKeyed
import HandS.Lambda
import HandS.EndTab
import HandS.SortKw
import HandS.More
import KE.KDictPairs
import KE.KItemsList
import HandS.DictTup
import HandS.ListItems
import HandS.TupLe
import HandS.TupSets
import KE.KeyNested
import PySem.Challenge.RW_offerstands_k49_whole_positions_and_move
set_option Elab.async false
set_option linter.all false
set_option maxRecDepth 100000
namespace K49
set_option autoImplicit false
/-! ## plain mathematics: sets of offers, settled sets, dated sets, positions -/

/-- a Bool relation that is a linear order -/
structure Lin {α : Type} (le : α → α → Bool) : Prop where
  total : ∀ a b, le a b = true ∨ le b a = true
  trans : ∀ a b c, le a b = true → le b c = true → le a c = true
  anti : ∀ a b, le a b = true → le b a = true → a = b

theorem Lin.refl {α : Type} {le : α → α → Bool} (h : Lin le) (a : α) : le a a = true := (h.total a a).elim id id
theorem Lin.sorted {α : Type} {le : α → α → Bool} (h : Lin le) (l : List α) : (l.mergeSort le).Pairwise (fun a b => le a b = true) :=
  List.pairwise_mergeSort (fun a b c x y => h.trans a b c x y) (fun a b => Bool.or_eq_true_iff.mpr (h.total a b)) l
/-- the one sorted list with these items -/
theorem Lin.one {α : Type} {le : α → α → Bool} (h : Lin le) {l m : List α} (p : l.Perm m) (hm : m.Pairwise (fun a b => le a b = true)) : l.mergeSort le = m :=
  List.Perm.eq_of_pairwise (le := fun a b => le a b = true) (fun a b _ _ x y => h.anti a b x y) (h.sorted l) hm ((List.mergeSort_perm l le).trans p)
theorem Lin.perm {α : Type} {le : α → α → Bool} (h : Lin le) {l m : List α} (p : l.Perm m) : l.mergeSort le = m.mergeSort le :=
  h.one (p.trans (List.mergeSort_perm m le).symm) (h.sorted m)
theorem mem_msort {α : Type} {le : α → α → Bool} {l : List α} {x : α} : x ∈ l.mergeSort le ↔ x ∈ l := (List.mergeSort_perm l le).mem_iff
theorem nodup_msort {α : Type} {le : α → α → Bool} {l : List α} (h : l.Nodup) : (l.mergeSort le).Nodup := (List.mergeSort_perm l le).nodup_iff.mpr h

/-- two lists without doubles with the same members are arrangements of each other -/
theorem perm_of_mem {α : Type} [DecidableEq α] {l m : List α} (hl : l.Nodup) (hm : m.Nodup) (h : ∀ x, x ∈ l ↔ x ∈ m) : l.Perm m := by
  rw [List.perm_iff_count]
  intro a
  rw [hl.count, hm.count]
  by_cases e : a ∈ l
  · rw [if_pos e, if_pos ((h a).mp e)]
  · rw [if_neg e, if_neg fun z => e ((h a).mpr z)]

/-! ### what lists take -/
/-- the first of a row that is in a set -/
def firstIn (r s : List Int) : Option Int := r.find? fun x => decide (x ∈ s)
/-- what lists take of a set -/
def taken (L : List (List Int)) (s : List Int) : List Int := s.filter fun x => L.any fun r => firstIn r s == some x

theorem mem_taken {L : List (List Int)} {s : List Int} {x : Int} : x ∈ taken L s ↔ x ∈ s ∧ ∃ r ∈ L, firstIn r s = some x := by
  unfold taken
  rw [List.mem_filter, List.any_eq_true]
  simp only [beq_iff_eq]
theorem firstIn_mem {r s : List Int} {x : Int} (h : firstIn r s = some x) : x ∈ s := by
  have h2 := List.find?_some (p := fun x => decide (x ∈ s)) h
  exact of_decide_eq_true h2
theorem mem_taken' {L : List (List Int)} {s : List Int} {x : Int} : x ∈ taken L s ↔ ∃ r ∈ L, firstIn r s = some x :=
  mem_taken.trans ⟨fun h => h.2, fun h => ⟨let ⟨_, _, e⟩ := h; firstIn_mem e, h⟩⟩
theorem taken_sub (L : List (List Int)) (s : List Int) : (taken L s).Sublist s := List.filter_sublist
/-- a first of a set is the first of each part that has it -/
theorem firstIn_part {s t : List Int} (hst : ∀ x ∈ t, x ∈ s) {x : Int} (hx : x ∈ t) : ∀ {r : List Int}, firstIn r s = some x → firstIn r t = some x
  | [], h => by cases h
  | y :: r, h => by
    unfold firstIn at h ⊢
    rw [List.find?_cons] at h ⊢
    by_cases e : y ∈ s
    · rw [decide_eq_true e] at h
      cases h
      rw [decide_eq_true hx]
    · rw [decide_eq_false e] at h
      rw [decide_eq_false fun z => e (hst y z)]
      exact firstIn_part hst hx h
theorem firstIn_some {s : List Int} {x : Int} (hx : x ∈ s) : ∀ {r : List Int}, x ∈ r → ∃ z, firstIn r s = some z
  | [], h => by cases h
  | y :: r, h => by
    unfold firstIn
    rw [List.find?_cons]
    by_cases e : y ∈ s
    · rw [decide_eq_true e]
      exact ⟨y, rfl⟩
    · rw [decide_eq_false e]
      rcases List.mem_cons.mp h with q | q
      · exact absurd (q ▸ hx) e
      · exact firstIn_some hx q
theorem firstIn_row {r s : List Int} {x : Int} (h : firstIn r s = some x) : x ∈ r := List.mem_of_find?_eq_some h
/-- what is taken of a set is taken of each part that has it -/
theorem taken_part {L : List (List Int)} {s t : List Int} (hst : ∀ x ∈ t, x ∈ s) {x : Int} (hx : x ∈ t) (h : x ∈ taken L s) : x ∈ taken L t := by
  obtain ⟨r, hr, e⟩ := mem_taken'.mp h
  exact mem_taken'.mpr ⟨r, hr, firstIn_part hst hx e⟩
/-- a part that has all that is taken of a set: of it no more is taken -/
theorem taken_same {L : List (List Int)} {s t : List Int} (hst : ∀ x ∈ t, x ∈ s) (hk : ∀ x ∈ taken L s, x ∈ t) {x : Int} (h : x ∈ taken L t) : x ∈ taken L s := by
  obtain ⟨r, hr, e⟩ := mem_taken'.mp h
  obtain ⟨z, hz⟩ := firstIn_some (hst x (firstIn_mem e)) (firstIn_row e)
  have hz1 : z ∈ taken L s := mem_taken'.mpr ⟨r, hr, hz⟩
  have hz2 := firstIn_part hst (hk z hz1) hz
  rw [e] at hz2
  cases hz2
  exact hz1
theorem taken_congr {L : List (List Int)} {s t : List Int} (h : ∀ x, x ∈ s ↔ x ∈ t) {x : Int} : x ∈ taken L s ↔ x ∈ taken L t :=
  ⟨fun q => taken_part (fun y hy => (h y).mpr hy) ((h x).mp (mem_taken.mp q).1) q, fun q => taken_part (fun y hy => (h y).mp hy) ((h x).mpr (mem_taken.mp q).1) q⟩

/-! ### settled sets -/
def leZ (a b : Int) : Bool := decide (a ≤ b)
theorem lin_leZ : Lin leZ := ⟨fun a b => by unfold leZ; rw [decide_eq_true_eq, decide_eq_true_eq]; omega, fun a b c => by unfold leZ; rw [decide_eq_true_eq, decide_eq_true_eq, decide_eq_true_eq]; omega,
  fun a b => by unfold leZ; rw [decide_eq_true_eq, decide_eq_true_eq]; omega⟩
/-- a set with one offer more -/
def ins (s : List Int) (x : Int) : List Int := (s ++ [x]).mergeSort leZ
theorem mem_ins {s : List Int} {x y : Int} : y ∈ ins s x ↔ y ∈ s ∨ y = x := by
  unfold ins
  rw [mem_msort, List.mem_append, List.mem_singleton]
def agreed (L1 L2 : List (List Int)) (s : List Int) : Bool := decide (taken L1 s = s) && decide (taken L2 s = s)
def wishB (L1 L2 : List (List Int)) (s : List Int) (x : Int) : Bool := !decide (x ∈ s) && (decide (x ∈ taken L1 (ins s x)) && decide (x ∈ taken L2 (ins s x)))
def wished (L1 L2 : List (List Int)) (st s : List Int) : List Int := st.filter (wishB L1 L2 s)
def settled (L1 L2 : List (List Int)) (st s : List Int) : Bool := agreed L1 L2 s && decide (wished L1 L2 st s = [])

/-- an ascending set of offers below n -/
def Asc (n : Nat) (s : List Int) : Prop := s.Pairwise (· < ·) ∧ ∀ x ∈ s, 0 ≤ x ∧ x < (n : Int)
instance (n : Nat) (s : List Int) : Decidable (Asc n s) := inferInstanceAs (Decidable (_ ∧ _))
theorem Asc.nil (n : Nat) : Asc n [] := ⟨List.Pairwise.nil, fun _ h => by cases h⟩
theorem Asc.sub {n : Nat} {s t : List Int} (h : Asc n s) (q : t.Sublist s) : Asc n t := ⟨h.1.sublist q, fun x hx => h.2 x (q.subset hx)⟩
theorem asc_nodup {s : List Int} (h : s.Pairwise (· < ·)) : s.Nodup := h.imp fun {a b} q e => by omega
/-- ascending sets with the same members are one -/
theorem asc_ext {s t : List Int} (hs : s.Pairwise (· < ·)) (ht : t.Pairwise (· < ·)) (h : ∀ x, x ∈ s ↔ x ∈ t) : s = t :=
  List.Perm.eq_of_pairwise (le := fun a b => a < b) (fun a b _ _ x y => by omega) hs ht (perm_of_mem (asc_nodup hs) (asc_nodup ht) h)
theorem le_lt {l : List Int} (h : l.Pairwise (fun a b => leZ a b = true)) (hn : l.Nodup) : l.Pairwise (· < ·) := by
  have h2 := List.pairwise_and_iff.mpr ⟨h, hn⟩
  refine h2.imp fun {a b} q => ?_
  have q1 : a ≤ b := of_decide_eq_true q.1
  have q2 : a ≠ b := q.2
  omega
theorem asc_sort {l : List Int} (hn : l.Nodup) : (l.mergeSort leZ).Pairwise (· < ·) := le_lt (lin_leZ.sorted l) (nodup_msort hn)
theorem asc_ins {n : Nat} {s : List Int} {x : Int} (h : Asc n s) (hx : x ∉ s) (h0 : 0 ≤ x ∧ x < (n : Int)) : Asc n (ins s x) := by
  refine ⟨asc_sort ?_, fun y hy => ?_⟩
  · rw [List.nodup_append]
    refine ⟨asc_nodup h.1, List.nodup_cons.mpr ⟨by simp, List.nodup_nil⟩, fun a ha b hb e => ?_⟩
    rw [List.mem_singleton] at hb
    rw [e, hb] at ha
    exact hx ha
  · rcases mem_ins.mp hy with q | q
    · exact h.2 y q
    · rw [q]; exact h0
/-- the one ascending list of a set's members and one more -/
theorem ins_one {s l : List Int} {x : Int} (hl : l.Pairwise (· < ·)) (h : ∀ y, y ∈ l ↔ y ∈ s ∨ y = x) (hs : s.Pairwise (· < ·)) (hx : x ∉ s) : ins s x = l := by
  refine asc_ext (asc_sort ?_) hl fun y => ?_
  · rw [List.nodup_append]
    refine ⟨asc_nodup hs, List.nodup_cons.mpr ⟨by simp, List.nodup_nil⟩, fun a ha b hb e => ?_⟩
    rw [List.mem_singleton] at hb
    rw [e, hb] at ha
    exact hx ha
  · exact mem_ins.trans (h y).symm
/-- the keys of a dict that was filled with the firsts, sorted, are what is taken -/
theorem taken_sort {L : List (List Int)} {s l : List Int} (hs : s.Pairwise (· < ·)) (hl : l.Nodup) (h : ∀ x, x ∈ l ↔ ∃ r ∈ L, firstIn r s = some x) : l.mergeSort leZ = taken L s :=
  asc_ext (asc_sort hl) (hs.sublist (taken_sub L s)) fun x => (mem_msort.trans (h x)).trans mem_taken'.symm

/-! ### there is a settled set (T. Fleiner) -/
section
variable (L1 L2 : List (List Int)) (st : List Int)
/-- what stands and is not refused by the one, of what is not refused by the other -/
def notRef (L : List (List Int)) (st X : List Int) : List Int := st.filter fun o => !(decide (o ∈ X) && !decide (o ∈ taken L X))
theorem mem_notRef {L : List (List Int)} {st X : List Int} {o : Int} : o ∈ notRef L st X ↔ o ∈ st ∧ (o ∈ X → o ∈ taken L X) := by
  unfold notRef
  rw [List.mem_filter]
  by_cases h1 : o ∈ X <;> by_cases h2 : o ∈ taken L X <;> simp [h1, h2]
theorem notRef_anti {L : List (List Int)} {st X Y : List Int} (h : ∀ x ∈ X, x ∈ Y) {o : Int} (ho : o ∈ notRef L st Y) : o ∈ notRef L st X := by
  obtain ⟨h1, h2⟩ := mem_notRef.mp ho
  exact mem_notRef.mpr ⟨h1, fun hx => taken_part h hx (h2 (h o hx))⟩
theorem filter_len_lt {p q : Int → Bool} : ∀ {l : List Int}, (∀ x ∈ l, q x = true → p x = true) → (∃ x ∈ l, p x = true ∧ q x = false) → (l.filter q).length < (l.filter p).length
  | [], _, ⟨_, h, _⟩ => by cases h
  | y :: l, hi, ⟨x, hx, hp, hq⟩ => by
    have hi' : ∀ x ∈ l, q x = true → p x = true := fun x hx => hi x (List.mem_cons_of_mem _ hx)
    have le : ∀ l : List Int, (∀ x ∈ l, q x = true → p x = true) → (l.filter q).length ≤ (l.filter p).length := by
      intro l
      induction l with
      | nil => intro _; exact Nat.le_refl _
      | cons a l ih =>
        intro h
        have ih' := ih fun x hx => h x (List.mem_cons_of_mem _ hx)
        rw [List.filter_cons, List.filter_cons]
        by_cases e : q a = true
        · rw [if_pos e, if_pos (h a List.mem_cons_self e)]
          simp only [List.length_cons]
          omega
        · rw [if_neg e]
          split
          · simp only [List.length_cons]; omega
          · exact ih'
    rcases List.mem_cons.mp hx with e | hx'
    · subst e
      rw [List.filter_cons, List.filter_cons, if_neg (by rw [hq]; decide), if_pos hp]
      have := le l hi'
      simp only [List.length_cons]
      omega
    · have ih := filter_len_lt hi' ⟨x, hx', hp, hq⟩
      rw [List.filter_cons, List.filter_cons]
      by_cases e : q y = true
      · rw [if_pos e, if_pos (hi y List.mem_cons_self e)]
        simp only [List.length_cons]
        omega
      · rw [if_neg e]
        split
        · simp only [List.length_cons]; omega
        · exact ih
/-- a set that comes back -/
theorem fix_point : ∀ (m : Nat) (X : List Int), X.length ≤ m → (∃ p, X = st.filter p) → (∀ o ∈ notRef L2 st (notRef L1 st X), o ∈ X) → ∃ X : List Int, (∀ o ∈ X, o ∈ st) ∧ ∀ o, o ∈ notRef L2 st (notRef L1 st X) ↔ o ∈ X
  | m, X, hm, ⟨p, hp⟩, hd => by
    have hst : ∀ o ∈ X, o ∈ st := fun o ho => by rw [hp] at ho; exact (List.mem_filter.mp ho).1
    by_cases h : ∀ o ∈ X, o ∈ notRef L2 st (notRef L1 st X)
    · exact ⟨X, hst, fun o => ⟨hd o, h o⟩⟩
    · cases m with
      | zero =>
        have e : X = [] := List.length_eq_zero_iff.mp (Nat.le_zero.mp hm)
        exact absurd (fun o ho => by rw [e] at ho; cases ho) h
      | succ m =>
        refine fix_point m (notRef L2 st (notRef L1 st X)) ?_ ⟨_, rfl⟩ fun o ho => notRef_anti (fun y hy => notRef_anti hd hy) ho
        have hx : ∃ x ∈ X, x ∉ notRef L2 st (notRef L1 st X) := by
          refine Classical.byContradiction fun z => h fun o ho => ?_
          refine Classical.byContradiction fun y => z ⟨o, ho, y⟩
        obtain ⟨x, h1, h2⟩ := hx
        have lt : (notRef L2 st (notRef L1 st X)).length < X.length := by
          rw [hp] at h1
          have hx1 := List.mem_filter.mp h1
          have := filter_len_lt (l := st) (p := p) (q := fun o => !(decide (o ∈ notRef L1 st X) && !decide (o ∈ taken L2 (notRef L1 st X)))) (fun y hy hq => by
            have : y ∈ X := hd y (List.mem_filter.mpr ⟨hy, hq⟩)
            rw [hp] at this
            exact (List.mem_filter.mp this).2) ⟨x, hx1.1, hx1.2, by
              cases e : !(decide (x ∈ notRef L1 st X) && !decide (x ∈ taken L2 (notRef L1 st X))) with
              | false => rfl
              | true => exact absurd (List.mem_filter.mpr ⟨hx1.1, e⟩) h2⟩
          rw [← hp] at this
          exact this
        omega
/-- a settled set -/
theorem some_settled (hs : st.Pairwise (· < ·)) : ∃ s, s.Sublist st ∧ settled L1 L2 st s = true := by
  obtain ⟨X, hX, hf⟩ := fix_point L1 L2 st st.length st (Nat.le_refl _) ⟨fun _ => true, (List.filter_eq_self.mpr fun _ _ => rfl).symm⟩ fun o ho => (mem_notRef.mp ho).1
  -- Y: what the one side does not refuse
  have hY : ∀ o, o ∈ notRef L1 st X ↔ o ∈ st ∧ (o ∈ X → o ∈ taken L1 X) := fun o => mem_notRef
  have hX2 : ∀ o, o ∈ X ↔ o ∈ st ∧ (o ∈ notRef L1 st X → o ∈ taken L2 (notRef L1 st X)) := fun o => (hf o).symm.trans mem_notRef
  refine ⟨st.filter fun o => decide (o ∈ X) && decide (o ∈ notRef L1 st X), List.filter_sublist, ?_⟩
  have hS : ∀ o, o ∈ (st.filter fun o => decide (o ∈ X) && decide (o ∈ notRef L1 st X)) ↔ o ∈ X ∧ o ∈ notRef L1 st X := fun o => by
    rw [List.mem_filter, Bool.and_eq_true, decide_eq_true_eq, decide_eq_true_eq]
    exact ⟨fun h => h.2, fun h => ⟨hX o h.1, h⟩⟩
  generalize hSd : (st.filter fun o => decide (o ∈ X) && decide (o ∈ notRef L1 st X)) = S at hS
  have sS : S.Sublist st := by rw [← hSd]; exact List.filter_sublist
  have aS : S.Pairwise (· < ·) := hs.sublist sS
  -- what the sides take
  have t1 : ∀ o, o ∈ taken L1 X ↔ o ∈ S := fun o => by
    rw [hS, hY]
    exact ⟨fun h => ⟨(mem_taken.mp h).1, hX o (mem_taken.mp h).1, fun _ => h⟩, fun h => h.2.2 h.1⟩
  have t2 : ∀ o, o ∈ taken L2 (notRef L1 st X) ↔ o ∈ S := fun o => by
    rw [hS, hX2]
    exact ⟨fun h => ⟨⟨(mem_notRef.mp (mem_taken.mp h).1).1, fun _ => h⟩, (mem_taken.mp h).1⟩, fun h => h.1.2 h.2⟩
  have part1 : ∀ T : List Int, (∀ o ∈ S, o ∈ T) → (∀ o ∈ T, o ∈ X) → ∀ o, o ∈ taken L1 T ↔ o ∈ S := fun T h1 h2 o => by
    rw [← t1]
    exact ⟨fun h => taken_same h2 (fun x hx => h1 x ((t1 x).mp hx)) h, fun h => taken_part h2 (h1 o ((t1 o).mp h)) h⟩
  have part2 : ∀ T : List Int, (∀ o ∈ S, o ∈ T) → (∀ o ∈ T, o ∈ notRef L1 st X) → ∀ o, o ∈ taken L2 T ↔ o ∈ S := fun T h1 h2 o => by
    rw [← t2]
    exact ⟨fun h => taken_same h2 (fun x hx => h1 x ((t2 x).mp hx)) h, fun h => taken_part h2 (h1 o ((t2 o).mp h)) h⟩
  unfold settled agreed
  rw [Bool.and_eq_true, Bool.and_eq_true, decide_eq_true_eq, decide_eq_true_eq, decide_eq_true_eq]
  refine ⟨⟨asc_ext (aS.sublist (taken_sub _ _)) aS (part1 S (fun _ h => h) fun o h => ((hS o).mp h).1), asc_ext (aS.sublist (taken_sub _ _)) aS (part2 S (fun _ h => h) fun o h => ((hS o).mp h).2)⟩, ?_⟩
  unfold wished
  rw [List.filter_eq_nil_iff]
  intro x hx hw
  unfold wishB at hw
  rw [Bool.and_eq_true, Bool.and_eq_true, decide_eq_true_eq, decide_eq_true_eq, Bool.not_eq_true', decide_eq_false_iff_not] at hw
  obtain ⟨w1, w2, w3⟩ := hw
  by_cases hxX : x ∈ X
  · exact w1 ((part1 (ins S x) (fun o h => mem_ins.mpr (.inl h)) (fun o h => (mem_ins.mp h).elim (fun q => ((hS o).mp q).1) (fun q => q ▸ hxX)) x).mp w2)
  · have hxY : x ∈ notRef L1 st X := (hY x).mpr ⟨hx, fun z => absurd z hxX⟩
    exact w1 ((part2 (ins S x) (fun o h => mem_ins.mpr (.inl h)) (fun o h => (mem_ins.mp h).elim (fun q => ((hS o).mp q).2) (fun q => q ▸ hxY)) x).mp w3)
end

/-! ### all sets, parts -/
/-- the least offer that can be put to a row -/
def low (r : List Int) : Int := match r.getLast? with
  | some x => x + 1
  | none => 0
def stepRow (n : Nat) (r : List Int) : List (List Int) := (List.range ((n : Int) - low r).toNat).map fun (i : Nat) => r ++ [low r + (i : Int)]
def rowsAt (n : Nat) : Nat → List (List Int)
  | 0 => [[]]
  | k + 1 => (rowsAt n k).flatMap (stepRow n)
def setsTo (n : Nat) : Nat → List (List Int)
  | 0 => [[]]
  | k + 1 => setsTo n k ++ rowsAt n (k + 1)
/-- all sets of n offers, in order -/
def allSets (n : Nat) : List (List Int) := setsTo n n
/-- the law's own way to all sets -/
def lawRaw : Nat → List (List Int)
  | 0 => [[]]
  | n + 1 => lawRaw n ++ (lawRaw n).map (· ++ [(n : Int)])
def pickAt (s ps : List Int) : List Int := ps.map fun p => s.getD p.toNat 0
/-- all parts of a set, in order -/
def subs (s : List Int) : List (List Int) := (allSets s.length).map (pickAt s)
def within (s st : List Int) : Bool := decide (s.filter (fun o => !decide (o ∈ st)) = [])
theorem within_iff {s st : List Int} : within s st = true ↔ ∀ x ∈ s, x ∈ st := by
  unfold within
  rw [decide_eq_true_eq, List.filter_eq_nil_iff]
  simp
theorem small4 {n : Nat} (h1 : 1 ≤ n) (h4 : n ≤ 4) {p : Nat → Prop} (a : p 1) (b : p 2) (c : p 3) (d : p 4) : p n := by
  have : n = 1 ∨ n = 2 ∨ n = 3 ∨ n = 4 := by omega
  rcases this with rfl | rfl | rfl | rfl
  · exact a
  · exact b
  · exact c
  · exact d
theorem raw_sub {n : Nat} (h1 : 1 ≤ n) (h4 : n ≤ 4) : ∀ s ∈ lawRaw n, s ∈ allSets n :=
  small4 (p := fun n => ∀ s ∈ lawRaw n, s ∈ allSets n) h1 h4 (by decide +kernel) (by decide +kernel) (by decide +kernel) (by decide +kernel)
theorem raw_perm {n : Nat} (h1 : 1 ≤ n) (h4 : n ≤ 4) : (lawRaw n).Perm (allSets n) :=
  small4 (p := fun n => (lawRaw n).Perm (allSets n)) h1 h4 (by decide +kernel) (by decide +kernel) (by decide +kernel) (by decide +kernel)
theorem all_asc {n : Nat} (h1 : 1 ≤ n) (h4 : n ≤ 4) : ∀ s ∈ allSets n, Asc n s :=
  small4 (p := fun n => ∀ s ∈ allSets n, Asc n s) h1 h4 (by decide +kernel) (by decide +kernel) (by decide +kernel) (by decide +kernel)
theorem all_nodup {n : Nat} (h1 : 1 ≤ n) (h4 : n ≤ 4) : (allSets n).Nodup :=
  small4 (p := fun n => (allSets n).Nodup) h1 h4 (by decide +kernel) (by decide +kernel) (by decide +kernel) (by decide +kernel)
theorem subs_all {n : Nat} (h1 : 1 ≤ n) (h4 : n ≤ 4) : ∀ st ∈ allSets n, (allSets n).filter (fun s => within s st) = subs st :=
  small4 (p := fun n => ∀ st ∈ allSets n, (allSets n).filter (fun s => within s st) = subs st) h1 h4 (by decide +kernel) (by decide +kernel) (by decide +kernel) (by decide +kernel)
theorem all_len {n : Nat} (h1 : 1 ≤ n) (h4 : n ≤ 4) : (allSets n).length ≤ 16 :=
  small4 (p := fun n => (allSets n).length ≤ 16) h1 h4 (by decide +kernel) (by decide +kernel) (by decide +kernel) (by decide +kernel)
/-- an ascending set is one of all -/
theorem asc_raw : ∀ (n : Nat) (s : List Int), Asc n s → s ∈ lawRaw n
  | 0, s, h => by
    cases s with
    | nil => exact List.mem_singleton.mpr rfl
    | cons x s =>
      have := h.2 x List.mem_cons_self
      omega
  | n + 1, s, h => by
    show s ∈ lawRaw n ++ (lawRaw n).map (· ++ [(n : Int)])
    rw [List.mem_append]
    by_cases e : (n : Int) ∈ s
    · right
      rw [List.mem_map]
      obtain ⟨a, b, rfl⟩ := List.append_of_mem e
      have hb : b = [] := by
        cases b with
        | nil => rfl
        | cons y b =>
          have h1 := (List.pairwise_append.mp h.1).2.1
          have h2 := (List.pairwise_cons.mp h1).1 y List.mem_cons_self
          have h3 := h.2 y (by simp)
          omega
      subst hb
      refine ⟨a, asc_raw n a ⟨(List.pairwise_append.mp h.1).1, fun x hx => ?_⟩, rfl⟩
      have h1 := (List.pairwise_append.mp h.1).2.2 x hx (n : Int) List.mem_cons_self
      have h2 := h.2 x (by simp [hx])
      omega
    · left
      refine asc_raw n s ⟨h.1, fun x hx => ?_⟩
      have h2 := h.2 x hx
      have h3 : x ≠ (n : Int) := fun z => e (z ▸ hx)
      omega
theorem asc_all {n : Nat} (h1 : 1 ≤ n) (h4 : n ≤ 4) {s : List Int} (h : Asc n s) : s ∈ allSets n := raw_sub h1 h4 s (asc_raw n s h)
theorem mem_all {n : Nat} (h1 : 1 ≤ n) (h4 : n ≤ 4) {s : List Int} : s ∈ allSets n ↔ Asc n s := ⟨all_asc h1 h4 s, asc_all h1 h4⟩
theorem mem_subs {n : Nat} (h1 : 1 ≤ n) (h4 : n ≤ 4) {s st : List Int} (hst : Asc n st) : s ∈ subs st ↔ Asc n s ∧ ∀ x ∈ s, x ∈ st := by
  rw [← subs_all h1 h4 st (asc_all h1 h4 hst), List.mem_filter, within_iff, mem_all h1 h4]
theorem subs_nodup {n : Nat} (h1 : 1 ≤ n) (h4 : n ≤ 4) {st : List Int} (hst : Asc n st) : (subs st).Nodup := by
  rw [← subs_all h1 h4 st (asc_all h1 h4 hst)]
  exact (all_nodup h1 h4).filter _

/-! ### the settled sets of what stands, sorted by an order leS -/
section
variable (leS : List Int → List Int → Bool) (L1 L2 : List (List Int))
def kept (st : List Int) : List (List Int) := ((subs st).filter (settled L1 L2 st)).mergeSort leS
/-- the law's own way to them -/
def keptLaw (n : Nat) (st : List Int) : List (List Int) := ((allSets n).filter fun s => within s st && settled L1 L2 st s).mergeSort leS
theorem keptLaw_eq {n : Nat} (h1 : 1 ≤ n) (h4 : n ≤ 4) {st : List Int} (hst : Asc n st) : keptLaw leS L1 L2 n st = kept leS L1 L2 st := by
  unfold keptLaw kept
  rw [← subs_all h1 h4 st (asc_all h1 h4 hst), List.filter_filter]
  congr 1
  refine List.filter_congr fun s _ => ?_
  rw [Bool.and_comm]
theorem mem_kept {n : Nat} (h1 : 1 ≤ n) (h4 : n ≤ 4) {s st : List Int} (hst : Asc n st) : s ∈ kept leS L1 L2 st ↔ (Asc n s ∧ ∀ x ∈ s, x ∈ st) ∧ settled L1 L2 st s = true := by
  unfold kept
  rw [mem_msort, List.mem_filter, mem_subs h1 h4 hst]
theorem kept_nodup {n : Nat} (h1 : 1 ≤ n) (h4 : n ≤ 4) {st : List Int} (hst : Asc n st) : (kept leS L1 L2 st).Nodup := nodup_msort ((subs_nodup h1 h4 hst).filter _)
theorem kept_some {n : Nat} (h1 : 1 ≤ n) (h4 : n ≤ 4) {st : List Int} (hst : Asc n st) : ∃ s, s ∈ kept leS L1 L2 st := by
  obtain ⟨s, h2, h3⟩ := some_settled L1 L2 st hst.1
  exact ⟨s, (mem_kept leS L1 L2 h1 h4 hst).mpr ⟨⟨hst.sub h2, fun x hx => h2.subset hx⟩, h3⟩⟩
theorem kept_nil {n : Nat} (h1 : 1 ≤ n) (h4 : n ≤ 4) : ([] : List Int) ∈ kept leS L1 L2 [] := by
  obtain ⟨s, h⟩ := kept_some leS L1 L2 h1 h4 (Asc.nil n)
  have h2 := ((mem_kept leS L1 L2 h1 h4 (Asc.nil n)).mp h).1.2
  cases s with
  | nil => exact h
  | cons x s => exact absurd (h2 x List.mem_cons_self) (by simp)
theorem subs_len {n : Nat} (h1 : 1 ≤ n) (h4 : n ≤ 4) {st : List Int} (hst : Asc n st) : (subs st).length ≤ 16 := by
  rw [← subs_all h1 h4 st (asc_all h1 h4 hst)]
  exact Nat.le_trans (List.length_filter_le _ _) (all_len h1 h4)
theorem kept_len {n : Nat} (h1 : 1 ≤ n) (h4 : n ≤ 4) {st : List Int} (hst : Asc n st) : (kept leS L1 L2 st).length ≤ 16 := by
  unfold kept
  rw [List.length_mergeSort]
  exact Nat.le_trans (List.length_filter_le _ _) (subs_len h1 h4 hst)
end

/-! ### dated sets -/
abbrev Dt := List (Int × Int)
def offs (d : Dt) : List Int := d.map (·.1)
/-- a dated set of the first k offers, within lives -/
def Wi (lives : List Int) (k : Nat) (d : Dt) : Prop := d.Pairwise (fun p q => p.1 < q.1) ∧ ∀ p ∈ d, 0 ≤ p.1 ∧ p.1 < (k : Int) ∧ 1 ≤ p.2 ∧ p.2 ≤ lives.getD p.1.toNat 0
theorem Wi.nil (lives : List Int) (k : Nat) : Wi lives k [] := ⟨List.Pairwise.nil, fun _ h => by cases h⟩
theorem Wi.asc {lives : List Int} {k : Nat} {d : Dt} (h : Wi lives k d) : Asc k (offs d) :=
  ⟨List.pairwise_map.mpr h.1, fun x hx => by
    obtain ⟨p, hp, rfl⟩ := List.mem_map.mp hx
    exact ⟨(h.2 p hp).1, (h.2 p hp).2.1⟩⟩
theorem Wi.nodup {lives : List Int} {k : Nat} {d : Dt} (h : Wi lives k d) : (offs d).Nodup := asc_nodup h.asc.1
theorem Wi.sub {lives : List Int} {k : Nat} {d e : Dt} (h : Wi lives k d) (q : e.Sublist d) : Wi lives k e := ⟨h.1.sublist q, fun p hp => h.2 p (q.subset hp)⟩
/-- in a dated set an offer has one number of days -/
theorem Wi.one {lives : List Int} {k : Nat} {d : Dt} (h : Wi lives k d) {p q : Int × Int} (hp : p ∈ d) (hq : q ∈ d) (e : p.1 = q.1) : p = q := by
  have h1 := h.1
  induction d with
  | nil => cases hp
  | cons a d ih =>
    have h2 := List.pairwise_cons.mp h1
    rcases List.mem_cons.mp hp with rfl | hp
    · rcases List.mem_cons.mp hq with rfl | hq
      · rfl
      · have := h2.1 q hq
        omega
    · rcases List.mem_cons.mp hq with e2 | hq
      · have := h2.1 p hp
        rw [e2] at e
        omega
      · exact ih (h.sub (List.sublist_cons_self _ _)) hp hq h2.2
/-- the law's own way to all dated sets of the first k offers -/
def datsL (lives : List Int) : Nat → List Dt
  | 0 => [[]]
  | k + 1 => datsL lives k ++ (List.range (lives.getD k 0).toNat).flatMap fun (i : Nat) => (datsL lives k).map fun d => d ++ [((k : Int), 1 + (i : Int))]
/-- the program's way -/
def datsP (lives : List Int) : Nat → List Dt
  | 0 => [[]]
  | k + 1 => (datsP lives k).flatMap fun r => r :: (List.range (lives.getD k 0).toNat).map fun (i : Nat) => r ++ [((k : Int), 1 + (i : Int))]

theorem wi_snoc {lives : List Int} {k : Nat} {d : Dt} {x : Int} (h : Wi lives k d) (h1 : 1 ≤ x) (h2 : x ≤ lives.getD k 0) : Wi lives (k + 1) (d ++ [((k : Int), x)]) := by
  refine ⟨List.pairwise_append.mpr ⟨h.1, List.pairwise_singleton _ _, fun p hp q hq => ?_⟩, fun p hp => ?_⟩
  · rw [List.mem_singleton] at hq
    rw [hq]
    exact (h.2 p hp).2.1
  · rcases List.mem_append.mp hp with q | q
    · have := h.2 p q
      exact ⟨this.1, by omega, this.2.2⟩
    · rw [List.mem_singleton] at q
      rw [q]
      exact ⟨by show (0 : Int) ≤ (k : Int); omega, by show (k : Int) < ((k + 1 : Nat) : Int); omega, h1, by simpa using h2⟩
theorem Wi.up {lives : List Int} {k : Nat} {d : Dt} (h : Wi lives k d) : Wi lives (k + 1) d := ⟨h.1, fun p hp => by
  have := h.2 p hp
  exact ⟨this.1, by omega, this.2.2⟩⟩
/-- a dated set of one offer more has it at its end, or not at all -/
theorem wi_split {lives : List Int} {k : Nat} {d : Dt} (h : Wi lives (k + 1) d) : Wi lives k d ∨ ∃ e x, d = e ++ [((k : Int), x)] ∧ Wi lives k e ∧ 1 ≤ x ∧ x ≤ lives.getD k 0 := by
  by_cases c : ∃ p ∈ d, p.1 = (k : Int)
  · right
    obtain ⟨⟨o, x⟩, hp, e⟩ := c
    dsimp only at e
    subst e
    obtain ⟨a, b, rfl⟩ := List.append_of_mem hp
    have hb : b = [] := by
      cases b with
      | nil => rfl
      | cons y b =>
        have h1 := (List.pairwise_append.mp h.1).2.1
        have h2 := (List.pairwise_cons.mp h1).1 y List.mem_cons_self
        have h3 := (h.2 y (by simp)).2.1
        dsimp only at h2
        omega
    subst hb
    have h4 := h.2 ((k : Int), x) (by simp)
    refine ⟨a, x, rfl, ⟨(List.pairwise_append.mp h.1).1, fun p hp => ?_⟩, h4.2.2.1, by simpa using h4.2.2.2⟩
    have h5 := (List.pairwise_append.mp h.1).2.2 p hp ((k : Int), x) List.mem_cons_self
    have h6 := h.2 p (by simp [hp])
    exact ⟨h6.1, h5, h6.2.2⟩
  · left
    refine ⟨h.1, fun p hp => ?_⟩
    have h6 := h.2 p hp
    have h7 : p.1 ≠ (k : Int) := fun z => c ⟨p, hp, z⟩
    exact ⟨h6.1, by omega, h6.2.2⟩
theorem mem_datsL (lives : List Int) : ∀ (k : Nat) (d : Dt), d ∈ datsL lives k ↔ Wi lives k d
  | 0, d => by
    show d ∈ [[]] ↔ _
    rw [List.mem_singleton]
    refine ⟨fun e => e ▸ Wi.nil lives 0, fun h => ?_⟩
    cases d with
    | nil => rfl
    | cons p d =>
      have := (h.2 p List.mem_cons_self)
      omega
  | k + 1, d => by
    show d ∈ datsL lives k ++ _ ↔ _
    rw [List.mem_append, mem_datsL lives k, List.mem_flatMap]
    constructor
    · rintro (h | ⟨i, hi, h⟩)
      · exact h.up
      · obtain ⟨e, he, rfl⟩ := List.mem_map.mp h
        have hi' := List.mem_range.mp hi
        exact wi_snoc ((mem_datsL lives k e).mp he) (by omega) (by omega)
    · intro h
      rcases wi_split h with q | ⟨e, x, rfl, he, h1, h2⟩
      · exact .inl q
      · refine .inr ⟨(x - 1).toNat, List.mem_range.mpr (by omega), List.mem_map.mpr ⟨e, (mem_datsL lives k e).mpr he, ?_⟩⟩
        rw [show 1 + ((x - 1).toNat : Int) = x by omega]
theorem mem_datsP (lives : List Int) : ∀ (k : Nat) (d : Dt), d ∈ datsP lives k ↔ Wi lives k d
  | 0, d => mem_datsL lives 0 d
  | k + 1, d => by
    show d ∈ (datsP lives k).flatMap _ ↔ _
    rw [List.mem_flatMap]
    constructor
    · rintro ⟨r, hr, h⟩
      rcases List.mem_cons.mp h with rfl | h
      · exact ((mem_datsP lives k d).mp hr).up
      · obtain ⟨i, hi, rfl⟩ := List.mem_map.mp h
        have hi' := List.mem_range.mp hi
        exact wi_snoc ((mem_datsP lives k r).mp hr) (by omega) (by omega)
    · intro h
      rcases wi_split h with q | ⟨e, x, rfl, he, h1, h2⟩
      · exact ⟨d, (mem_datsP lives k d).mpr q, List.mem_cons_self⟩
      · refine ⟨e, (mem_datsP lives k e).mpr he, List.mem_cons_of_mem _ (List.mem_map.mpr ⟨(x - 1).toNat, List.mem_range.mpr (by omega), ?_⟩)⟩
        rw [show 1 + ((x - 1).toNat : Int) = x by omega]
/-- the last pair tells two dated sets apart -/
theorem snoc_inj {d e : Dt} {p q : Int × Int} (h : d ++ [p] = e ++ [q]) : d = e ∧ p = q := by
  have h2 := List.append_inj' h rfl
  exact ⟨h2.1, List.head_eq_of_cons_eq h2.2⟩
theorem nodup_flatMap {α β : Type} {f : α → List β} : ∀ {l : List α}, l.Nodup → (∀ a ∈ l, (f a).Nodup) → (∀ a ∈ l, ∀ b ∈ l, ∀ x, x ∈ f a → x ∈ f b → a = b) → (l.flatMap f).Nodup
  | [], _, _, _ => List.nodup_nil
  | a :: l, hl, hf, hd => by
    have hl' := List.nodup_cons.mp hl
    rw [List.flatMap_cons, List.nodup_append]
    refine ⟨hf a List.mem_cons_self, nodup_flatMap hl'.2 (fun b hb => hf b (List.mem_cons_of_mem _ hb)) (fun b hb c hc => hd b (List.mem_cons_of_mem _ hb) c (List.mem_cons_of_mem _ hc)), fun x hx y hy e => ?_⟩
    subst e
    obtain ⟨b, hb, hxb⟩ := List.mem_flatMap.mp hy
    exact hl'.1 (hd a List.mem_cons_self b (List.mem_cons_of_mem _ hb) x hx hxb ▸ hb)
theorem nodup_map_inj {α β : Type} {f : α → β} {l : List α} (hl : l.Nodup) (h : ∀ a b, f a = f b → a = b) : (l.map f).Nodup := by
  unfold List.Nodup at *
  rw [List.pairwise_map]
  exact hl.imp fun {a b} q e => q (h a b e)
theorem datsL_nodup (lives : List Int) : ∀ k, (datsL lives k).Nodup
  | 0 => List.nodup_cons.mpr ⟨by simp, List.nodup_nil⟩
  | k + 1 => by
    show (datsL lives k ++ _).Nodup
    rw [List.nodup_append]
    refine ⟨datsL_nodup lives k, nodup_flatMap List.nodup_range (fun i _ => nodup_map_inj (datsL_nodup lives k) fun a b e => (snoc_inj e).1) (fun i _ j _ x hi hj => ?_), fun x hx y hy e => ?_⟩
    · obtain ⟨d, _, rfl⟩ := List.mem_map.mp hi
      obtain ⟨e, _, q⟩ := List.mem_map.mp hj
      have h2 := congrArg Prod.snd (snoc_inj q).2
      dsimp only at h2
      omega
    · subst e
      obtain ⟨i, _, hi⟩ := List.mem_flatMap.mp hy
      obtain ⟨d, _, rfl⟩ := List.mem_map.mp hi
      have h1 := ((mem_datsL lives k _).mp hx).2 ((k : Int), 1 + (i : Int)) (by simp)
      dsimp only at h1
      omega
theorem datsP_nodup (lives : List Int) : ∀ k, (datsP lives k).Nodup
  | 0 => List.nodup_cons.mpr ⟨by simp, List.nodup_nil⟩
  | k + 1 => by
    show ((datsP lives k).flatMap _).Nodup
    have out : ∀ r ∈ datsP lives k, ∀ i : Nat, ∀ e, r = e ++ [((k : Int), 1 + (i : Int))] → False := fun r hr i e q => by
      have h1 := ((mem_datsP lives k r).mp hr).2 ((k : Int), 1 + (i : Int)) (by rw [q]; simp)
      dsimp only at h1
      omega
    refine nodup_flatMap (datsP_nodup lives k) (fun r hr => List.nodup_cons.mpr ⟨fun h => ?_, nodup_map_inj List.nodup_range fun a b e => ?_⟩) (fun r hr t ht x hx hy => ?_)
    · obtain ⟨i, _, q⟩ := List.mem_map.mp h
      exact out r hr i r q.symm
    · have h2 := congrArg Prod.snd (snoc_inj e).2
      dsimp only at h2
      omega
    · rcases List.mem_cons.mp hx with rfl | hx
      · rcases List.mem_cons.mp hy with e | hy
        · exact e
        · obtain ⟨i, _, q⟩ := List.mem_map.mp hy
          exact (out _ hr i _ q.symm).elim
      · obtain ⟨i, _, rfl⟩ := List.mem_map.mp hx
        rcases List.mem_cons.mp hy with e | hy
        · exact (out _ ht i _ e.symm).elim
        · obtain ⟨j, _, q⟩ := List.mem_map.mp hy
          exact (snoc_inj q).1.symm
theorem dats_perm (lives : List Int) (k : Nat) : (datsP lives k).Perm (datsL lives k) :=
  perm_of_mem (datsP_nodup lives k) (datsL_nodup lives k) fun d => (mem_datsP lives k d).trans (mem_datsL lives k d).symm

/-! ### deeds -/
inductive Deed where
  | day
  | come (o : Int)
  | gone (o : Int)
  deriving DecidableEq
/-- a deed of a trade -/
def DeedOk (n : Nat) (loose : List Int) : Deed → Prop
  | .day => True
  | .come o => 0 ≤ o ∧ o < (n : Int)
  | .gone o => (0 ≤ o ∧ o < (n : Int)) ∧ o ∈ loose
def aged1 (d : Dt) : Dt := (d.filter fun p => decide (1 < p.2)).map fun p => (p.1, p.2 - 1)
def drop1 (d : Dt) (o : Int) : Dt := d.filter fun p => !decide (p.1 = o)
section
variable (leI : Int × Int → Int × Int → Bool) (lives : List Int)
/-- what stands behind a deed (the program's way) -/
def behind (d : Dt) : Deed → Dt
  | .day => aged1 d
  | .come o => (drop1 d o ++ [(o, lives.getD o.toNat 0)]).mergeSort leI
  | .gone o => (drop1 d o).mergeSort leI
end
/-- an order of pairs that goes by the offers first -/
def ByOffer (leI : Int × Int → Int × Int → Bool) : Prop := Lin leI ∧ ∀ p q : Int × Int, p.1 < q.1 → leI p q = true
theorem wi_ext {lives : List Int} {k : Nat} {d e : Dt} (h1 : Wi lives k d) (h2 : e.Pairwise (fun p q => p.1 < q.1)) (h : d.Perm e) : d = e :=
  List.Perm.eq_of_pairwise (le := fun p q => p.1 < q.1) (fun a b _ _ x y => by omega) h1.1 h2 h
theorem lt_pairs {l : Dt} (h : l.Pairwise fun p q => p.1 < q.1) {leI : Int × Int → Int × Int → Bool} (b : ByOffer leI) : l.Pairwise fun p q => leI p q = true := h.imp fun {p q} x => b.2 p q x
theorem pairs_lt {leI : Int × Int → Int × Int → Bool} (b : ByOffer leI) {l : Dt} (h : l.Pairwise fun p q => leI p q = true) (hn : (offs l).Nodup) : l.Pairwise fun p q => p.1 < q.1 := by
  have hn' : l.Pairwise fun p q => p.1 ≠ q.1 := List.pairwise_map.mp hn
  have h2 := List.pairwise_and_iff.mpr ⟨h, hn'⟩
  refine h2.imp fun {p q} x => ?_
  obtain ⟨x1, x2⟩ := x
  rcases Int.lt_or_gt_of_ne x2 with z | z
  · exact z
  · have := b.1.anti p q x1 (b.2 q p z)
    exact absurd (congrArg Prod.fst this) x2
theorem drop1_sub (d : Dt) (o : Int) : (drop1 d o).Sublist d := List.filter_sublist
theorem mem_drop1 {d : Dt} {o : Int} {p : Int × Int} : p ∈ drop1 d o ↔ p ∈ d ∧ p.1 ≠ o := by
  unfold drop1
  rw [List.mem_filter, Bool.not_eq_true', decide_eq_false_iff_not]
theorem behind_wi {leI : Int × Int → Int × Int → Bool} (b : ByOffer leI) {lives : List Int} {n : Nat} {loose : List Int} (hl : ∀ o : Int, 0 ≤ o ∧ o < (n : Int) → 1 ≤ lives.getD o.toNat 0) {d : Dt} (h : Wi lives n d) {dd : Deed} (hd : DeedOk n loose dd) : Wi lives n (behind leI lives d dd) := by
  cases dd with
  | day =>
    refine ⟨List.pairwise_map.mpr (h.1.sublist List.filter_sublist), fun p hp => ?_⟩
    obtain ⟨q, hq, rfl⟩ := List.mem_map.mp hp
    obtain ⟨q1, q2⟩ := List.mem_filter.mp hq
    have q3 := h.2 q q1
    have q4 : 1 < q.2 := of_decide_eq_true q2
    exact ⟨q3.1, q3.2.1, by show 1 ≤ q.2 - 1; omega, by show q.2 - 1 ≤ lives.getD q.1.toNat 0; omega⟩
  | come o =>
    have hn : (offs (drop1 d o ++ [(o, lives.getD o.toNat 0)])).Nodup := by
      unfold offs
      rw [List.map_append, List.nodup_append]
      refine ⟨(h.sub (drop1_sub d o)).nodup, by simp, fun a ha c hc e => ?_⟩
      obtain ⟨p, hp, rfl⟩ := List.mem_map.mp ha
      rw [List.map_cons, List.map_nil, List.mem_singleton] at hc
      exact (mem_drop1.mp hp).2 (e.trans hc)
    refine ⟨pairs_lt b (b.1.sorted _) ?_, fun p hp => ?_⟩
    · exact ((List.mergeSort_perm _ _).map _).nodup_iff.mpr hn
    · rcases List.mem_append.mp (mem_msort.mp hp) with q | q
      · exact h.2 p (mem_drop1.mp q).1
      · rw [List.mem_singleton] at q
        rw [q]
        exact ⟨hd.1, hd.2, hl o hd, Int.le_refl _⟩
  | gone o =>
    have h2 := h.sub (drop1_sub d o)
    have e : (drop1 d o).mergeSort leI = drop1 d o := b.1.one (List.Perm.refl _) (lt_pairs h2.1 b)
    show Wi lives n ((drop1 d o).mergeSort leI)
    rw [e]
    exact h2

/-- a pair is put where its offer stands, else at the end (a dict's own way) -/
def putP (d : Dt) (o x : Int) : Dt := if d.any (fun p => decide (p.1 = o)) = true then d.map (fun p => if p.1 = o then (p.1, x) else p) else d ++ [(o, x)]
/-- the law's day book -/
def book (lives : List Int) (d : Dt) : Deed → Dt
  | .day => aged1 d
  | .come o => putP d o (lives.getD o.toNat 0)
  | .gone o => drop1 d o
theorem drop1_id {d : Dt} {o : Int} (h : ∀ p ∈ d, p.1 ≠ o) : drop1 d o = d := by
  unfold drop1
  rw [List.filter_eq_self]
  intro p hp
  rw [decide_eq_false (h p hp)]
  rfl
theorem put_perm (o x : Int) : ∀ {d : Dt}, (offs d).Nodup → (putP d o x).Perm (drop1 d o ++ [(o, x)])
  | [], _ => List.Perm.refl _
  | p :: d, hn => by
    have hn' := List.nodup_cons.mp hn
    by_cases e : p.1 = o
    · have hno : ∀ q ∈ d, q.1 ≠ o := fun q hq z => hn'.1 (by
        show p.1 ∈ offs d
        rw [e, ← z]
        exact List.mem_map.mpr ⟨q, hq, rfl⟩)
      have h1 : putP (p :: d) o x = (o, x) :: d := by
        unfold putP
        rw [if_pos (by rw [List.any_cons, decide_eq_true e]; rfl), List.map_cons, if_pos e, e]
        congr 1
        have : d.map (fun p => if p.1 = o then (p.1, x) else p) = d.map id := List.map_congr_left fun q hq => if_neg (hno q hq)
        rw [this, List.map_id]
      have h2 : drop1 (p :: d) o = d := by
        have : drop1 (p :: d) o = drop1 d o := by
          unfold drop1
          rw [List.filter_cons, if_neg (by rw [decide_eq_true e]; decide)]
        rw [this, drop1_id hno]
      rw [h1, h2]
      exact (List.perm_append_singleton (o, x) d).symm
    · have ih := put_perm o x hn'.2
      have h2 : drop1 (p :: d) o = p :: drop1 d o := by
        unfold drop1
        rw [List.filter_cons, if_pos (by rw [decide_eq_false e]; rfl)]
      have h1 : putP (p :: d) o x = p :: putP d o x := by
        unfold putP
        rw [List.any_cons, decide_eq_false e, Bool.false_or, List.map_cons, if_neg e]
        split <;> rfl
      rw [h1, h2]
      exact ih.cons p
theorem book_eq {leI : Int × Int → Int × Int → Bool} (b : ByOffer leI) {lives : List Int} {n : Nat} {d : Dt} (h : Wi lives n d) (dd : Deed) : (book lives d dd).mergeSort leI = behind leI lives d dd := by
  cases dd with
  | day =>
    show (aged1 d).mergeSort leI = aged1 d
    have h2 : (aged1 d).Pairwise fun p q => p.1 < q.1 := List.pairwise_map.mpr (h.1.sublist List.filter_sublist)
    exact b.1.one (List.Perm.refl _) (lt_pairs h2 b)
  | come o => exact b.1.perm (put_perm o _ h.nodup)
  | gone o => rfl

/-! ### positions -/
section
variable {leS : List Int → List Int → Bool} {leD : Dt → Dt → Bool} {leP : Dt × List Int → Dt × List Int → Bool}
/-- an order of positions that goes by the dated sets first -/
structure ByDated (leS : List Int → List Int → Bool) (leD : Dt → Dt → Bool) (leP : Dt × List Int → Dt × List Int → Bool) : Prop where
  lin : Lin leP
  one : ∀ d k k', leS k k' = true → leP (d, k) (d, k') = true
  two : ∀ d d' k k', d ≠ d' → leD d d' = true → leP (d, k) (d', k') = true
/-- all pairs of a dated set of a list and a set that is kept of it -/
def pairs (f : Dt → List (List Int)) (l : List Dt) : List (Dt × List Int) := l.flatMap fun d => (f d).map fun k => (d, k)
theorem mem_pairs {f : Dt → List (List Int)} {l : List Dt} {p : Dt × List Int} : p ∈ pairs f l ↔ p.1 ∈ l ∧ p.2 ∈ f p.1 := by
  unfold pairs
  rw [List.mem_flatMap]
  constructor
  · rintro ⟨d, hd, h⟩
    obtain ⟨k, hk, rfl⟩ := List.mem_map.mp h
    exact ⟨hd, hk⟩
  · rintro ⟨h1, h2⟩
    exact ⟨p.1, h1, List.mem_map.mpr ⟨p.2, h2, rfl⟩⟩
theorem pairs_nodup {f : Dt → List (List Int)} {l : List Dt} (hl : l.Nodup) (hf : ∀ d ∈ l, (f d).Nodup) : (pairs f l).Nodup :=
  nodup_flatMap hl (fun d hd => nodup_map_inj (hf d hd) fun a b e => congrArg Prod.snd e) fun d _ e _ x hx hy => by
    obtain ⟨k, _, rfl⟩ := List.mem_map.mp hx
    obtain ⟨k', _, q⟩ := List.mem_map.mp hy
    exact (congrArg Prod.fst q).symm
theorem pairs_sorted (B : ByDated leS leD leP) {f : Dt → List (List Int)} : ∀ {l : List Dt}, l.Nodup → l.Pairwise (fun a b => leD a b = true) → (∀ d ∈ l, (f d).Pairwise fun a b => leS a b = true) → (pairs f l).Pairwise fun a b => leP a b = true
  | [], _, _, _ => List.Pairwise.nil
  | d :: l, hn, hp, hf => by
    have hn' := List.nodup_cons.mp hn
    have hp' := List.pairwise_cons.mp hp
    show ((f d).map (fun k => (d, k)) ++ pairs f l).Pairwise _
    refine List.pairwise_append.mpr ⟨List.pairwise_map.mpr ((hf d List.mem_cons_self).imp fun {a b} x => B.one d a b x), pairs_sorted B hn'.2 hp'.2 fun e he => hf e (List.mem_cons_of_mem _ he), fun x hx y hy => ?_⟩
    obtain ⟨k, _, rfl⟩ := List.mem_map.mp hx
    obtain ⟨h1, _⟩ := mem_pairs.mp hy
    exact B.two d y.1 k y.2 (fun z => hn'.1 (z ▸ h1)) (hp'.1 y.1 h1)
/-- listing along sorted dated sets is sorting all -/
theorem due_eq (hD : Lin leD) (B : ByDated leS leD leP) {f : Dt → List (List Int)} {l m : List Dt} (hl : l.Nodup) (p : m.Perm l) (hf : ∀ d ∈ l, (f d).Pairwise fun a b => leS a b = true) : (pairs f l).mergeSort leP = pairs f (m.mergeSort leD) := by
  have pm : (m.mergeSort leD).Perm l := (List.mergeSort_perm m leD).trans p
  refine B.lin.one ?_ (pairs_sorted B (pm.nodup_iff.mpr hl) (hD.sorted m) fun d hd => hf d (pm.mem_iff.mp hd))
  exact (pm.flatMap_right _).symm
end

theorem nodup_len {α : Type} [DecidableEq α] : ∀ {l m : List α}, l.Nodup → (∀ x ∈ l, x ∈ m) → l.length ≤ m.length
  | [], _, _, _ => Nat.zero_le _
  | a :: l, m, hl, h => by
    have hl' := List.nodup_cons.mp hl
    have ha : a ∈ m := h a List.mem_cons_self
    have ih := nodup_len (m := m.erase a) hl'.2 fun x hx => (List.mem_erase_of_ne fun e : x = a => hl'.1 (e ▸ hx)).mpr (h x (List.mem_cons_of_mem _ hx))
    rw [List.length_erase_of_mem ha] at ih
    have : 0 < m.length := List.length_pos_of_mem ha
    simp only [List.length_cons]
    omega

/-! ### what can be come to -/
section
variable (bh : Dt → Deed → Dt) (f : Dt → List (List Int)) (deeds : List Deed)
abbrev Pos := Dt × List Int
def mv (d : Dt) (dd : Deed) : List Pos := (f (bh d dd)).map fun k => (bh d dd, k)
def addm (met l : List Pos) : List Pos := met ++ l.filter fun m => !decide (m ∈ met)
def stepD (i : Nat) (met : List Pos) (dd : Deed) : List Pos := addm met (mv bh f (met.getD i ([], [])).1 dd)
def stepAt (met : List Pos) (i : Nat) : List Pos := if i < met.length then deeds.foldl (stepD bh f i) met else met
def bfs : Nat → List Pos
  | 0 => [([], [])]
  | i + 1 => stepAt bh f deeds (bfs i) i

theorem mem_addm {met l : List Pos} {p : Pos} : p ∈ addm met l ↔ p ∈ met ∨ p ∈ l := by
  unfold addm
  rw [List.mem_append, List.mem_filter, Bool.not_eq_true', decide_eq_false_iff_not]
  constructor
  · rintro (h | ⟨h, _⟩)
    · exact .inl h
    · exact .inr h
  · intro h
    by_cases c : p ∈ met
    · exact .inl c
    · exact h.elim .inl fun q => .inr ⟨q, c⟩
theorem addm_nodup {met l : List Pos} (h1 : met.Nodup) (h2 : l.Nodup) : (addm met l).Nodup := by
  unfold addm
  rw [List.nodup_append]
  refine ⟨h1, h2.filter _, fun a ha b hb e => ?_⟩
  subst e
  have := (List.mem_filter.mp hb).2
  rw [Bool.not_eq_true', decide_eq_false_iff_not] at this
  exact this ha
theorem addm_get {met l : List Pos} {i : Nat} (h : i < met.length) : (addm met l)[i]? = met[i]? := by
  unfold addm
  exact List.getElem?_append_left h
theorem getD_some {met : List Pos} {i : Nat} {p : Pos} (h : met[i]? = some p) : met.getD i ([], []) = p := by
  rw [List.getD_eq_getElem?_getD, h]
  rfl
/-- what holds of the positions met, from some deeds of the i-th on -/
structure Met (P : Pos → Prop) (i : Nat) (done : List Deed) (met : List Pos) : Prop where
  nd : met.Nodup
  ok : ∀ p ∈ met, P p
  cl : ∀ j p, j < i → met[j]? = some p → ∀ dd ∈ deeds, ∀ m ∈ mv bh f p.1 dd, m ∈ met
  now : ∀ p, met[i]? = some p → ∀ dd ∈ done, ∀ m ∈ mv bh f p.1 dd, m ∈ met
  st : ([], []) ∈ met
variable {bh f deeds} {P : Pos → Prop} (hmv : ∀ p, P p → ∀ dd ∈ deeds, (mv bh f p.1 dd).Nodup ∧ ∀ m ∈ mv bh f p.1 dd, P m)
include hmv
theorem met_deed {i : Nat} {done : List Deed} {met : List Pos} (M : Met bh f deeds P i done met) (hi : i < met.length) {dd : Deed} (hd : dd ∈ deeds) : Met bh f deeds P i (done ++ [dd]) (stepD bh f i met dd) ∧ i < (stepD bh f i met dd).length := by
  have hp : met[i]? = some met[i] := List.getElem?_eq_getElem hi
  generalize met[i] = p at hp
  have hP : P p := M.ok p (List.mem_of_getElem? hp)
  have e : stepD bh f i met dd = addm met (mv bh f p.1 dd) := by
    unfold stepD
    rw [getD_some hp]
  obtain ⟨n1, n2⟩ := hmv p hP dd hd
  have hl : i < (addm met (mv bh f p.1 dd)).length := by
    unfold addm
    rw [List.length_append]
    omega
  rw [e]
  refine ⟨⟨addm_nodup M.nd n1, fun q hq => (mem_addm.mp hq).elim (M.ok q) (n2 q), fun j q hj hq d2 h2 m hm => ?_, fun q hq d2 h2 m hm => ?_, mem_addm.mpr (.inl M.st)⟩, hl⟩
  · have hjl : j < met.length := by omega
    rw [addm_get hjl] at hq
    exact mem_addm.mpr (.inl (M.cl j q hj hq d2 h2 m hm))
  · rw [addm_get hi, hp] at hq
    cases hq
    rcases List.mem_append.mp h2 with z | z
    · exact mem_addm.mpr (.inl (M.now p hp d2 z m hm))
    · rw [List.mem_singleton] at z
      rw [z] at hm
      exact mem_addm.mpr (.inr hm)
theorem met_deeds {i : Nat} : ∀ (todo done : List Deed) (met : List Pos), (∀ dd ∈ todo, dd ∈ deeds) → Met bh f deeds P i done met → i < met.length → Met bh f deeds P i (done ++ todo) (todo.foldl (stepD bh f i) met)
  | [], done, met, _, M, _ => by
    rw [List.append_nil]
    exact M
  | dd :: todo, done, met, ht, M, hi => by
    obtain ⟨M2, hi2⟩ := met_deed hmv M hi (ht dd List.mem_cons_self)
    have := met_deeds todo (done ++ [dd]) _ (fun d h => ht d (List.mem_cons_of_mem _ h)) M2 hi2
    rw [List.append_assoc] at this
    exact this
theorem met_step {i : Nat} {met : List Pos} (M : Met bh f deeds P i [] met) : Met bh f deeds P (i + 1) [] (stepAt bh f deeds met i) := by
  unfold stepAt
  by_cases hi : i < met.length
  · rw [if_pos hi]
    have M2 := met_deeds hmv deeds [] met (fun _ h => h) M hi
    rw [List.nil_append] at M2
    refine ⟨M2.nd, M2.ok, fun j q hj hq => ?_, fun _ _ _ h => (by cases h), M2.st⟩
    rcases Nat.lt_or_eq_of_le (Nat.le_of_lt_succ hj) with z | z
    · exact M2.cl j q z hq
    · rw [z] at hq
      exact M2.now q hq
  · rw [if_neg hi]
    refine ⟨M.nd, M.ok, fun j q hj hq => ?_, fun _ _ _ h => (by cases h), M.st⟩
    rcases Nat.lt_or_eq_of_le (Nat.le_of_lt_succ hj) with z | z
    · exact M.cl j q z hq
    · have := (List.getElem?_eq_some_iff.mp hq).1
      omega
theorem met_bfs (h0 : P ([], [])) : ∀ i, Met bh f deeds P i [] (bfs bh f deeds i)
  | 0 => ⟨List.nodup_cons.mpr ⟨by simp, List.nodup_nil⟩, fun p hp => by rw [List.mem_singleton.mp hp]; exact h0, fun j _ hj => absurd hj (Nat.not_lt_zero _), fun _ _ _ h => (by cases h), List.mem_singleton.mpr rfl⟩
  | i + 1 => met_step hmv (met_bfs h0 i)
end

/-- every dated set is come to: each offer comes when as many days are still to pass as it has less than its life -/
theorem come_to {leI : Int × Int → Int × Int → Bool} (b : ByOffer leI) {lives : List Int} {n : Nat} {D : Dt → Prop} (h0 : D []) (hday : ∀ d, Wi lives n d → D d → D (aged1 d))
    (hcome : ∀ d o, Wi lives n d → D d → 0 ≤ o ∧ o < (n : Int) → D (behind leI lives d (.come o))) :
    ∀ (m : Nat) (d : Dt), (d.map fun p => (lives.getD p.1.toNat 0 - p.2).toNat + 1).sum ≤ m → Wi lives n d → D d
  | m, d, hm, h => by
    cases d with
    | nil => exact h0
    | cons p0 d0 =>
      cases m with
      | zero =>
        rw [List.map_cons, List.sum_cons] at hm
        omega
      | succ m =>
        generalize hd : p0 :: d0 = d at hm h
        have hne : d ≠ [] := by rw [← hd]; simp
        by_cases c : ∃ p ∈ d, p.2 = lives.getD p.1.toNat 0
        · obtain ⟨⟨o, x⟩, hp, hx⟩ := c
          dsimp only at hx
          have hw := h.2 _ hp
          obtain ⟨u, v, e⟩ := List.append_of_mem hp
          have hdrop : drop1 d o = u ++ v := by
            have h1 := h.1
            rw [e] at h1
            have h2 := List.pairwise_append.mp h1
            have h3 := List.pairwise_cons.mp h2.2.1
            have hu : ∀ q ∈ u, q.1 ≠ o := fun q hq => by
              have := h2.2.2 q hq (o, x) List.mem_cons_self
              dsimp only at this
              omega
            have hv : ∀ q ∈ v, q.1 ≠ o := fun q hq => by
              have := h3.1 q hq
              dsimp only at this
              omega
            have e1 := drop1_id (o := o) hu
            have e2 := drop1_id (o := o) hv
            unfold drop1 at e1 e2 ⊢
            rw [e, List.filter_append, List.filter_cons, if_neg (by rw [decide_eq_true rfl]; decide), e1, e2]
          have hW : Wi lives n (u ++ v) := by
            rw [← hdrop]
            exact h.sub (drop1_sub d o)
          have ih := come_to b h0 hday hcome m (u ++ v) (by
            rw [e, List.map_append, List.sum_append, List.map_cons, List.sum_cons] at hm
            rw [List.map_append, List.sum_append]
            omega) hW
          have r := hcome (u ++ v) o hW ih ⟨hw.1, hw.2.1⟩
          have hno : drop1 (u ++ v) o = u ++ v := by
            rw [← hdrop]
            refine drop1_id fun q hq => (mem_drop1.mp hq).2
          have er : behind leI lives (u ++ v) (.come o) = d := by
            show (drop1 (u ++ v) o ++ [(o, lives.getD o.toNat 0)]).mergeSort leI = d
            rw [hno, ← hx]
            refine b.1.one ?_ (lt_pairs h.1 b)
            rw [e]
            exact (List.perm_append_comm (l₁ := u ++ v) (l₂ := [(o, x)])).trans (List.perm_middle (a := (o, x)) (l₁ := u) (l₂ := v)).symm
          rw [er] at r
          exact r
        · have hlt : ∀ p ∈ d, p.2 < lives.getD p.1.toNat 0 := fun p hp => by
            have h1 := (h.2 p hp).2.2.2
            have h2 : p.2 ≠ lives.getD p.1.toNat 0 := fun z => c ⟨p, hp, z⟩
            omega
          have hW : Wi lives n (d.map fun p => (p.1, p.2 + 1)) := by
            refine ⟨List.pairwise_map.mpr h.1, fun p hp => ?_⟩
            obtain ⟨q, hq, rfl⟩ := List.mem_map.mp hp
            have h1 := h.2 q hq
            have h2 := hlt q hq
            exact ⟨h1.1, h1.2.1, by show 1 ≤ q.2 + 1; omega, by show q.2 + 1 ≤ lives.getD q.1.toNat 0; omega⟩
          have hsum : ∀ l : Dt, (∀ p ∈ l, p.2 < lives.getD p.1.toNat 0) → ((l.map fun p => (p.1, p.2 + 1)).map fun p => (lives.getD p.1.toNat 0 - p.2).toNat + 1).sum + l.length = (l.map fun p => (lives.getD p.1.toNat 0 - p.2).toNat + 1).sum := by
            intro l
            induction l with
            | nil => intro _; rfl
            | cons q l ih =>
              intro hl
              have h1 := hl q List.mem_cons_self
              have h2 := ih fun p hp => hl p (List.mem_cons_of_mem _ hp)
              simp only [List.map_cons, List.sum_cons, List.length_cons]
              simp only [List.map_map] at h2 ⊢
              omega
          have hlen : 0 < d.length := List.length_pos_iff.mpr hne
          have ih := come_to b h0 hday hcome m _ (by
            have := hsum d hlt
            omega) hW
          have r := hday _ hW ih
          have er : aged1 (d.map fun p => (p.1, p.2 + 1)) = d := by
            unfold aged1
            have e1 : (d.map fun p => (p.1, p.2 + 1)).filter (fun p => decide (1 < p.2)) = d.map fun p => (p.1, p.2 + 1) := by
              rw [List.filter_eq_self]
              intro p hp
              obtain ⟨q, hq, rfl⟩ := List.mem_map.mp hp
              have := (h.2 q hq).2.2.1
              exact decide_eq_true (by show 1 < q.2 + 1; omega)
            rw [e1, List.map_map]
            have e2 : ∀ l : Dt, l.map ((fun p : Int × Int => (p.1, p.2 - 1)) ∘ fun p => (p.1, p.2 + 1)) = l := by
              intro l
              induction l with
              | nil => rfl
              | cons q l ih =>
                rw [List.map_cons, ih]
                congr 1
                show (q.1, q.2 + 1 - 1) = q
                rw [Int.add_sub_cancel]
            exact e2 d
          rw [er] at r
          exact r
end K49
namespace K49
open PySem PySem.W PyProof.Rows
/-! ## the data as the model knows them, and their orders -/
def eS (s : List Int) : PyData := .tuple (s.map .int)
def eI (p : Int × Int) : PyData := .tuple [.int p.1, .int p.2]
def eD (d : Dt) : PyData := .tuple (d.map eI)
def eP (p : Pos) : PyData := .tuple [eD p.1, eS p.2]
def leS : List Int → List Int → Bool := dataLe false eS
def leI : Int × Int → Int × Int → Bool := dataLe false eI
def leD : Dt → Dt → Bool := dataLe false eD
def leP : Pos → Pos → Bool := dataLe false eP

theorem lin_of {β : Type} (k : β → PyData) (h : ∀ a b, keyToks (k a) = keyToks (k b) → a = b) : Lin (dataLe false k) where
  total := (sortLe_total (listOrd itemOrd) false fun b => keyToks (k b)).total
  trans := (sortLe_total (listOrd itemOrd) false fun b => keyToks (k b)).trans
  anti := fun a b h1 h2 => by
    refine h a b (lex_total (O := itemOrd) _ _ ?_ ?_)
    · have h2' : (!PyProof.Rows.lexLt itemOrd (keyToks (k a)) (keyToks (k b))) = true := h2
      rwa [Bool.not_eq_true'] at h2'
    · have h1' : (!PyProof.Rows.lexLt itemOrd (keyToks (k b)) (keyToks (k a))) = true := h1
      rwa [Bool.not_eq_true'] at h1'
theorem toks_tuple (xs : List PyData) : keyToks (.tuple xs) = keyToksAll xs := by rw [keyToks]
theorem toks_int (n : Int) : keyToks (.int n) = [.inl n] := by rw [keyToks]
theorem toksA_nil : keyToksAll [] = [.inl 0] := by rw [keyToksAll]
theorem toksA_cons (x : PyData) (xs : List PyData) : keyToksAll (x :: xs) = .inl 1 :: (keyToks x ++ keyToksAll xs) := by rw [keyToksAll]

/-- rows of signs, one behind the other, are told apart item by item -/
theorem toks_one {α : Type} {e : α → PyData} (h : ∀ (a b : α) (l m : List (Int ⊕ List Nat)), keyToks (e a) ++ l = keyToks (e b) ++ m → a = b ∧ l = m) :
    ∀ (xs ys : List α) (l m : List (Int ⊕ List Nat)), keyToksAll (xs.map e) ++ l = keyToksAll (ys.map e) ++ m → xs = ys ∧ l = m
  | [], [], l, m, q => by
    rw [List.map_nil, toksA_nil] at q
    exact ⟨rfl, by simpa using q⟩
  | [], y :: ys, l, m, q => by
    rw [List.map_nil, toksA_nil, List.map_cons, toksA_cons] at q
    simp at q
  | x :: xs, [], l, m, q => by
    rw [List.map_nil, toksA_nil, List.map_cons, toksA_cons] at q
    simp at q
  | x :: xs, y :: ys, l, m, q => by
    rw [List.map_cons, toksA_cons, List.map_cons, toksA_cons, List.cons_append, List.cons_append, List.append_assoc, List.append_assoc] at q
    have q2 := (List.cons.inj q).2
    obtain ⟨e1, e2⟩ := h x y _ _ q2
    obtain ⟨e3, e4⟩ := toks_one h xs ys l m e2
    exact ⟨by rw [e1, e3], e4⟩
theorem one_int (a b : Int) (l m : List (Int ⊕ List Nat)) (q : keyToks (.int a) ++ l = keyToks (.int b) ++ m) : a = b ∧ l = m := by
  rw [toks_int, toks_int] at q
  simp only [List.cons_append, List.nil_append, List.cons.injEq, Sum.inl.injEq] at q
  exact q
theorem one_S (a b : List Int) (l m : List (Int ⊕ List Nat)) (q : keyToks (eS a) ++ l = keyToks (eS b) ++ m) : a = b ∧ l = m := by
  unfold eS at q
  rw [toks_tuple, toks_tuple] at q
  exact toks_one one_int a b l m q
theorem one_I (a b : Int × Int) (l m : List (Int ⊕ List Nat)) (q : keyToks (eI a) ++ l = keyToks (eI b) ++ m) : a = b ∧ l = m := by
  unfold eI at q
  rw [toks_tuple, toks_tuple] at q
  have h := toks_one one_int [a.1, a.2] [b.1, b.2] l m q
  have h1 := h.1
  simp only [List.cons.injEq, and_true] at h1
  exact ⟨Prod.ext h1.1 h1.2, h.2⟩
theorem one_D (a b : Dt) (l m : List (Int ⊕ List Nat)) (q : keyToks (eD a) ++ l = keyToks (eD b) ++ m) : a = b ∧ l = m := by
  unfold eD at q
  rw [toks_tuple, toks_tuple] at q
  exact toks_one one_I a b l m q
theorem one_P (a b : Pos) (l m : List (Int ⊕ List Nat)) (q : keyToks (eP a) ++ l = keyToks (eP b) ++ m) : a = b ∧ l = m := by
  unfold eP at q
  rw [toks_tuple, toks_tuple, toksA_cons, toksA_cons, toksA_nil, toksA_cons, toksA_cons, toksA_nil] at q
  simp only [List.cons_append, List.append_assoc, List.nil_append] at q
  have q2 := (List.cons.inj q).2
  obtain ⟨e1, e2⟩ := one_D _ _ _ _ q2
  have e3 := (List.cons.inj e2).2
  obtain ⟨e4, e5⟩ := one_S _ _ _ _ e3
  exact ⟨Prod.ext e1 e4, (List.cons.inj e5).2⟩
theorem inj_of {α : Type} {e : α → PyData} (h : ∀ (a b : α) (l m : List (Int ⊕ List Nat)), keyToks (e a) ++ l = keyToks (e b) ++ m → a = b ∧ l = m) (a b : α) (q : keyToks (e a) = keyToks (e b)) : a = b := (h a b [] [] (by rw [q])).1
theorem lin_leS : Lin leS := lin_of eS (inj_of one_S)
theorem lin_leI : Lin leI := lin_of eI (inj_of one_I)
theorem lin_leD : Lin leD := lin_of eD (inj_of one_D)
theorem lin_leP : Lin leP := lin_of eP (inj_of one_P)
theorem lin_leInt : Lin (dataLe false (fun n : Int => .int n)) := lin_of _ (inj_of one_int)
theorem leInt_eq : dataLe false (fun n : Int => .int n) = leZ := dataLe_int fun n => n
theorem by_offer : ByOffer leI := ⟨lin_leI, fun p q h => by
  have e : leI = fun p q => decide (p.1 < q.1 ∨ (p.1 = q.1 ∧ p.2 ≤ q.2)) := dataLe_ii (fun p : Int × Int => p.1) fun p => p.2
  rw [e]
  exact decide_eq_true (.inl h)⟩

/-! alike, equal, shaped -/
theorem alike_S (a b : List Int) : alike (eS a) (eS b) = true := by
  unfold eS
  rw [alike]
  exact alike_ints a b
theorem alike_I (a b : Int × Int) : alike (eI a) (eI b) = true := by
  unfold eI
  simp [alike, alikeAll]
theorem alikeAll_map {α : Type} {e : α → PyData} (h : ∀ a b, alike (e a) (e b) = true) : ∀ xs ys : List α, alikeAll (xs.map e) (ys.map e) = true
  | [], ys => by
    rw [List.map_nil, alikeAll]
  | x :: xs, [] => by
    rw [List.map_nil, List.map_cons, alikeAll]
  | x :: xs, y :: ys => by
    rw [List.map_cons, List.map_cons, alikeAll, h, alikeAll_map h xs ys]
    rfl
theorem alike_D (a b : Dt) : alike (eD a) (eD b) = true := by
  unfold eD
  rw [alike]
  exact alikeAll_map alike_I a b
theorem alike_P (a b : Pos) : alike (eP a) (eP b) = true := by
  unfold eP
  simp only [alike, alikeAll, alike_D, alike_S, Bool.and_self]
theorem eqv_map {α : Type} [DecidableEq α] {e : α → PyData} (h : ∀ a b, PyData.eqv (e a) (e b) = decide (a = b)) : ∀ xs ys : List α, PyData.eqvAll (xs.map e) (ys.map e) = decide (xs = ys)
  | [], [] => by simp [PyData.eqvAll]
  | [], y :: ys => by simp [PyData.eqvAll]
  | x :: xs, [] => by simp [PyData.eqvAll]
  | x :: xs, y :: ys => by
    rw [List.map_cons, List.map_cons, PyData.eqvAll, h, eqv_map h xs ys]
    by_cases e1 : x = y <;> by_cases e2 : xs = ys <;> simp [e1, e2]
theorem eqv_int (a b : Int) : PyData.eqv (.int a) (.int b) = decide (a = b) := by
  rw [PyData.eqv]
  exact Bool.beq_eq_decide_eq a b
theorem eqv_S (a b : List Int) : PyData.eqv (eS a) (eS b) = decide (a = b) := by
  unfold eS
  rw [PyData.eqv]
  exact eqv_map eqv_int a b
theorem eqv_I (a b : Int × Int) : PyData.eqv (eI a) (eI b) = decide (a = b) := by
  obtain ⟨a1, a2⟩ := a
  obtain ⟨b1, b2⟩ := b
  unfold eI
  simp only [PyData.eqv, PyData.eqvAll, Bool.and_true]
  by_cases e1 : a1 = b1 <;> by_cases e2 : a2 = b2 <;> simp [e1, e2]
theorem eqv_D (a b : Dt) : PyData.eqv (eD a) (eD b) = decide (a = b) := by
  unfold eD
  rw [PyData.eqv]
  exact eqv_map eqv_I a b
theorem eqv_P (a b : Pos) : PyData.eqv (eP a) (eP b) = decide (a = b) := by
  obtain ⟨a1, a2⟩ := a
  obtain ⟨b1, b2⟩ := b
  unfold eP
  rw [PyData.eqv, PyData.eqvAll, PyData.eqvAll, PyData.eqvAll, eqv_D, eqv_S]
  by_cases e1 : a1 = b1 <;> by_cases e2 : a2 = b2 <;> simp [e1, e2]
theorem eqv_LS (a b : List (List Int)) : PyData.eqv (.list (a.map eS)) (.list (b.map eS)) = decide (a = b) := by
  rw [PyData.eqv]
  exact eqv_map eqv_S a b
theorem eqv_LP (a b : List Pos) : PyData.eqv (.tuple (a.map eP)) (.tuple (b.map eP)) = decide (a = b) := by
  rw [PyData.eqv]
  exact eqv_map eqv_P a b

theorem by_dated : ByDated leS leD leP where
  lin := lin_leP
  one := fun d k k' h => by
    have h' : (!dataLt (eS k') (eS k)) = true := h
    show (!dataLt (eP (d, k')) (eP (d, k))) = true
    unfold eP
    rw [dataLt_pair (alike_D _ _) (alike_S _ _), eqv_D, if_pos (decide_eq_true rfl)]
    split
    · rfl
    · exact h'
  two := fun d d' k k' hne h => by
    have h' : (!dataLt (eD d') (eD d)) = true := h
    show (!dataLt (eP (d', k')) (eP (d, k))) = true
    unfold eP
    rw [dataLt_pair (alike_D _ _) (alike_S _ _), eqv_D, if_neg (by rw [decide_eq_true_eq]; exact fun e => hne e.symm)]
    exact h'
end K49
namespace K49
open PySem PySem.Spec PyProof.Rows L2 Evl
/-! ## data in the heap: what keeps them -/
/-- tuples stay -/
def Tx (H H' : Hp) : Prop := ∀ a xs, Rd H a (.tup xs) → Rd H' a (.tup xs)
theorem Tx.refl (H : Hp) : Tx H H := fun _ _ h => h
theorem Tx.trans {H H1 H2 : Hp} (a : Tx H H1) (b : Tx H1 H2) : Tx H H2 := fun x o h => b x o (a x o h)
theorem Tx.of {H H' : Hp} (e : Ex H H') : Tx H H' := fun _ _ h => ex_rd e h
/-- no tuple, not known to be one -/
def NoTup : HO → Prop
  | .tup _ => False
  | .frz _ (.tup _) => False
  | _ => True
theorem Tx.upd {H : Hp} {p : Addr} {o u : HO} (h : H p = some u) (n : NoTup u) : Tx H (upd H p o) := fun a xs r => by
  have hne : a ≠ p := by
    rintro rfl
    rcases r with r | ⟨q, r⟩
    · rw [h] at r; cases r; exact n
    · rw [h] at r; cases r; exact n
  rcases r with r | ⟨q, r⟩
  · exact .inl (by rw [upd_ne hne]; exact r)
  · exact .inr ⟨q, by rw [upd_ne hne]; exact r⟩
theorem Tx.new {H : Hp} {p : Addr} {o : HO} (h : H p = none) : Tx H (L2.upd H p o) := Tx.of (Ex.new h)
mutual
/-- data without lists -/
def flatT : PyData → Bool
  | .list _ => false
  | .dict _ => false
  | .tuple xs => flatTs xs
  | _ => true
def flatTs : List PyData → Bool
  | [] => true
  | x :: xs => flatT x && flatTs xs
end
section
variable {K : PySem.W.Frag} {H H' : Hp}
theorem tx_t {a : Addr} {xs : List V} (e : Tx H H') (h : SqT K H a xs) : SqT K H' a xs := h.elim (fun r => .inl (e a xs r)) .inr
mutual
theorem dp_mono (e : Ex H H') : ∀ {d : PyData} {v : V}, Dp K H v d → Dp K H' v d
  | _, _, .non => .non
  | _, _, .bl b => .bl b
  | _, _, .int i => .int i
  | _, _, .str x => .str x
  | _, _, .lst h t => .lst (ex_l e h) (dpAll_mono e t)
  | _, _, .tup h t => .tup (ex_t e h) (dpAll_mono e t)
theorem dpAll_mono (e : Ex H H') : ∀ {ds : List PyData} {vs : List V}, DpAll K H vs ds → DpAll K H' vs ds
  | _, _, .nil => .nil
  | _, _, .cons h t => .cons (dp_mono e h) (dpAll_mono e t)
end
mutual
theorem dp_tx (e : Tx H H') : ∀ {d : PyData} {v : V}, flatT d = true → Dp K H v d → Dp K H' v d
  | _, _, _, .non => .non
  | _, _, _, .bl b => .bl b
  | _, _, _, .int i => .int i
  | _, _, _, .str x => .str x
  | _, _, f, .lst h t => by rw [flatT] at f; cases f
  | _, _, f, .tup h t => .tup (tx_t e h) (dpAll_tx e (by rw [flatT] at f; exact f) t)
theorem dpAll_tx (e : Tx H H') : ∀ {ds : List PyData} {vs : List V}, flatTs ds = true → DpAll K H vs ds → DpAll K H' vs ds
  | _, _, _, .nil => .nil
  | _, _, f, .cons h t => by
    rw [flatTs, Bool.and_eq_true] at f
    exact .cons (dp_tx e f.1 h) (dpAll_tx e f.2 t)
end
theorem dpAll_snoc : ∀ {ds : List PyData} {vs : List V} {v : V} {d : PyData}, DpAll K H vs ds → Dp K H v d → DpAll K H (vs ++ [v]) (ds ++ [d])
  | _, _, _, _, .nil, h => .cons h .nil
  | _, _, _, _, .cons h t, q => .cons h (dpAll_snoc t q)
theorem dpAll_append : ∀ {ds es : List PyData} {vs ws : List V}, DpAll K H vs ds → DpAll K H ws es → DpAll K H (vs ++ ws) (ds ++ es)
  | _, _, _, _, .nil, h => h
  | _, _, _, _, .cons h t, q => .cons h (dpAll_append t q)
theorem dpAll_len : ∀ {ds : List PyData} {vs : List V}, DpAll K H vs ds → vs.length = ds.length
  | _, _, .nil => rfl
  | _, _, .cons _ t => congrArg (· + 1) (dpAll_len t)
theorem dpAll_get : ∀ {ds : List PyData} {vs : List V} {i : Nat} {d : PyData}, DpAll K H vs ds → ds[i]? = some d → ∃ v, vs[i]? = some v ∧ Dp K H v d
  | _, _, _, _, .nil, e => by simp at e
  | _, _, 0, d, .cons h _, e => by simp at e; subst e; exact ⟨_, rfl, h⟩
  | _, _, i + 1, d, .cons _ t, e => by
    obtain ⟨v, h1, h2⟩ := dpAll_get (i := i) (d := d) t (by simpa using e)
    exact ⟨v, by simpa using h1, h2⟩
theorem dpAll_at : ∀ {ds : List PyData} {vs : List V} {i : Nat} {v : V}, DpAll K H vs ds → vs[i]? = some v → ∃ d, ds[i]? = some d ∧ Dp K H v d
  | _, _, _, _, .nil, e => by simp at e
  | _, _, 0, v, .cons h _, e => by simp at e; subst e; exact ⟨_, rfl, h⟩
  | _, _, i + 1, v, .cons _ t, e => by
    obtain ⟨d, h1, h2⟩ := dpAll_at (i := i) (v := v) t (by simpa using e)
    exact ⟨d, by simpa using h1, h2⟩
theorem dp_int {v : V} {n : Int} (h : Dp K H v (.int n)) : v = .int n := by cases h; rfl
theorem dp_bool {v : V} {n : Bool} (h : Dp K H v (.bool n)) : v = .bl n := by cases h; rfl
theorem dp_str {v : V} {x : Str} (h : Dp K H v (.str x)) : v = .str x := by cases h; rfl
theorem dp_tup {v : V} {ds : List PyData} (h : Dp K H v (.tuple ds)) : ∃ a xs, v = .ref a ∧ SqT K H a xs ∧ DpAll K H xs ds := by
  cases h with
  | tup h t => exact ⟨_, _, rfl, h, t⟩
theorem dp_lst {v : V} {ds : List PyData} (h : Dp K H v (.list ds)) : ∃ a xs, v = .ref a ∧ SqL K H a xs ∧ DpAll K H xs ds := by
  cases h with
  | lst h t => exact ⟨_, _, rfl, h, t⟩
theorem dpAll_ints : ∀ {ns : List Int} {vs : List V}, DpAll K H vs (ns.map .int) → vs = ns.map V.int
  | [], _, h => by cases h; rfl
  | n :: ns, _, h => by
    cases h with
    | cons h t => rw [dp_int h, dpAll_ints t]; rfl
theorem ints_dpAll : ∀ ns : List Int, DpAll K H (ns.map V.int) (ns.map .int)
  | [] => .nil
  | n :: ns => .cons (.int n) (ints_dpAll ns)
theorem dp_S {v : V} {s : List Int} (h : Dp K H v (eS s)) : ∃ a, v = .ref a ∧ SqT K H a (s.map V.int) := by
  obtain ⟨a, xs, e, h1, h2⟩ := dp_tup h
  rw [dpAll_ints h2] at h1
  exact ⟨a, e, h1⟩
theorem S_dp {a : Addr} {s : List Int} (h : SqT K H a (s.map V.int)) : Dp K H (.ref a) (eS s) := .tup h (ints_dpAll s)
theorem dp_I {v : V} {p : Int × Int} (h : Dp K H v (eI p)) : ∃ a, v = .ref a ∧ SqT K H a [.int p.1, .int p.2] := by
  obtain ⟨a, xs, e, h1, h2⟩ := dp_tup h
  cases h2 with
  | cons x1 t =>
    cases t with
    | cons x2 t2 =>
      cases t2
      rw [dp_int x1, dp_int x2] at h1
      exact ⟨a, e, h1⟩
theorem I_dp {a : Addr} {p : Int × Int} (h : SqT K H a [.int p.1, .int p.2]) : Dp K H (.ref a) (eI p) := .tup h (.cons (.int _) (.cons (.int _) .nil))
theorem dp_P {v : V} {p : Pos} (h : Dp K H v (eP p)) : ∃ a x y, v = .ref a ∧ SqT K H a [x, y] ∧ Dp K H x (eD p.1) ∧ Dp K H y (eS p.2) := by
  obtain ⟨a, xs, e, h1, h2⟩ := dp_tup h
  cases h2 with
  | cons x1 t =>
    cases t with
    | cons x2 t2 =>
      cases t2
      exact ⟨a, _, _, e, h1, x1, x2⟩
theorem P_dp {a : Addr} {x y : V} {p : Pos} (h : SqT K H a [x, y]) (h1 : Dp K H x (eD p.1)) (h2 : Dp K H y (eS p.2)) : Dp K H (.ref a) (eP p) := .tup h (.cons h1 (.cons h2 .nil))
end
theorem flatTs_map {α : Type} {e : α → PyData} (h : ∀ a, flatT (e a) = true) : ∀ l : List α, flatTs (l.map e) = true
  | [] => by rw [List.map_nil, flatTs]
  | a :: l => by rw [List.map_cons, flatTs, h, flatTs_map h l]; rfl
theorem flat_int (n : Int) : flatT (.int n) = true := by rw [flatT] <;> intro _ h <;> cases h
theorem flat_bool (n : Bool) : flatT (.bool n) = true := by rw [flatT] <;> intro _ h <;> cases h
theorem flat_S (s : List Int) : flatT (eS s) = true := by
  unfold eS
  rw [flatT]
  exact flatTs_map flat_int s
theorem flat_I (p : Int × Int) : flatT (eI p) = true := by
  unfold eI
  rw [flatT, flatTs, flatTs, flatTs, flat_int, flat_int]
  rfl
theorem flat_D (d : Dt) : flatT (eD d) = true := by
  unfold eD
  rw [flatT]
  exact flatTs_map flat_I d
theorem flat_P (p : Pos) : flatT (eP p) = true := by
  unfold eP
  rw [flatT, flatTs, flatTs, flatTs, flat_D, flat_S]
  rfl
/-! shape -/
theorem lay_map {α : Type} {e : α → PyData} (h : ∀ a, (e a).canLay0 = true) : ∀ l : List α, PyData.canLayAll0 (l.map e) = true
  | [] => by simp [PyData.canLayAll0]
  | a :: l => by rw [List.map_cons, PyData.canLayAll0, h, lay_map h l]; rfl
theorem depth_map {α : Type} {e : α → PyData} {n : Nat} (h : ∀ a, (e a).depth ≤ n) : ∀ l : List α, PyData.depthAll (l.map e) ≤ n
  | [] => by simp [PyData.depthAll]
  | a :: l => by
    rw [List.map_cons, PyData.depthAll]
    have := h a
    have := depth_map h l
    omega
theorem lay_int (n : Int) : (PyData.int n).canLay0 = true := by simp [PyData.canLay0]
theorem depth_int (n : Int) : (PyData.int n).depth = 0 := by simp [PyData.depth]
theorem lay_S (s : List Int) : (eS s).canLay0 = true := by
  unfold eS
  rw [PyData.canLay0]
  exact lay_map lay_int s
theorem depth_S (s : List Int) : (eS s).depth ≤ 1 := by
  unfold eS
  rw [PyData.depth]
  have := depth_map (e := PyData.int) (n := 0) (fun a => Nat.le_of_eq (depth_int a)) s
  omega
theorem lay_I (p : Int × Int) : (eI p).canLay0 = true := by simp [eI, PyData.canLay0, PyData.canLayAll0]
theorem depth_I (p : Int × Int) : (eI p).depth ≤ 1 := by simp [eI, PyData.depth, PyData.depthAll]
theorem lay_D (d : Dt) : (eD d).canLay0 = true := by
  unfold eD
  rw [PyData.canLay0]
  exact lay_map lay_I d
theorem depth_D (d : Dt) : (eD d).depth ≤ 2 := by
  unfold eD
  rw [PyData.depth]
  have := depth_map depth_I d
  omega
theorem lay_P (p : Pos) : (eP p).canLay0 = true := by
  unfold eP
  rw [PyData.canLay0, PyData.canLayAll0, PyData.canLayAll0, PyData.canLayAll0, lay_D, lay_S]
  rfl
theorem depth_P (p : Pos) : (eP p).depth ≤ 3 := by
  unfold eP
  rw [PyData.depth, PyData.depthAll, PyData.depthAll, PyData.depthAll]
  have := depth_D p.1
  have := depth_S p.2
  omega
theorem shaped_of {d : PyData} {n : Nat} (h : d.canLay0 = true) (h2 : d.depth ≤ n) (h3 : n ≤ 64) : SeqAt.shaped d = true := by
  show (d.canLay0 && decide (d.depth ≤ 64)) = true
  rw [h, decide_eq_true (Nat.le_trans h2 h3)]
  rfl
theorem shaped_S (s : List Int) : SeqAt.shaped (eS s) = true := shaped_of (lay_S s) (depth_S s) (by decide)
theorem shaped_I (s : Int × Int) : SeqAt.shaped (eI s) = true := shaped_of (lay_I s) (depth_I s) (by decide)
theorem shaped_D (s : Dt) : SeqAt.shaped (eD s) = true := shaped_of (lay_D s) (depth_D s) (by decide)
theorem shaped_P (s : Pos) : SeqAt.shaped (eP s) = true := shaped_of (lay_P s) (depth_P s) (by decide)
theorem shaped_list {α : Type} {e : α → PyData} {n : Nat} (h1 : ∀ a, (e a).canLay0 = true) (h2 : ∀ a, (e a).depth ≤ n) (h3 : n ≤ 60) (l : List α) : SeqAt.shaped (.list (l.map e)) = true :=
  shaped_of (n := n + 1) (by rw [PyData.canLay0]; exact lay_map h1 l) (by rw [PyData.depth]; have := depth_map h2 l; omega) (by omega)
theorem shaped_tuple {α : Type} {e : α → PyData} {n : Nat} (h1 : ∀ a, (e a).canLay0 = true) (h2 : ∀ a, (e a).depth ≤ n) (h3 : n ≤ 60) (l : List α) : SeqAt.shaped (.tuple (l.map e)) = true :=
  shaped_of (n := n + 1) (by rw [PyData.canLay0]; exact lay_map h1 l) (by rw [PyData.depth]; have := depth_map h2 l; omega) (by omega)
theorem shaped_int (n : Int) : SeqAt.shaped (.int n) = true := shaped_of (lay_int n) (Nat.le_of_eq (depth_int n)) (by decide)
end K49
namespace K49
open PySem PySem.Spec PyProof.Rows L2 Evl
/-! ## what evaluates to which data -/
/-- to data | to a new list of data | to arguments of data -/
def EvD (K : PySem.W.Frag) (te : TE) (σ : L2.St) (H : Hp) (d : PyData) : Prop := ∀ H1, Ex H H1 → ∀ Q : VK, (∀ v H2, Ex H1 H2 → Dp K H2 v d → Q v H2) → te σ H1 Q
def EvN (K : PySem.W.Frag) (te : TE) (σ : L2.St) (H : Hp) (ds : List PyData) : Prop := ∀ H1, Ex H H1 → ∀ Q : VK, (∀ p xs H2, H1 p = none → Ex H1 H2 → H2 p = some (.lst xs) → DpAll K H2 xs ds → Q (.ref p) H2) → te σ H1 Q
def EvDs (K : PySem.W.Frag) (ta : TA) (σ : L2.St) (H : Hp) (ds : List PyData) : Prop := ∀ H1, Ex H H1 → ∀ Q : List V → Hp → Prop, (∀ vs H2, Ex H1 H2 → DpAll K H2 vs ds → Q vs H2) → ta σ H1 Q
section
variable {K : PySem.W.Frag} {σ : L2.St} {H H' : Hp} {ta tb te tx : TE} {t u : TT} {v : V} {d e : PyData} {ds es : List PyData}
theorem EvD.mono (e : Ex H H') (h : EvD K te σ H d) : EvD K te σ H' d := fun H1 a Q q => h H1 (e.trans a) Q q
theorem EvN.mono (e : Ex H H') (h : EvN K te σ H ds) : EvN K te σ H' ds := fun H1 a Q q => h H1 (e.trans a) Q q
theorem EvN.toD (h : EvN K te σ H ds) : EvD K te σ H (.list ds) := fun H1 a Q q => h H1 a Q fun p xs H2 _ e2 hp hx => q _ H2 e2 (.lst (sq_of hp) hx)
theorem EvD.int {n : Int} (h : EvD K te σ H (.int n)) : Ev te σ H (.int n) := fun H1 a Q q => h H1 a Q fun v H2 e2 hd => by rw [dp_int hd]; exact q H2 e2
theorem EvD.bl {n : Bool} (h : EvD K te σ H (.bool n)) : Ev te σ H (.bl n) := fun H1 a Q q => h H1 a Q fun v H2 e2 hd => by rw [dp_bool hd]; exact q H2 e2
theorem ed_of (h : Ev te σ H v) (hd : Dp K H v d) : EvD K te σ H d := fun H1 a Q q => h H1 a Q fun H2 e2 => q v H2 e2 (dp_mono (a.trans e2) hd)
theorem ed_var {i : Nat} (h : σ[i]? = some (some v)) (hd : Dp K H v d) : EvD K (tVar i) σ H d := ed_of (ev_var h) hd
theorem ed_int {n : Int} (h : Ev te σ H (.int n)) : EvD K te σ H (.int n) := ed_of h (.int n)
theorem ed_bl {n : Bool} (h : Ev te σ H (.bl n)) : EvD K te σ H (.bool n) := ed_of h (.bl n)
theorem ed_str {n : Str} (h : Ev te σ H (.str n)) : EvD K te σ H (.str n) := ed_of h (.str n)
theorem ed_is (h : EvD K te σ H d) (q : d = e) : EvD K te σ H e := q ▸ h
theorem en_is (h : EvN K te σ H ds) (q : ds = es) : EvN K te σ H es := q ▸ h
/-- == and != -/
theorem ev_eqD (ha : EvD K ta σ H d) (hb : EvD K tb σ H e) (sd : SeqAt.shaped d = true) (se : SeqAt.shaped e = true) : Ev (tOp (rEqD K) ta tb) σ H (.bl (PyData.eqv d e)) := fun H1 a Q q =>
  ha H1 a _ fun x H2 e2 dx => hb H2 (a.trans e2) _ fun y H3 e3 dy => ⟨d, e, dp_mono e3 dx, dy, sd, se, q H3 (e2.trans e3)⟩
theorem ev_neD (ha : EvD K ta σ H d) (hb : EvD K tb σ H e) (sd : SeqAt.shaped d = true) (se : SeqAt.shaped e = true) : Ev (tOp (rNeD K) ta tb) σ H (.bl (!PyData.eqv d e)) := fun H1 a Q q =>
  ha H1 a _ fun x H2 e2 dx => hb H2 (a.trans e2) _ fun y H3 e3 dy => ⟨d, e, dp_mono e3 dx, dy, sd, se, q H3 (e2.trans e3)⟩
/-- in a list of data -/
theorem ev_inL (ha : EvD K ta σ H d) (hb : EvD K tb σ H (.list es)) (sd : SeqAt.shaped d = true) (se : SeqAt.shaped (.list es) = true) : Ev (tOp (rInD K) ta tb) σ H (.bl (es.any fun z => PyData.eqv z d)) := fun H1 a Q q =>
  ha H1 a _ fun x H2 e2 dx => hb H2 (a.trans e2) _ fun y H3 e3 dy => ⟨d, es, dp_mono e3 dx, dy, sd, se, q H3 (e2.trans e3)⟩
theorem ev_niL (ha : EvD K ta σ H d) (hb : EvD K tb σ H (.list es)) (sd : SeqAt.shaped d = true) (se : SeqAt.shaped (.list es) = true) : Ev (tOp (rNotInD K) ta tb) σ H (.bl (!es.any fun z => PyData.eqv z d)) := fun H1 a Q q =>
  ha H1 a _ fun x H2 e2 dx => hb H2 (a.trans e2) _ fun y H3 e3 dy => ⟨d, es, dp_mono e3 dx, dy, sd, se, q H3 (e2.trans e3)⟩
theorem any_eqv {α : Type} [DecidableEq α] {en : α → PyData} (h : ∀ a b, PyData.eqv (en a) (en b) = decide (a = b)) (x : α) (l : List α) : ((l.map en).any fun z => PyData.eqv z (en x)) = decide (x ∈ l) := by
  induction l with
  | nil => rfl
  | cons a l ih =>
    rw [List.map_cons, List.any_cons, ih, h]
    by_cases e1 : a = x
    · simp [e1]
    · have e2 : ¬ x = a := fun z => e1 z.symm
      by_cases e3 : x ∈ l <;> simp [e1, e2, e3]
theorem inV_ints (x : Int) (s : List Int) : inV (.int x) (s.map V.int) = decide (x ∈ s) := by
  unfold inV
  induction s with
  | nil => rfl
  | cons a l ih =>
    rw [List.map_cons, List.any_cons, ih]
    have e0 : eqV (.int a) (.int x) = decide (a = x) := by
      show (a == x) = decide (a = x)
      exact Bool.beq_eq_decide_eq a x
    rw [e0]
    by_cases e1 : a = x
    · simp [e1]
    · have e2 : ¬ x = a := fun z => e1 z.symm
      by_cases e3 : x ∈ l <;> simp [e1, e2, e3]
theorem flat_ints (s : List Int) : (s.map V.int).all flatV = true := by
  rw [List.all_eq_true]
  intro x hx
  obtain ⟨n, _, rfl⟩ := List.mem_map.mp hx
  rfl
/-- an offer in a set -/
theorem ev_inS {x : Int} {s : List Int} (ha : EvD K ta σ H (.int x)) (hb : EvD K tb σ H (eS s)) : Ev (tOp (rIn K false) ta tb) σ H (.bl (decide (x ∈ s))) := fun H1 a Q q =>
  ha H1 a _ fun y H2 e2 dx => hb H2 (a.trans e2) _ fun z H3 e3 dy => by
    rw [dp_int dx]
    obtain ⟨b, rfl, hs⟩ := dp_S dy
    refine ⟨b, s.map V.int, rfl, .inr hs, rfl, flat_ints s, ?_⟩
    rw [if_neg Bool.false_ne_true, inV_ints]
    exact q H3 (e2.trans e3)
theorem ev_niS {x : Int} {s : List Int} (ha : EvD K ta σ H (.int x)) (hb : EvD K tb σ H (eS s)) : Ev (tOp (rIn K true) ta tb) σ H (.bl (!decide (x ∈ s))) := fun H1 a Q q =>
  ha H1 a _ fun y H2 e2 dx => hb H2 (a.trans e2) _ fun z H3 e3 dy => by
    rw [dp_int dx]
    obtain ⟨b, rfl, hs⟩ := dp_S dy
    refine ⟨b, s.map V.int, rfl, .inr hs, rfl, flat_ints s, ?_⟩
    rw [if_pos rfl, inV_ints]
    exact q H3 (e2.trans e3)
/-- in a list of ints -/
theorem ev_inLi {x : Int} {s : List Int} (ha : EvD K ta σ H (.int x)) (hb : EvD K tb σ H (.list (s.map .int))) : Ev (tOp (rIn K false) ta tb) σ H (.bl (decide (x ∈ s))) := fun H1 a Q q =>
  ha H1 a _ fun y H2 e2 dx => hb H2 (a.trans e2) _ fun z H3 e3 dy => by
    rw [dp_int dx]
    obtain ⟨b, xs, rfl, hs, hx⟩ := dp_lst dy
    rw [dpAll_ints hx] at hs
    refine ⟨b, s.map V.int, rfl, .inl hs, rfl, flat_ints s, ?_⟩
    rw [if_neg Bool.false_ne_true, inV_ints]
    exact q H3 (e2.trans e3)
theorem ev_niLi {x : Int} {s : List Int} (ha : EvD K ta σ H (.int x)) (hb : EvD K tb σ H (.list (s.map .int))) : Ev (tOp (rIn K true) ta tb) σ H (.bl (!decide (x ∈ s))) := fun H1 a Q q =>
  ha H1 a _ fun y H2 e2 dx => hb H2 (a.trans e2) _ fun z H3 e3 dy => by
    rw [dp_int dx]
    obtain ⟨b, xs, rfl, hs, hx⟩ := dp_lst dy
    rw [dpAll_ints hx] at hs
    refine ⟨b, s.map V.int, rfl, .inl hs, rfl, flat_ints s, ?_⟩
    rw [if_pos rfl, inV_ints]
    exact q H3 (e2.trans e3)
theorem atI_len {xs : List V} {ds : List PyData} (h : xs.length = ds.length) {i : Int} {d : PyData} (ha : atI ds i = some d) : ∃ j : Nat, ds[j]? = some d ∧ ∀ v, xs[j]? = some v → atI xs i = some v := by
  unfold atI at ha ⊢
  rw [h]
  cases e : ixN ds.length i with
  | none => rw [e] at ha; cases ha
  | some j =>
    rw [e] at ha
    exact ⟨j, ha, fun v hv => hv⟩
/-- an item of a tuple, of a list -/
theorem ed_ixT {i : Int} (ha : EvD K ta σ H (.tuple ds)) (hb : Ev tb σ H (.int i)) (hi : atI ds i = some d) : EvD K (tOp (rIxT K) ta tb) σ H d := fun H1 a Q q =>
  ha H1 a _ fun y H2 e2 dx => hb H2 (a.trans e2) _ fun H3 e3 => by
    obtain ⟨p, xs, rfl, hs, hx⟩ := dp_tup dx
    obtain ⟨j, hj, hv⟩ := atI_len (dpAll_len hx) hi
    obtain ⟨v, h1, h2⟩ := dpAll_get hx hj
    exact ⟨p, xs, i, v, rfl, rfl, ex_t e3 hs, hv v h1, q v H3 (e2.trans e3) (dp_mono e3 h2)⟩
theorem ed_ixL {i : Int} (ha : EvD K ta σ H (.list ds)) (hb : Ev tb σ H (.int i)) (hi : atI ds i = some d) : EvD K (tOp (rIxL K) ta tb) σ H d := fun H1 a Q q =>
  ha H1 a _ fun y H2 e2 dx => hb H2 (a.trans e2) _ fun H3 e3 => by
    obtain ⟨p, xs, rfl, hs, hx⟩ := dp_lst dx
    obtain ⟨j, hj, hv⟩ := atI_len (dpAll_len hx) hi
    obtain ⟨v, h1, h2⟩ := dpAll_get hx hj
    exact ⟨p, xs, i, v, rfl, rfl, ex_l e3 hs, hv v h1, q v H3 (e2.trans e3) (dp_mono e3 h2)⟩
theorem atI_nn {α : Type} {l : List α} {i : Int} {x : α} (h0 : 0 ≤ i) (h : l[i.toNat]? = some x) : atI l i = some x := by
  have := atI_nat h
  rwa [show ((i.toNat : Nat) : Int) = i by omega] at this
/-- arguments, tuples, lists -/
theorem eds_nil : EvDs K tNil σ H [] := fun H1 _ Q q => q [] H1 (Ex.refl H1) .nil
theorem eds_cons {tr : TA} (ha : EvD K ta σ H d) (hr : EvDs K tr σ H ds) : EvDs K (tCons ta tr) σ H (d :: ds) := fun H1 a Q q =>
  ha H1 a _ fun x H2 e2 dx => hr H2 (a.trans e2) _ fun xs H3 e3 dxs => q _ H3 (e2.trans e3) (.cons (dp_mono e3 dx) dxs)
theorem ed_tup {ta : TA} (h : EvDs K ta σ H ds) (hl : ds.length ≤ 100000) : EvD K (tTup ta) σ H (.tuple ds) := fun H1 a Q q =>
  h H1 a _ fun vs H2 e2 dx => ⟨sz_of (by rw [dpAll_len dx]; exact hl), fun p hp => q _ _ (e2.trans (Ex.new hp)) (.tup (st_of upd_same) (dpAll_mono (Ex.new hp) dx))⟩
theorem en_lst {ta : TA} (h : EvDs K ta σ H ds) (hl : ds.length ≤ 100000) : EvN K (tLst ta) σ H ds := fun H1 a Q q =>
  h H1 a _ fun vs H2 e2 dx => ⟨sz_of (by rw [dpAll_len dx]; exact hl), fun p hp => q p vs _ (fresh_back e2 hp) (e2.trans (Ex.new hp)) upd_same (dpAll_mono (Ex.new hp) dx)⟩
theorem ed_P {p : Pos} (ha : EvD K ta σ H (eD p.1)) (hb : EvD K tb σ H (eS p.2)) : EvD K (tTup (tCons ta (tCons tb tNil))) σ H (eP p) := ed_tup (eds_cons ha (eds_cons hb eds_nil)) (by show 2 ≤ 100000; decide)
theorem ed_I {p : Int × Int} (ha : EvD K ta σ H (.int p.1)) (hb : EvD K tb σ H (.int p.2)) : EvD K (tTup (tCons ta (tCons tb tNil))) σ H (eI p) := ed_tup (eds_cons ha (eds_cons hb eds_nil)) (by show 2 ≤ 100000; decide)
/-- tuple + tuple -/
theorem ed_catT (ha : EvD K ta σ H (.tuple ds)) (hb : EvD K tb σ H (.tuple es)) (hl : ds.length + es.length ≤ 100000) : EvD K (tOp (rCatA K) ta tb) σ H (.tuple (ds ++ es)) := fun H1 a Q q =>
  ha H1 a _ fun x H2 e2 dx => hb H2 (a.trans e2) _ fun y H3 e3 dy => by
    obtain ⟨p, xs, rfl, hs, hx⟩ := dp_tup (dp_mono e3 dx)
    obtain ⟨r, ys, rfl, hs2, hy⟩ := dp_tup dy
    have l1 := dpAll_len hx
    have l2 := dpAll_len hy
    refine ⟨p, r, xs, ys, rfl, rfl, hs, hs2, sz_of (by omega), fun ex => ?_, fun ex ey => ?_, fun ex ey c hc => ?_⟩
    · refine q _ H3 (e2.trans e3) ?_
      have : ds = [] := List.length_eq_zero_iff.mp (by rw [← l1, ex]; rfl)
      rw [this, List.nil_append]
      exact .tup hs2 hy
    · refine q _ H3 (e2.trans e3) ?_
      have : es = [] := List.length_eq_zero_iff.mp (by rw [← l2, ey]; rfl)
      rw [this, List.append_nil]
      exact .tup hs hx
    · exact q _ _ ((e2.trans e3).trans (Ex.new hc)) (.tup (st_of upd_same) (dpAll_mono (Ex.new hc) (dpAll_append hx hy)))
/-- list + list, both tracked -/
theorem en_catL {p r : Addr} {xs ys : List V} (ha : Ev ta σ H (.ref p)) (hp : H p = some (.lst xs)) (hx : DpAll K H xs ds) (hb : EvN K tb σ H es) (hl : ds.length + es.length ≤ 100000) : EvN K (tOp rCat ta tb) σ H (ds ++ es) := fun H1 a Q q =>
  ha H1 a _ fun H2 e2 => hb H2 (a.trans e2) _ fun r ys H3 hr e3 hr3 hy => by
    have hx3 := dpAll_mono ((a.trans e2).trans e3) hx
    have l1 := dpAll_len hx3
    have l2 := dpAll_len hy
    refine ⟨p, r, xs, ys, rfl, rfl, ((a.trans e2).trans e3) _ _ hp, hr3, sz_of (by omega), fun c hc => ?_⟩
    exact q c _ _ (fresh_back (e2.trans e3) hc) ((e2.trans e3).trans (Ex.new hc)) upd_same (dpAll_mono (Ex.new hc) (dpAll_append hx3 hy))
theorem en_catNN (ha : EvN K ta σ H ds) (hb : EvN K tb σ H es) (hl : ds.length + es.length ≤ 100000) : EvN K (tOp rCat ta tb) σ H (ds ++ es) := fun H1 a Q q =>
  ha H1 a _ fun p xs H2 hp e2 hp2 hx => hb H2 (a.trans e2) _ fun r ys H3 hr e3 hr3 hy => by
    have hx3 := dpAll_mono e3 hx
    have l1 := dpAll_len hx3
    have l2 := dpAll_len hy
    refine ⟨p, r, xs, ys, rfl, rfl, e3 _ _ hp2, hr3, sz_of (by omega), fun c hc => ?_⟩
    exact q c _ _ (fresh_back (e2.trans e3) hc) ((e2.trans e3).trans (Ex.new hc)) upd_same (dpAll_mono (Ex.new hc) (dpAll_append hx3 hy))
/-- len of a tuple, of a list -/
def rLenD (K : PySem.W.Frag) : List V → Hp → VK → Prop := fun xs H Q => ∃ p ys, xs = [.ref p] ∧ (SqL K H p ys ∨ SqT K H p ys) ∧ Q (.int ys.length) H
theorem ev_lenT (ha : EvD K ta σ H (.tuple ds)) : Ev (tCB (rLenD K) (tCons ta tNil)) σ H (.int (ds.length : Int)) := fun H1 a Q q =>
  ha H1 a _ fun x H2 e2 dx => by
    obtain ⟨p, xs, rfl, hs, hx⟩ := dp_tup dx
    refine ⟨p, xs, rfl, .inr hs, ?_⟩
    rw [dpAll_len hx]
    exact q H2 e2
theorem ev_lenL (ha : EvD K ta σ H (.list ds)) : Ev (tCB (rLenD K) (tCons ta tNil)) σ H (.int (ds.length : Int)) := fun H1 a Q q =>
  ha H1 a _ fun x H2 e2 dx => by
    obtain ⟨p, xs, rfl, hs, hx⟩ := dp_lst dx
    refine ⟨p, xs, rfl, .inl hs, ?_⟩
    rw [dpAll_len hx]
    exact q H2 e2
/-- tuple(list) -/
def rTupD (K : PySem.W.Frag) : List V → Hp → VK → Prop := fun xs H Q => ∃ p ys, xs = [.ref p] ∧ ((SqL K H p ys ∧ ∀ l, H l = none → Q (.ref l) (upd H l (.tup ys))) ∨ (SqT K H p ys ∧ Q (.ref p) H))
theorem ed_tupOf (ha : EvD K ta σ H (.list ds)) : EvD K (tCB (rTupD K) (tCons ta tNil)) σ H (.tuple ds) := fun H1 a Q q =>
  ha H1 a _ fun x H2 e2 dx => by
    obtain ⟨p, xs, rfl, hs, hx⟩ := dp_lst dx
    exact ⟨p, xs, rfl, .inl ⟨hs, fun l hl => q _ _ (e2.trans (Ex.new hl)) (.tup (st_of upd_same) (dpAll_mono (Ex.new hl) hx))⟩⟩
/-- a chain of two comparisons -/
theorem ev_chain {r r' : R2} {tc : TE} {x y z : V} {b c : Bool} (ha : Ev ta σ H x) (hb : Ev tb σ H y) (hr : RV r x y H (.bl b)) (hc : Ev tc σ H z) (hr' : RV r' y z H (.bl c)) : Ev (tChain r r' ta tb tc) σ H (.bl (b && c)) := fun H1 a Q q =>
  ha H1 a _ fun H2 e2 => hb H2 (a.trans e2) _ fun H3 e3 => hr H3 ((a.trans e2).trans e3) _ fun H4 e4 => ⟨b, rfl, by
    cases b with
    | true =>
      rw [if_pos rfl]
      exact hc H4 (((a.trans e2).trans e3).trans e4) _ fun H5 e5 => hr' H5 ((((a.trans e2).trans e3).trans e4).trans e5) _ fun H6 e6 => q H6 ((((e2.trans e3).trans e4).trans e5).trans e6)
    | false =>
      rw [if_neg Bool.false_ne_true]
      exact q H4 ((e2.trans e3).trans e4)⟩
/-- a chain a == b == c of data -/
theorem ev_chainEq {tc : TE} {f : PyData} (ha : EvD K ta σ H d) (hb : EvD K tb σ H e) (hc : EvD K tc σ H f) (sd : SeqAt.shaped d = true) (se : SeqAt.shaped e = true) (sf : SeqAt.shaped f = true) :
    Ev (tChain (rEqD K) (rEqD K) ta tb tc) σ H (.bl (PyData.eqv d e && PyData.eqv e f)) := fun H1 a Q q =>
  ha H1 a _ fun x H2 e2 dx => hb H2 (a.trans e2) _ fun y H3 e3 dy => ⟨d, e, dp_mono e3 dx, dy, sd, se, ⟨PyData.eqv d e, rfl, by
    cases hde : PyData.eqv d e with
    | true =>
      rw [if_pos rfl]
      exact hc H3 ((a.trans e2).trans e3) _ fun z H4 e4 dz => ⟨e, f, dp_mono e4 dy, dz, se, sf, by have z := q H4 ((e2.trans e3).trans e4); rw [hde] at z; exact z⟩
    | false =>
      rw [if_neg Bool.false_ne_true]
      have z := q H3 (e2.trans e3)
      rw [hde] at z
      exact z⟩⟩

/-! statements -/
variable {D : Ends} {tu tw tz : TS} {g : TG}
theorem s_asgD {i : Nat} (h : EvD K te σ H d) (k : ∀ v H1, Ex H H1 → Dp K H1 v d → D.nx (σ.set i (some v)) H1) : tAsg te (gName i) D σ H := h H (Ex.refl H) _ fun v H1 e hd => k v H1 e hd
theorem q_asgD {i : Nat} (h : EvD K te σ H d) (k : ∀ v H1, Ex H H1 → Dp K H1 v d → tz D (σ.set i (some v)) H1) : tSeq (tAsg te (gName i)) tz D σ H := s_asgD (D := { D with nx := tz D }) h k
theorem s_asgN {i : Nat} (h : EvN K te σ H ds) (k : ∀ p xs H1, H p = none → Ex H H1 → H1 p = some (.lst xs) → DpAll K H1 xs ds → D.nx (σ.set i (some (.ref p))) H1) : tAsg te (gName i) D σ H := h H (Ex.refl H) _ fun p xs H1 hp e hx hd => k p xs H1 hp e hx hd
theorem q_asgN {i : Nat} (h : EvN K te σ H ds) (k : ∀ p xs H1, H p = none → Ex H H1 → H1 p = some (.lst xs) → DpAll K H1 xs ds → tz D (σ.set i (some (.ref p))) H1) : tSeq (tAsg te (gName i)) tz D σ H := s_asgN (D := { D with nx := tz D }) h k
theorem s_retD (h : EvD K te σ H d) (k : ∀ v H1, Ex H H1 → Dp K H1 v d → D.rt v H1) : tRet te D σ H := h H (Ex.refl H) _ k
theorem s_retN (h : EvN K te σ H ds) (k : ∀ p xs H1, H p = none → Ex H H1 → H1 p = some (.lst xs) → DpAll K H1 xs ds → D.rt (.ref p) H1) : tRet te D σ H := h H (Ex.refl H) _ k
/-- xs.append(e) -/
theorem s_appD {l : Addr} {xs : List V} (hl : H l = some (.lst xs)) (ha : Ev ta σ H (.ref l)) (h : EvD K te σ H d) (hz : xs.length < 100000) (k : ∀ v H1, Ex H H1 → Dp K H1 v d → D.nx σ (upd H1 l (.lst (xs ++ [v])))) :
    tDrop (tBM K "list" rAppend ta (tCons te tNil)) D σ H := ha H (Ex.refl H) _ fun H1 e1 =>
  ⟨Or.inl ⟨rfl, xs, sq_of (e1 l _ hl)⟩, h H1 e1 _ fun v H2 e2 hd => ⟨l, xs, v, rfl, rfl, e2 l _ (e1 l _ hl), sz_lt hz, k v H2 (e1.trans e2) hd⟩⟩
theorem q_appD {l : Addr} {xs : List V} (hl : H l = some (.lst xs)) (ha : Ev ta σ H (.ref l)) (h : EvD K te σ H d) (hz : xs.length < 100000) (k : ∀ v H1, Ex H H1 → Dp K H1 v d → tz D σ (upd H1 l (.lst (xs ++ [v])))) :
    tSeq (tDrop (tBM K "list" rAppend ta (tCons te tNil))) tz D σ H := s_appD (D := { D with nx := tz D }) hl ha h hz k
end
/-- what holds behind a change of a tracked list -/
theorem after_upd {K : PySem.W.Frag} {H0 H : Hp} {p : Addr} {xs ys : List V} (e : Ex H0 H) (h0 : H0 p = none) (hp : H p = some (.lst xs)) : Ex H0 (upd H p (.lst ys)) ∧ Tx H (upd H p (.lst ys)) := ⟨Ex.mut e h0, Tx.upd hp trivial⟩
theorem after_app {K : PySem.W.Frag} {H : Hp} {p : Addr} {xs : List V} {v : V} {ds : List PyData} {d : PyData} (hp : H p = some (.lst xs)) (hx : DpAll K H xs ds) (hv : Dp K H v d) (f : flatTs ds = true) (f2 : flatT d = true) :
    (upd H p (.lst (xs ++ [v]))) p = some (.lst (xs ++ [v])) ∧ DpAll K (upd H p (.lst (xs ++ [v]))) (xs ++ [v]) (ds ++ [d]) :=
  have t : Tx H (upd H p (.lst (xs ++ [v]))) := Tx.upd hp trivial
  ⟨upd_same, dpAll_snoc (dpAll_tx t f hx) (dp_tx t f2 hv)⟩
end K49
namespace K49
open PySem PySem.Spec PyProof.Rows L2 Evl
/-! ## comprehensions and loops over data -/
section
variable {K : PySem.W.Frag} {σ : L2.St} {H H' : Hp} {tl te : TE} {t : TT} {g : TG} {vs : List Nat} {α β : Type}
/-- what a comprehension gives of the items taken so far -/
def lcRes (f : α → Bool) (gg : α → β) (e2 : β → PyData) (as : List α) : List PyData := ((as.filter f).map gg).map e2
theorem lcRes_yes {f : α → Bool} {gg : α → β} {e2 : β → PyData} {as : List α} {a : α} (h : f a = true) : lcRes f gg e2 (as ++ [a]) = lcRes f gg e2 as ++ [e2 (gg a)] := by
  unfold lcRes
  rw [List.filter_append, List.filter_cons, if_pos h, List.map_append, List.map_append]
  rfl
theorem lcRes_no {f : α → Bool} {gg : α → β} {e2 : β → PyData} {as : List α} {a : α} (h : f a = false) : lcRes f gg e2 (as ++ [a]) = lcRes f gg e2 as := by
  unfold lcRes
  rw [List.filter_append, List.filter_cons, if_neg (by rw [h]; decide)]
  show List.map e2 (List.map gg (List.filter f as ++ [])) = _
  rw [List.append_nil]
theorem lcRes_len (f : α → Bool) (gg : α → β) (e2 : β → PyData) (as : List α) : (lcRes f gg e2 as).length ≤ as.length := by
  unfold lcRes
  rw [List.length_map, List.length_map]
  exact List.length_filter_le _ _
theorem flat_lcRes {e2 : β → PyData} (h : ∀ b, flatT (e2 b) = true) (f : α → Bool) (gg : α → β) (as : List α) : flatTs (lcRes f gg e2 as) = true := flatTs_map h _
theorem take_snoc {l : List α} {i : Nat} {a : α} (h : l[i]? = some a) : l.take (i + 1) = l.take i ++ [a] := by
  rw [List.take_succ, h]
  rfl
/-- the new list so far -/
def Lw (K : PySem.W.Frag) (H : Hp) (Dl : Addr) (ds : List PyData) (H' : Hp) : Prop := H Dl = none ∧ Ex H H' ∧ ∃ xs, H' Dl = some (.lst xs) ∧ DpAll K H' xs ds
theorem Lw.add {H : Hp} {Dl : Addr} {ds : List PyData} {H' H2 : Hp} {d : PyData} {y : V} (w : Lw K H Dl ds H') (e : Ex H' H2) (hy : Dp K H2 y d) (f1 : flatTs ds = true) (f2 : flatT d = true) (hl : ds.length < 100000) :
    ∃ acc, H2 Dl = some (.lst acc) ∧ acc.length < sizeLine ∧ Lw K H Dl (ds ++ [d]) (upd H2 Dl (.lst (acc ++ [y]))) := by
  obtain ⟨h1, h2, xs, h3, h4⟩ := w
  have h3' := e _ _ h3
  have h4' := dpAll_mono e h4
  obtain ⟨a1, a2⟩ := after_app h3' h4' hy f1 f2
  exact ⟨xs, h3', sz_lt (by rw [dpAll_len h4]; exact hl), h1, Ex.mut (h2.trans e) h1, _, a1, a2⟩
theorem Lw.keep {H : Hp} {Dl : Addr} {ds : List PyData} {H' H2 : Hp} (w : Lw K H Dl ds H') (e : Ex H' H2) : Lw K H Dl ds H2 := by
  obtain ⟨h1, h2, xs, h3, h4⟩ := w
  exact ⟨h1, h2.trans e, xs, e _ _ h3, dpAll_mono e h4⟩
/-- one turn -/
theorem lw_turn {H : Hp} {Dl : Addr} {as : List α} {f : α → Bool} {gg : α → β} {e2 : β → PyData} {H' : Hp} {σ2 : L2.St} {i : Nat} {a : α} (w : Lw K H Dl (lcRes f gg e2 (as.take i)) H') (hi : as[i]? = some a) (hz : as.length ≤ 40000) (fl : ∀ b, flatT (e2 b) = true)
    (ht : EvT t σ2 H' (f a)) (he : ∀ H1, Ex H' H1 → f a = true → EvD K te σ2 H1 (e2 (gg a))) :
    t σ2 H' fun b H3 => if b = true then te σ2 H3 fun y H4 => ∃ acc, H4 Dl = some (.lst acc) ∧ acc.length < sizeLine ∧ Lw K H Dl (lcRes f gg e2 (as.take (i + 1))) (upd H4 Dl (.lst (acc ++ [y]))) else Lw K H Dl (lcRes f gg e2 (as.take (i + 1))) H3 := by
  refine ht H' (Ex.refl _) _ fun H3 e3 => ?_
  rw [take_snoc hi]
  cases hf : f a with
  | true =>
    rw [if_pos rfl, lcRes_yes hf]
    refine he H3 e3 hf H3 (Ex.refl _) _ fun y H4 e4 hy => ?_
    refine w.add (e3.trans e4) hy (flat_lcRes fl _ _ _) (fl _) ?_
    have h1 := lcRes_len f gg e2 (as.take i)
    have h2 := List.length_take_le' i as
    omega
  | false =>
    rw [if_neg Bool.false_ne_true, lcRes_no hf]
    exact w.keep e3
variable {e1 : α → PyData} {e2 : β → PyData} {as : List α} {f : α → Bool} {gg : α → β} {Tg : α → L2.St → Hp → Prop}
/-- what a comprehension over a list, over a tuple gives -/
theorem en_lcL (f : α → Bool) (gg : α → β) (h : EvD K tl σ H (.list (as.map e1))) (hz : as.length ≤ 40000) (fl : ∀ b, flatT (e2 b) = true)
    (hg : ∀ a ∈ as, ∀ x H1, Ex H H1 → Dp K H1 x (e1 a) → ∀ Q : L2.St → Hp → Prop, (∀ σ2, Tg a σ2 H1 → wipe σ2 vs = wipe σ vs → Q σ2 H1) → g x (wipe σ vs) H1 Q)
    (ht : ∀ a ∈ as, ∀ σ2 H1, Ex H H1 → Tg a σ2 H1 → EvT t σ2 H1 (f a))
    (he : ∀ a ∈ as, ∀ σ2 H1 H2, Ex H H1 → Tg a σ2 H1 → Ex H1 H2 → f a = true → EvD K te σ2 H2 (e2 (gg a))) : EvN K (tLc (iList K tl) g t te vs) σ H (lcRes f gg e2 as) := fun H0 e Q q =>
  h H0 e _ fun v H1 ev hv => by
    obtain ⟨a, xs, rfl, hs, hx⟩ := dp_lst hv
    refine ⟨a, rfl, ⟨xs, hs⟩, fun Dl hD => lc_list (xs := xs) (fun i H' => Lw K H1 Dl (lcRes f gg e2 (as.take i)) H') ⟨hD, Ex.new hD, [], upd_same, .nil⟩ (fun i H' _ w => ex_l w.2.1 hs) (fun i x H' hi w => ?_) fun H' w => ?_⟩
    · obtain ⟨d, hd, hxd⟩ := dpAll_at hx hi
      rw [List.getElem?_map] at hd
      obtain ⟨b, hb, rfl⟩ := Option.map_eq_some_iff.mp hd
      have hm := List.mem_of_getElem? hb
      have e0 : Ex H H' := (e.trans ev).trans w.2.1
      refine hg b hm x H' e0 (dp_mono w.2.1 hxd) _ fun σ2 tg hw => ⟨hw, ?_⟩
      exact lw_turn w hb hz fl (ht b hm σ2 H' e0 tg) fun H3 e3 hf => he b hm σ2 H' H3 e0 tg e3 hf
    · have hlen : xs.length = as.length := by rw [dpAll_len hx, List.length_map]
      rw [hlen, List.take_length] at w
      obtain ⟨w1, w2, ys, w3, w4⟩ := w
      exact q Dl ys H' (fresh_back ev w1) (ev.trans w2) w3 w4
theorem en_lcT (f : α → Bool) (gg : α → β) (h : EvD K tl σ H (.tuple (as.map e1))) (hz : as.length ≤ 40000) (fl : ∀ b, flatT (e2 b) = true)
    (hg : ∀ a ∈ as, ∀ x H1, Ex H H1 → Dp K H1 x (e1 a) → ∀ Q : L2.St → Hp → Prop, (∀ σ2, Tg a σ2 H1 → wipe σ2 vs = wipe σ vs → Q σ2 H1) → g x (wipe σ vs) H1 Q)
    (ht : ∀ a ∈ as, ∀ σ2 H1, Ex H H1 → Tg a σ2 H1 → EvT t σ2 H1 (f a))
    (he : ∀ a ∈ as, ∀ σ2 H1 H2, Ex H H1 → Tg a σ2 H1 → Ex H1 H2 → f a = true → EvD K te σ2 H2 (e2 (gg a))) : EvN K (tLc (iTup K tl) g t te vs) σ H (lcRes f gg e2 as) := fun H0 e Q q =>
  h H0 e _ fun v H1 ev hv => by
    obtain ⟨a, xs, rfl, hs, hx⟩ := dp_tup hv
    refine ⟨a, rfl, ⟨xs, hs⟩, fun Dl hD => lc_tup (xs := xs) (fun i H' => Lw K H1 Dl (lcRes f gg e2 (as.take i)) H') ⟨hD, Ex.new hD, [], upd_same, .nil⟩ (fun i H' _ w => ex_t w.2.1 hs) (fun i x H' hi w => ?_) fun H' w => ?_⟩
    · obtain ⟨d, hd, hxd⟩ := dpAll_at hx hi
      rw [List.getElem?_map] at hd
      obtain ⟨b, hb, rfl⟩ := Option.map_eq_some_iff.mp hd
      have hm := List.mem_of_getElem? hb
      have e0 : Ex H H' := (e.trans ev).trans w.2.1
      refine hg b hm x H' e0 (dp_mono w.2.1 hxd) _ fun σ2 tg hw => ⟨hw, ?_⟩
      exact lw_turn w hb hz fl (ht b hm σ2 H' e0 tg) fun H3 e3 hf => he b hm σ2 H' H3 e0 tg e3 hf
    · have hlen : xs.length = as.length := by rw [dpAll_len hx, List.length_map]
      rw [hlen, List.take_length] at w
      obtain ⟨w1, w2, ys, w3, w4⟩ := w
      exact q Dl ys H' (fresh_back ev w1) (ev.trans w2) w3 w4
/-- over range(n), range(a, b) -/
theorem en_lcR1 {ta : TA} {n : Nat} (f : Int → Bool) (gg : Int → β) (h : EvA ta σ H [.int (n : Int)]) (hz : n ≤ 40000) (fl : ∀ b, flatT (e2 b) = true) {Tg : Int → L2.St → Hp → Prop}
    (hg : ∀ a : Int, 0 ≤ a → a < n → ∀ H1, Ex H H1 → ∀ Q : L2.St → Hp → Prop, (∀ σ2, Tg a σ2 H1 → wipe σ2 vs = wipe σ vs → Q σ2 H1) → g (.int a) (wipe σ vs) H1 Q)
    (ht : ∀ a : Int, 0 ≤ a → a < n → ∀ σ2 H1, Ex H H1 → Tg a σ2 H1 → EvT t σ2 H1 (f a))
    (he : ∀ a : Int, 0 ≤ a → a < n → ∀ σ2 H1 H2, Ex H H1 → Tg a σ2 H1 → Ex H1 H2 → f a = true → EvD K te σ2 H2 (e2 (gg a))) :
    EvN K (tLc (iRng1 ta) g t te vs) σ H (lcRes f gg e2 ((List.range n).map fun (i : Nat) => (i : Int))) := fun H0 e Q q =>
  h H0 e _ fun H1 ev => by
    refine ⟨(n : Int), rfl, by omega, by omega, fun Dl hD => ?_⟩
    have key := lc_range (lo := 0) (n := (n : Int).toNat) (g := g) (tt := t) (te := te) (vs := vs) (σ := σ) (Qd := fun H' => Q (.ref Dl) H') (fun i H' => Lw K H1 Dl (lcRes f gg e2 (((List.range n).map fun (i : Nat) => (i : Int)).take i)) H') ⟨hD, Ex.new hD, [], upd_same, .nil⟩ (fun i H' hi w => ?_) fun H' w => ?_
    · exact key
    · have hi' : i < n := by omega
      have hb : ((List.range n).map fun (i : Nat) => (i : Int))[i]? = some (i : Int) := by
        rw [List.getElem?_map, List.getElem?_range hi']
        rfl
      have e0 : Ex H H' := (e.trans ev).trans w.2.1
      rw [show (0 : Int) + (i : Int) = (i : Int) from Int.zero_add _]
      refine hg (i : Int) (by omega) (by omega) H' e0 _ fun σ2 tg hw => ⟨hw, ?_⟩
      exact lw_turn w hb (by rw [List.length_map, List.length_range]; exact hz) fl (ht (i : Int) (by omega) (by omega) σ2 H' e0 tg) fun H3 e3 hf => he (i : Int) (by omega) (by omega) σ2 H' H3 e0 tg e3 hf
    · have hlen : (n : Int).toNat = ((List.range n).map fun (i : Nat) => (i : Int)).length := by simp
      rw [hlen, List.take_length] at w
      obtain ⟨w1, w2, ys, w3, w4⟩ := w
      exact q Dl ys H' (fresh_back ev w1) (ev.trans w2) w3 w4

/-! targets -/
/-- a name -/
def TgN (K : PySem.W.Frag) (σ : L2.St) (j : Nat) (d : PyData) (σ2 : L2.St) (H : Hp) : Prop := ∃ x, σ2 = σ.set j (some x) ∧ Dp K H x d
/-- two names -/
def TgP (K : PySem.W.Frag) (σ : L2.St) (i j : Nat) (d e : PyData) (σ2 : L2.St) (H : Hp) : Prop := ∃ x y, σ2 = (σ.set i (some x)).set j (some y) ∧ Dp K H x d ∧ Dp K H y e
theorem tg_name {j : Nat} {σw : L2.St} {x : V} {d : PyData} {H1 : Hp} (hx : Dp K H1 x d) (hw : ∀ x, wipe (σw.set j (some x)) vs = wipe σ vs) (Q : L2.St → Hp → Prop) (q : ∀ σ2, TgN K σw j d σ2 H1 → wipe σ2 vs = wipe σ vs → Q σ2 H1) : gName j x σw H1 Q := q _ ⟨x, rfl, hx⟩ (hw x)
theorem tg_pair {i j : Nat} {σw : L2.St} {x : V} {d e : PyData} {H1 : Hp} (hx : Dp K H1 x (.tuple [d, e])) (hw : ∀ x y, wipe ((σw.set i (some x)).set j (some y)) vs = wipe σ vs) (Q : L2.St → Hp → Prop) (q : ∀ σ2, TgP K σw i j d e σ2 H1 → wipe σ2 vs = wipe σ vs → Q σ2 H1) :
    gTup K 2 (gCons (gName i) (gCons (gName j) gNil)) x σw H1 Q := by
  obtain ⟨a, xs, rfl, hs, hx⟩ := dp_tup hx
  cases hx with
  | cons h1 t1 =>
    cases t1 with
    | cons h2 t2 =>
      cases t2
      exact ⟨a, _, rfl, hs, rfl, _, _, rfl, _, _, rfl, rfl, q _ ⟨_, _, rfl, h1, h2⟩ (hw _ _)⟩
theorem ev_yes : EvT tYes σ H true := fun H1 _ _ q => q H1 (Ex.refl H1)

/-! for loops over data: Pv by the items gone through -/
variable {tu tz : TS} {D : Ends}
theorem split_at {l : List α} {i : Nat} {a : α} (h : l[i]? = some a) : l = l.take i ++ a :: l.drop (i + 1) := by
  obtain ⟨hi, e⟩ := List.getElem?_eq_some_iff.mp h
  have h2 := List.take_append_drop i l
  rw [List.drop_eq_getElem_cons hi, e] at h2
  exact h2.symm
/-- over a tuple of data without lists -/
theorem s_forT (h : EvD K tl σ H (.tuple (as.map e1))) (fl : ∀ a, flatT (e1 a) = true) (Pv : Hp → List α → L2.St → Hp → Prop) (h0 : ∀ H1, Ex H H1 → Pv H1 [] σ H1) (hk : ∀ H1 l σ' H', Ex H H1 → Pv H1 l σ' H' → Tx H1 H')
    (hg : ∀ H1 l a r, Ex H H1 → as = l ++ a :: r → ∀ x σ' H', Pv H1 l σ' H' → Dp K H' x (e1 a) → g x σ' H' fun σ2 H2 => tu { D with nx := Pv H1 (l ++ [a]), ct := Pv H1 (l ++ [a]), bk := D.nx } σ2 H2) (hd : ∀ H1 σ' H', Ex H H1 → Pv H1 as σ' H' → D.nx σ' H') : tFor (iTup K tl) g tu D σ H :=
  h H (Ex.refl H) _ fun v H1 ev hv => by
    obtain ⟨a, xs, rfl, hs, hx⟩ := dp_tup hv
    have hlen : xs.length = as.length := by rw [dpAll_len hx, List.length_map]
    refine ⟨a, rfl, ⟨xs, hs⟩, for_tup (xs := xs) (fun i σ' H' => Pv H1 (as.take i) σ' H') (h0 H1 ev) (fun i σ' H' _ w => tx_t (hk H1 _ _ _ ev w) hs) (fun i x σ' H' hi w => ?_) fun σ' H' w => ?_⟩
    · obtain ⟨d, hd', hxd⟩ := dpAll_at hx hi
      rw [List.getElem?_map] at hd'
      obtain ⟨b, hb, rfl⟩ := Option.map_eq_some_iff.mp hd'
      rw [take_snoc hb]
      exact hg H1 _ b _ ev (split_at hb) x σ' H' w (dp_tx (hk H1 _ _ _ ev w) (fl b) hxd)
    · rw [hlen, List.take_length] at w
      exact hd H1 σ' H' ev w
/-- over a new list of data without lists -/
theorem s_forN (h : EvN K tl σ H (as.map e1)) (fl : ∀ a, flatT (e1 a) = true) (Pv : Hp → Addr → List V → List α → L2.St → Hp → Prop) (h0 : ∀ H1 p xs, Ex H H1 → H p = none → H1 p = some (.lst xs) → Pv H1 p xs [] σ H1)
    (hk : ∀ H1 p xs l σ' H', Ex H H1 → H p = none → H1 p = some (.lst xs) → Pv H1 p xs l σ' H' → Tx H1 H' ∧ H' p = some (.lst xs))
    (hg : ∀ H1 p xs l a r, Ex H H1 → H p = none → H1 p = some (.lst xs) → as = l ++ a :: r → ∀ x σ' H', Pv H1 p xs l σ' H' → Dp K H' x (e1 a) → g x σ' H' fun σ2 H2 => tu { D with nx := Pv H1 p xs (l ++ [a]), ct := Pv H1 p xs (l ++ [a]), bk := D.nx } σ2 H2)
    (hd : ∀ H1 p xs σ' H', Ex H H1 → H p = none → H1 p = some (.lst xs) → Pv H1 p xs as σ' H' → D.nx σ' H') : tFor (iList K tl) g tu D σ H :=
  h H (Ex.refl H) _ fun p xs H1 hp ev hl hx => by
    have hlen : xs.length = as.length := by rw [dpAll_len hx, List.length_map]
    refine ⟨p, rfl, ⟨xs, sq_of hl⟩, for_list (xs := xs) (fun i σ' H' => Pv H1 p xs (as.take i) σ' H') (h0 H1 p xs ev hp hl) (fun i σ' H' _ w => sq_of (hk H1 p xs _ _ _ ev hp hl w).2) (fun i x σ' H' hi w => ?_) fun σ' H' w => ?_⟩
    · obtain ⟨d, hd', hxd⟩ := dpAll_at hx hi
      rw [List.getElem?_map] at hd'
      obtain ⟨b, hb, rfl⟩ := Option.map_eq_some_iff.mp hd'
      rw [take_snoc hb]
      exact hg H1 p xs _ b _ ev hp hl (split_at hb) x σ' H' w (dp_tx (hk H1 p xs _ _ _ ev hp hl w).1 (fl b) hxd)
    · rw [hlen, List.take_length] at w
      exact hd H1 p xs σ' H' ev hp hl w
/-- over a list that a name holds, of any data -/
theorem s_forV {v : V} (h : Ev tl σ H v) (hv : Dp K H v (.list (as.map e1))) (Pv : List α → L2.St → Hp → Prop) (h0 : ∀ H1, Ex H H1 → Pv [] σ H1) (hk : ∀ l σ' H', Pv l σ' H' → Ex H H')
    (hg : ∀ l a r, as = l ++ a :: r → ∀ x σ' H', Pv l σ' H' → Dp K H' x (e1 a) → g x σ' H' fun σ2 H2 => tu { D with nx := Pv (l ++ [a]), ct := Pv (l ++ [a]), bk := D.nx } σ2 H2) (hd : ∀ σ' H', Pv as σ' H' → D.nx σ' H') : tFor (iList K tl) g tu D σ H :=
  h H (Ex.refl H) _ fun H1 ev => by
    obtain ⟨a, xs, rfl, hs, hx⟩ := dp_lst hv
    have hlen : xs.length = as.length := by rw [dpAll_len hx, List.length_map]
    refine ⟨a, rfl, ⟨xs, ex_l ev hs⟩, for_list (xs := xs) (fun i σ' H' => Pv (as.take i) σ' H') (h0 H1 ev) (fun i σ' H' _ w => ex_l (hk _ _ _ w) hs) (fun i x σ' H' hi w => ?_) fun σ' H' w => ?_⟩
    · obtain ⟨d, hd', hxd⟩ := dpAll_at hx hi
      rw [List.getElem?_map] at hd'
      obtain ⟨b, hb, rfl⟩ := Option.map_eq_some_iff.mp hd'
      rw [take_snoc hb]
      exact hg _ b _ (split_at hb) x σ' H' w (dp_mono (hk _ _ _ w) hxd)
    · rw [hlen, List.take_length] at w
      exact hd σ' H' w
end
end K49
namespace K49
open PySem PySem.Spec PySem.W PyProof.Rows L2 Evl
/-! ## sorting: tuples whose places are alike, bare ones among them -/
section
variable {prog : Program} {w : World} {A : Around} {E : Value → Shared → Prop} {s : Shared}
theorem call_lt_tup {Q : Value → Shared → Prop} {l b : Addr} {items items2 : Array Value} {e r : Nat → Bool} (hl : s.heap.IsTuple l items) (hb : s.heap.IsTuple b items2)
    (he : ∀ j (h1 : j < items.size) (h2 : j < items2.size), SeqAt.EqAt A.in1 s items[j] items2[j] (e j)) (hr : ∀ j (h1 : j < items.size) (h2 : j < items2.size), e j = false → SeqAt.RcLt A.in1 s items[j] items2[j] (r j))
    (h : Q (.bool (SeqAt.firstLt e r (decide (items.size < items2.size)) (List.range (min items.size items2.size)))) s) : wpAny (model prog w) A (call (.builtin "tuple.__lt__") [.ref l, .ref b]) Q E s := by
  obtain ⟨⟨c1, d1, x1, y1⟩, p1, p2, n1, p3⟩ := id hl
  obtain ⟨⟨c2, d2, x2, y2⟩, q1, q2, n2, q3⟩ := id hb
  simp only at p2 p3 q2 q3
  subst p2 p3 q2 q3
  exact call_meets F.slot_tuple_lt ⟨_, p1, rfl⟩ F.entry_tuple_lt (F.args_tuple_lt_2 _ _) (SeqAt.tuple_ltAt l b items items2 n1 n2 d1 d2 y1 y2 e r) ⟨p1, q1, he, hr, h⟩
/-- one tuple against another one, as sorting compares keys of one type -/
theorem one_tup {xs ys : List PyData} {a b : Value} {as bs : List Addr} {Q : Bool → Shared → Prop} (ra : Reads s.heap a (.tuple xs) as) (rb : Reads s.heap b (.tuple ys) bs) (h : alike (.tuple xs) (.tuple ys) = true)
    (hu : A.units + min (PyData.tuple xs).depth (PyData.tuple ys).depth < cLine) (hq : Q (dataLt (.tuple xs) (.tuple ys)) s) : wpAny (model prog w) A (oneLt' true a b) Q E s := by
  have hal : alikeAll xs ys = true := by simpa [alike] using h
  cases ra with
  | @tuple l o vs n _ as1 h1 h2 h3 h4 =>
    cases rb with
    | @tuple l' o' vs' n' _ bs1 k1 k2 k3 k4 =>
      have n1 : vs.size = xs.length := by simpa using SeqAt.ReadsAll.length _ _ _ h4
      have n2 : vs'.size = ys.length := by simpa using SeqAt.ReadsAll.length _ _ _ k4
      rw [dataLt_tuple, ← firstLt_toks xs ys hal, ← n1, ← n2] at hq
      rw [oneLt'_eq]
      simp only [if_true]
      refine wpAny_bind (wpAny_cRoomFor (SeqAt.room_here hu) ?_)
      refine wpAny_bind (wpAny_callSpecialIfBound?_slot (T := "tuple") ⟨_, h1, h2⟩ F.slot_tuple_lt (call_lt_tup (e := SeqAt.pairEq xs ys) (r := fun j => dataLt (xs.getD j .none) (ys.getD j .none)) ⟨_, h1, h2, _, h3⟩ ⟨_, k1, k2, _, k3⟩ (fun j j1 j2 => ?_) (fun j j1 j2 hj => ?_) ?_))
      · have := eqAt_alikeAll xs ys A.in1 s vs.toList vs'.toList _ _ h4 k4 hal (SeqAt.room_in hu) j (by simpa using j1) (by simpa using j2)
        simpa using this
      · have := rcLt_alikeAll xs ys A.in1 s vs.toList vs'.toList _ _ h4 k4 hal (SeqAt.room_in hu) j (by simpa using j1) (by simpa using j2) hj
        simpa using this
      · exact wpAny_truthy_bool hq
/-- the firsts of tuples, none of a bare one -/
theorem firsts_tups : ∀ {vs : List Value} {ds : List PyData}, EachIs (fun v d => ∃ as, Reads s.heap v d as) vs ds → (∀ d, d ∈ ds → ∃ xs, d = .tuple xs) →
    ∃ fs : List (Option Value), fs.length = vs.length ∧ ((∃ d, d ∈ ds ∧ d = .tuple []) → ∃ f, f ∈ fs ∧ f = none) ∧ ∀ {M : Model} {A : Around} {E : Value → Shared → Prop} {Q : List (Option Value) → Shared → Prop}, Q fs s → wpAny M A (vs.mapM firstOfTuple') Q E s
  | _, _, .nil, _ => ⟨[], rfl, fun ⟨d, h, _⟩ => by simp at h, fun {M A E Q} h => by rw [List.mapM_nil]; exact wpAny_pure h⟩
  | _, _, .cons (b := d) ⟨as, r⟩ t, ht => by
    obtain ⟨fs, h1, h2, h3⟩ := firsts_tups t fun d hd => ht d (List.mem_cons_of_mem _ hd)
    obtain ⟨xs, rfl⟩ := ht d List.mem_cons_self
    cases r with
    | @tuple l o vs n _ _ ho hc hd hr =>
      refine ⟨vs[0]? :: fs, by rw [List.length_cons, List.length_cons, h1], fun ⟨d, hm, e⟩ => ?_, fun {M A E Q} h => ?_⟩
      · rcases List.mem_cons.mp hm with z | z
        · rw [e] at z
          have z2 : xs = [] := by
            injection z with z
            exact z.symm
          rw [z2] at hr
          have hl := SeqAt.ReadsAll.length _ _ _ hr
          have : vs.size = 0 := by simpa using hl
          exact ⟨_, List.mem_cons_self, Array.getElem?_eq_none (by omega)⟩
        · obtain ⟨f, hf, e2⟩ := h2 ⟨d, z, e⟩
          exact ⟨f, List.mem_cons_of_mem _ hf, e2⟩
      · rw [List.mapM_cons]
        refine wpAny_bind ?_
        rw [kas_first_eq]
        refine wpAny_bind (Looks.here (show Looks M s.heap (typeOf (.ref l)) o.cls from (Looks.ld ho).andThen .now) ?_)
        rw [hc, if_neg (by first | decide | simp)]
        refine wpAny_bind (listItems_at ho hd (wpAny_pure ?_))
        exact wpAny_bind (h3 (Q := fun bs s' => wpAny M A (pure (vs[0]? :: bs)) Q E s') (wpAny_pure h))
end
section
variable {prog : Program} {w : World} {A : Around} {s : Shared}
/-- tuples that read as alike data can be sorted, bare ones among them -/
theorem sorts_bare {vs : List Value} {ds : List PyData} (e : EachIs (fun v d => ∃ as, Reads s.heap v d as) vs ds) (hal : AllAlike ds) (ht : ∀ d, d ∈ ds → ∃ xs, d = .tuple xs) (hb : ∃ d, d ∈ ds ∧ d = .tuple []) (hu : ∀ d, d ∈ ds → A.units + d.depth < cLine) : SortsAt prog w A s (dataKind s.heap ds) vs := by
  have room : ∀ {d d' : PyData}, d ∈ ds → A.units + min d.depth d'.depth < cLine := fun {d d'} hd => Nat.lt_of_le_of_lt (Nat.add_le_add_left (Nat.min_le_left _ _) _) (hu d hd)
  refine ⟨fun v hv => ?_, ?_⟩
  · obtain ⟨d, hd, as, r⟩ := e.left v hv
    exact ⟨_, dataKind_some hal hd r⟩
  · obtain ⟨fs, f1, f2, f3⟩ := firsts_tups e ht
    obtain ⟨f0, hf0, e0⟩ := f2 hb
    subst e0
    have hnot : ¬ (fs.toArray.all fun x => x.isSome) = true := fun z => by
      rw [List.all_toArray, List.all_eq_true] at z
      have := z none hf0
      simp at this
    by_cases hf : (fs.toArray[0]?.bind id).isSome = true
    · -- the first is none of them
      refine ⟨general', fun E x y a b Q ha hb' hq => ?_, fun h2 E Q hq => ?_⟩
      · obtain ⟨d, as, hd, ra, rfl⟩ := dataKind_inv ha
        obtain ⟨d', as', hd', rb, rfl⟩ := dataKind_inv hb'
        have hne : d ≠ .none := by
          obtain ⟨xs, rfl⟩ := ht d hd
          intro z
          cases z
        show wpAny _ _ (oneLt' false x y) _ _ _
        exact oneLt_alike (fun z => by cases z) ra rb (hal d hd d' hd') hne (room hd) hq
      · rw [keyKind'_eq, List.mapM_toArray, map_eq_pure_bind]
        refine wpAny_bind (wpAny_bind (f3 (wpAny_pure ?_)))
        rw [if_neg hnot, if_pos hf]
        exact wpAny_pure hq
    · refine ⟨oneType', fun E x y a b Q ha hb' hq => ?_, fun h2 E Q hq => ?_⟩
      · obtain ⟨d, as, hd, ra, rfl⟩ := dataKind_inv ha
        obtain ⟨d', as', hd', rb, rfl⟩ := dataKind_inv hb'
        have hdd := hal d hd d' hd'
        have hroom := room (d' := d') hd
        obtain ⟨xs, rfl⟩ := ht d hd
        obtain ⟨ys, rfl⟩ := ht d' hd'
        rw [keyLt'_oneType]
        exact one_tup ra rb hdd hroom hq
      · rw [keyKind'_eq, List.mapM_toArray, map_eq_pure_bind]
        refine wpAny_bind (wpAny_bind (f3 (wpAny_pure ?_)))
        rw [if_neg hnot, if_neg hf]
        have hT : ∀ v ∈ vs, Looks (model prog w) s.heap (typeOf v) (Value.type "tuple") := fun v hv => by
          obtain ⟨d, hd, as, r⟩ := e.left v hv
          obtain ⟨xs, rfl⟩ := ht d hd
          exact looks_reads r
        have hT2 : (Value.type "tuple" == Value.type "tuple") = true := beq_self_eq_true _
        obtain ⟨v1, vr, rfl⟩ : ∃ v1 vr, vs = v1 :: vr := by
          match vs, h2 with
          | v1 :: vr, _ => exact ⟨v1, vr, rfl⟩
          | [], h2 => simp at h2
        rw [oneTypeOnly'_eq, List.mapM_toArray, map_eq_pure_bind]
        refine wpAny_bind (wpAny_bind (wpAny_bind (kas_mapM (r := Value.type "tuple") _ (fun v hv Q' hq => (hT v hv).here hq) (wpAny_pure ?_))))
        have hall : ((List.map (fun _ => Value.type "tuple") (v1 :: vr)).toArray.all fun x => x == Value.type "tuple") = true := by
          simp only [List.all_toArray, List.all_map, List.all_eq_true]
          intro _ _
          exact hT2
        have h0 : (List.map (fun _ => Value.type "tuple") (v1 :: vr)).toArray[0]? = some (Value.type "tuple") := by simp
        rw [h0]
        simp only [hall, if_true]
        exact wpAny_pure (wpAny_pure hq)
/-- tuples, or none of them a tuple -/
def Srt2 (ds : List PyData) : Prop := (∀ d, d ∈ ds → ∃ xs, d = .tuple xs) ∨ ∀ d, d ∈ ds → d ≠ .none ∧ ∀ xs, d ≠ .tuple xs
theorem sorts_data {vs : List Value} {ds : List PyData} (e : EachIs (fun v d => ∃ as, Reads s.heap v d as) vs ds) (hal : AllAlike ds) (ht : Srt2 ds) (hu : ∀ d, d ∈ ds → A.units + d.depth < cLine) : SortsAt prog w A s (dataKind s.heap ds) vs := by
  rcases ht with ht | ht
  · by_cases hb : ∃ d, d ∈ ds ∧ d = .tuple []
    · exact sorts_bare e hal ht hb hu
    · refine SortsAt.data e hal (.inl fun d hd => ?_) hu
      obtain ⟨xs, rfl⟩ := ht d hd
      cases xs with
      | nil => exact absurd ⟨_, hd, rfl⟩ hb
      | cons x r => exact ⟨x, r, rfl⟩
  · exact SortsAt.data e hal (.inr ht) hu
end

/-! ### what can be collected into a list; sorted of it -/
/-- collect(x), by values -/
def CollR (X : Cx) (r : V → Hp → (List V → Hp → Prop) → Prop) : Prop :=
  ∀ (pins : List (Addr × Obj)) (s : Shared) (σ : L2.St) (H : Hp) (x : V) (v : Value) (E : Value → Shared → Prop) (Q : List V → Hp → Prop), Inv X pins σ H s → RelV x v → r x H Q →
    wpAny (model X.prog X.w) X.A.in1 (collect v) (fun us s' => ∃ ys H', Inv X pins σ H' s' ∧ Vals ys us ∧ Q ys H') E s
section
variable {X : Cx} {pins : List (Addr × Obj)} {σ : L2.St} {H : Hp} {s : Shared}
theorem each_of_dp (I : Inv X pins σ H s) {α : Type} {en : α → PyData} : ∀ {as : List α} {ys : List V} {us : List Value}, DpAll X.K H ys (as.map en) → Vals ys us →
    EachIs (fun v b => (∃ y, RelV y v ∧ Dp X.K H y (en b)) ∧ ∃ bs, Reads s.heap v (en b) bs) us as
  | [], _, _, h, r => by
    cases h
    cases r
    exact .nil
  | a :: as, _, _, h, r => by
    cases h with
    | cons h1 h2 =>
      cases r with
      | cons r1 r2 => exact .cons ⟨⟨_, r1, h1⟩, Dp.reads I _ _ _ h1 r1⟩ (each_of_dp I h2 r2)
theorem dp_of_each {K : PySem.W.Frag} {H : Hp} {α : Type} {en : α → PyData} : ∀ {as : List α} {us : List Value}, EachIs (fun v b => ∃ y, RelV y v ∧ Dp K H y (en b)) us as → ∃ zs, Vals zs us ∧ DpAll K H zs (as.map en)
  | _, _, .nil => ⟨[], .nil, .nil⟩
  | _, _, .cons ⟨y, r, h⟩ t => by
    obtain ⟨zs, h1, h2⟩ := dp_of_each t
    exact ⟨y :: zs, .cons r h1, .cons h h2⟩
/-- sorted(x) -/
def rSortD (K : PySem.W.Frag) (r : V → Hp → (List V → Hp → Prop) → Prop) : List V → Hp → VK → Prop := fun xs H Q => ∃ x, xs = [x] ∧ r x H fun ys H1 => ∃ (α : Type) (en : α → PyData) (as : List α), DpAll K H1 ys (as.map en) ∧ AllAlike (as.map en) ∧ Srt2 (as.map en) ∧
  (∀ a ∈ as, (en a).depth ≤ 50) ∧ as.length ≤ 100000 ∧ ∀ p zs, H1 p = none → DpAll K H1 zs ((as.mergeSort (dataLe false en)).map en) → Q (.ref p) (upd H1 p (.lst zs))
theorem cr_sortD {r : V → Hp → (List V → Hp → Prop) → Prop} (hu : X.A.units + 64 < cLine) (hc : CollR X r) : CallR X (.builtin "sorted") (rSortD X.K r) := by
  intro pins s σ H xs us Q I rx h
  obtain ⟨x, rfl, h⟩ := h
  obtain ⟨u, rfl, r1⟩ := vals1 rx
  refine Calls.call_function_entry kind_sorted plain_sorted entry_sorted (args_sorted1 _) ?_
  unfold Builtin.«sorted»
  refine wpAny_bind (m := checkCount "sorted" 1 1 _) (wpAny_pure ?_)
  refine wpAny_bind (wpAny_mono (hc pins s σ H x u _ _ I r1 h) (fun vs s1 hq => ?_) fun _ _ e => e)
  obtain ⟨ys, H1, I1, rv, α, en, as, hd, hal, hsr, hdep, hlen, q⟩ := hq
  have hvl : vs.length = as.length := by rw [← rv.length, dpAll_len hd, List.length_map]
  have hz : vs.length ≤ sizeLine := sz_of (by omega)
  have e := each_of_dp I1 hd rv
  refine wpAny_bind (wpAny_newList ?_ hz)
  have hoL : (s1.heap.push (seqObj "list" vs.toArray 0)).get? s1.heap.objs.size = some (seqObj "list" vs.toArray 0) := Heap.get?_push_size _ rfl
  have hold : ∀ b o, s1.heap.get? b = some o → (sortingHeap (s1.heap.push (seqObj "list" vs.toArray 0)) s1.heap.objs.size vs).get? b = some o := fun b o q =>
    sortingHeap_old (Nat.ne_of_lt (Heap.lt_size q)) (Heap.get?_push_of_some _ q)
  have er : EachIs (fun v b => ∃ bs, Reads (sortingHeap (s1.heap.push (seqObj "list" vs.toArray 0)) s1.heap.objs.size vs) v (en b) bs) vs as := e.mono fun _ _ z => let ⟨bs, rr⟩ := z.2; ⟨bs, PyProof.Rows.Reads.keeps hold rr⟩
  have S : SortsAt X.prog X.w X.A.in1.in1 { s1 with heap := sortingHeap (s1.heap.push (seqObj "list" vs.toArray 0)) s1.heap.objs.size vs } _ vs :=
    sorts_data (s := { s1 with heap := sortingHeap (s1.heap.push (seqObj "list" vs.toArray 0)) s1.heap.objs.size vs }) (each_map (R := fun v d => ∃ bs, Reads (sortingHeap (s1.heap.push (seqObj "list" vs.toArray 0)) s1.heap.objs.size vs) v d bs) en er) hal hsr (fun d hd' => by
      obtain ⟨a, ha, rfl⟩ := List.mem_map.mp hd'
      have h1 := hdep a ha
      have h2 : X.A.in1.in1.units = X.A.units + 2 := rfl
      rw [h2]
      omega)
  refine wpAny_bind (wpAny_holding (wpAny_call_entry slot_list_sort ⟨_, hoL, rfl⟩ entry_list_sort
    (list_sort_vals (s := { s1 with heap := s1.heap.push (seqObj "list" vs.toArray 0) }) hoL S hz ⟨_, rfl, ?_⟩) (args_list_sort _)))
  have eo : EachIs (fun v b => ∃ y, RelV y v ∧ Dp X.K H1 y (en b)) (sortVals (dataKind (sortingHeap (s1.heap.push (seqObj "list" vs.toArray 0)) s1.heap.objs.size vs) (as.map en)) false vs vs) (as.mergeSort (dataLe false en)) :=
    sortVals_data false (e.mono fun _ _ z => z.1) er hal
  obtain ⟨zs, z1, z2⟩ := dp_of_each eo
  obtain ⟨ep, he⟩ := sortedHeap_at (vs := vs) (out := (sortVals (dataKind (sortingHeap (s1.heap.push (seqObj "list" vs.toArray 0)) s1.heap.objs.size vs) (as.map en)) false vs vs).toArray) hoL
  have hzl : zs.length ≤ sizeLine := by
    rw [dpAll_len z2, List.length_map, List.length_mergeSort, ← hvl]
    exact hz
  refine wpAny_pure ⟨_, rfl, .ref s1.heap.objs.size, upd H1 s1.heap.objs.size (.lst zs), I1.laid (t' := s1.toks) (fun b u eb => ?_) (Nat.le_refl _) (show ObjOk X.prog X.w _ _ _ (.lst zs) from ⟨hzl, _, ep, z1, he⟩), rfl, q _ zs I1.fresh z2⟩
  rw [sortedHeap_old (Nat.ne_of_lt (Heap.lt_size eb)) (by rw [size_push']; exact Nat.lt_succ_of_lt (Heap.lt_size eb))]
  exact Heap.get?_push_of_some _ eb

/-- a list, a tuple -/
def cSeq (K : PySem.W.Frag) : V → Hp → (List V → Hp → Prop) → Prop := fun x H Q => ∃ a xs, x = .ref a ∧ (SqL K H a xs ∨ SqT K H a xs) ∧ Q xs H
theorem cl_seq : CollR X (cSeq X.K) := by
  intro pins s σ H x v E Q I rx h
  obtain ⟨a, xs, rfl, hs, q⟩ := h
  cases rx
  rcases hs with hs | hs
  · obtain ⟨its, r, ⟨o, n, ho, hc, hdn, hd⟩, hz⟩ := I.list hs
    refine collect_list (vs := its) ⟨o, ho, hc, n, hd⟩ ⟨xs, H, I.kept (t' := s.toks) (fun b u e => ?_), r, q⟩ (by rw [← r.length]; exact hz)
    rw [Heap.get?_update_ne _ _ _ _ (Nat.ne_of_lt (Heap.lt_size e))]
    exact Heap.get?_push_of_some _ e
  · obtain ⟨its, r, ⟨o, ho, hc, n, hd⟩, hz⟩ := I.tuple hs
    have hzl : its.length ≤ sizeLine := by rw [← r.length]; exact hz
    unfold collect
    refine wpAny_bind (wpAny_runValue (codeAny_builtin entry_proto_collect' ?_))
    show wpAny _ _ (do again (.builtin "list.__iadd__" ⟨[← newList [], .ref a], []⟩)) _ _ s
    refine wpAny_bind (wpAny_newList (wpAny_pure ⟨Code.quiet_builtin _ (by decide +kernel), codeAny_builtin entry_list_iadd' ?_⟩) (Nat.zero_le _))
    show wpAny _ _ (Builtin.List.listExtendWith (.ref s.heap.objs.size) (.ref a) (.ref s.heap.objs.size)) _ _ { s with heap := s.heap.push (seqObj "list" #[] 0) }
    unfold Builtin.List.listExtendWith
    have ho' : (s.heap.push (seqObj "list" #[] 0)).get? a = some o := Heap.get?_push_of_some _ ho
    refine wpAny_bind (wpAny_typeOf (T := "tuple") ⟨o, ho', hc⟩ ?_)
    have ht : (Value.type "tuple" == Value.type "tuple") = true := by rfl
    rw [if_pos (by rw [ht]; simp)]
    refine wpAny_bind (listItems_at ho' hd ?_)
    refine wpAny_bind (listItems_at (xs := #[]) (n := 0) (Heap.get?_push_size _ rfl) rfl ?_)
    rw [if_neg (by simp)]
    refine wpAny_bind (listUpdate_at (xs := #[]) (n := 0) (Heap.get?_push_size _ rfl) rfl ?_ (Nat.zero_le _) (by show (#[] ++ its.toArray).size ≤ sizeLine + 1; simp only [Array.size_append, List.size_toArray, List.length_nil]; omega))
    refine wpAny_pure ?_
    show wpAny _ _ (load s.heap.objs.size >>= _) _ E { s with heap := (s.heap.push (seqObj "list" #[] 0)).update s.heap.objs.size (Obj.mapSeq (· ++ its.toArray)) }
    refine wpAny_bind (wpAny_load (get?_update_seq (Heap.get?_push_size _ rfl) _) ?_)
    show wpAny _ _ (pure ((#[] : Array Value) ++ its.toArray).toList) _ E _
    rw [show ((#[] : Array Value) ++ its.toArray).toList = its by simp]
    refine wpAny_pure ⟨xs, H, I.kept (t' := s.toks) (fun b u e => ?_), r, q⟩
    rw [Heap.get?_update_ne _ _ _ _ (Nat.ne_of_lt (Heap.lt_size e))]
    exact Heap.get?_push_of_some _ e
end
end K49
namespace K49
open PySem PySem.Spec PyProof.Rows L2 Evl
/-! ## the text by places -/
def top (i : Nat) : Stmt := PySem.Challenge.pw_offerstands_k49_whole_positions_and_move.main.body.getD i (.Pass ⟨0, 0, 0, 0⟩)
abbrev sWhole : Stmt := top 12
abbrev sIsSet : Stmt := top 13
abbrev sAll : Stmt := top 14
abbrev sSubs : Stmt := top 15
abbrev sTog : Stmt := top 16
abbrev sSame : Stmt := top 17
abbrev sPart : Stmt := top 21
abbrev sCInit : Stmt := inClass (top 22) 0
abbrev sCLen : Stmt := inClass (top 22) 1
abbrev sWith : Stmt := top 24
abbrev sAgr : Stmt := top 25
abbrev sWish : Stmt := top 26
abbrev sSide : Stmt := top 27
abbrev sSett : Stmt := top 28
abbrev sFit : Stmt := top 33
abbrev sTInit : Stmt := inClass (top 36) 0
abbrev sTLen : Stmt := inClass (top 36) 1
abbrev sDated : Stmt := top 37
abbrev sDeed : Stmt := top 38
abbrev sOffs : Stmt := top 39
abbrev sAllD : Stmt := top 40
abbrev sBeh : Stmt := top 42
abbrev sPSet : Stmt := top 44
abbrev sPOne : Stmt := top 45
abbrev sPList : Stmt := top 46
abbrev sIsPos : Stmt := top 47
abbrev sPosOf : Stmt := top 48
abbrev sMoves : Stmt := top 49
abbrev sBrok : Stmt := top 50
abbrev sLDeck : Stmt := top 52
abbrev sLDraw : Stmt := top 53
abbrev sLPick : Stmt := top 54
abbrev sLSets : Stmt := top 55
abbrev sLLists : Stmt := top 56
abbrev sLTaken : Stmt := top 57
abbrev sLChooser : Stmt := top 58
abbrev sLKept : Stmt := top 59
abbrev sLDated : Stmt := top 60
abbrev sLBook : Stmt := top 61
abbrev sLaw : Stmt := top 62
theorem scWhole : FnScope ["thing"] ["thing"] (defScope sWhole) := ⟨rfl, rfl, rfl, by decide +kernel, rfl, by decide +kernel, by decide +kernel⟩
theorem scIsSet : FnScope ["offers", "thing", "before", "one"] ["offers", "thing"] (defScope sIsSet) := ⟨rfl, rfl, rfl, by decide +kernel, rfl, by decide +kernel, by decide +kernel⟩
theorem scAll : FnScope ["offers", "found", "rows", "size", "row", "one"] ["offers"] (defScope sAll) := ⟨rfl, rfl, rfl, by decide +kernel, rfl, by decide +kernel, by decide +kernel⟩
theorem scSubs : FnScope ["some", "places", "place"] ["some"] (defScope sSubs) := ⟨rfl, rfl, rfl, by decide +kernel, rfl, by decide +kernel, by decide +kernel⟩
theorem scTog : FnScope ["one", "other"] ["one", "other"] (defScope sTog) := ⟨rfl, rfl, rfl, by decide +kernel, rfl, by decide +kernel, by decide +kernel⟩
theorem scSame : FnScope ["things", "thing"] ["things"] (defScope sSame) := ⟨rfl, rfl, rfl, by decide +kernel, rfl, by decide +kernel, by decide +kernel⟩
theorem scPart : FnScope ["part", "some", "one"] ["part", "some"] (defScope sPart) := ⟨rfl, rfl, rfl, by decide +kernel, rfl, by decide +kernel, by decide +kernel⟩
theorem scCInit : FnScope ["self", "offers", "picks", "sets", "table", "number", "some", "pick"] ["self", "offers", "picks"] (defScope sCInit) := ⟨rfl, rfl, rfl, by decide +kernel, rfl, by decide +kernel, by decide +kernel⟩
theorem scCLen : FnScope ["self"] ["self"] (defScope sCLen) := ⟨rfl, rfl, rfl, by decide +kernel, rfl, by decide +kernel, by decide +kernel⟩
theorem scWith : FnScope ["some", "offer"] ["some", "offer"] (defScope sWith) := ⟨rfl, rfl, rfl, by decide +kernel, rfl, by decide +kernel, by decide +kernel⟩
theorem scAgr : FnScope ["near", "far", "some"] ["near", "far", "some"] (defScope sAgr) := ⟨rfl, rfl, rfl, by decide +kernel, rfl, by decide +kernel, by decide +kernel⟩
theorem scWish : FnScope ["near", "far", "standing", "some", "found", "offer", "whole"] ["near", "far", "standing", "some"] (defScope sWish) := ⟨rfl, rfl, rfl, by decide +kernel, rfl, by decide +kernel, by decide +kernel⟩
theorem scSide : FnScope ["near", "far", "standing", "part"] ["near", "far", "standing", "part"] (defScope sSide) := ⟨rfl, rfl, rfl, by decide +kernel, rfl, by decide +kernel, by decide +kernel⟩
theorem scSett : FnScope ["near", "far", "standing", "part"] ["near", "far", "standing"] (defScope sSett) := ⟨rfl, rfl, rfl, by decide +kernel, rfl, by decide +kernel, by decide +kernel⟩
theorem scFit : FnScope ["lives", "life"] ["lives"] (defScope sFit) := ⟨rfl, rfl, rfl, by decide +kernel, rfl, by decide +kernel, by decide +kernel⟩
theorem scTInit : FnScope ["self", "lives", "loose"] ["self", "lives", "loose"] (defScope sTInit) := ⟨rfl, rfl, rfl, by decide +kernel, rfl, by decide +kernel, by decide +kernel⟩
theorem scTLen : FnScope ["self"] ["self"] (defScope sTLen) := ⟨rfl, rfl, rfl, by decide +kernel, rfl, by decide +kernel, by decide +kernel⟩
theorem scDated : FnScope ["trade", "thing", "last", "pair", "offer", "days"] ["trade", "thing"] (defScope sDated) := ⟨rfl, rfl, rfl, by decide +kernel, rfl, by decide +kernel, by decide +kernel⟩
theorem scDeed : FnScope ["trade", "thing", "word", "offer"] ["trade", "thing"] (defScope sDeed) := ⟨rfl, rfl, rfl, by decide +kernel, rfl, by decide +kernel, by decide +kernel⟩
theorem scOffs : FnScope ["dated", "pair"] ["dated"] (defScope sOffs) := ⟨rfl, rfl, rfl, by decide +kernel, rfl, by decide +kernel, by decide +kernel⟩
theorem scAllD : FnScope ["trade", "rows", "offer", "life", "more", "row", "days"] ["trade"] (defScope sAllD) := ⟨rfl, rfl, rfl, by decide +kernel, rfl, by decide +kernel, by decide +kernel⟩
theorem scBeh : FnScope ["trade", "dated", "deed", "rest", "offer", "days", "pair"] ["trade", "dated", "deed"] (defScope sBeh) := ⟨rfl, rfl, rfl, by decide +kernel, rfl, by decide +kernel, by decide +kernel⟩
theorem scPSet : FnScope ["near", "far", "some", "known"] ["near", "far", "some", "known"] (defScope sPSet) := ⟨rfl, rfl, rfl, by decide +kernel, rfl, by decide +kernel, by decide +kernel⟩
theorem scPOne : FnScope ["near", "far", "trade", "thing", "known", "dated", "kept"] ["near", "far", "trade", "thing", "known"] (defScope sPOne) := ⟨rfl, rfl, rfl, by decide +kernel, rfl, by decide +kernel, by decide +kernel⟩
theorem scPList : FnScope ["near", "far", "trade", "most", "found", "known", "dated", "kept"] ["near", "far", "trade", "most"] (defScope sPList) := ⟨rfl, rfl, rfl, by decide +kernel, rfl, by decide +kernel, by decide +kernel⟩
theorem scIsPos : FnScope ["near", "far", "trade", "thing"] ["near", "far", "trade", "thing"] (defScope sIsPos) := ⟨rfl, rfl, rfl, by decide +kernel, rfl, by decide +kernel, by decide +kernel⟩
theorem scPosOf : FnScope ["near", "far", "trade", "most"] ["near", "far", "trade", "most"] (defScope sPosOf) := ⟨rfl, rfl, rfl, by decide +kernel, rfl, by decide +kernel, by decide +kernel⟩
theorem scMoves : FnScope ["near", "far", "trade", "position", "deed", "known", "after", "kept"] ["near", "far", "trade", "position", "deed"] (defScope sMoves) := ⟨rfl, rfl, rfl, by decide +kernel, rfl, by decide +kernel, by decide +kernel⟩
theorem scBrok : FnScope ["position", "following", "standing", "offer"] ["position", "following"] (defScope sBrok) := ⟨rfl, rfl, rfl, by decide +kernel, rfl, by decide +kernel, by decide +kernel⟩
theorem scLDeck : FnScope ["_law_script", "_law_cell", "_law_rest", "_law_mixed"] ["_law_script"] (defScope sLDeck) := ⟨rfl, rfl, rfl, by decide +kernel, rfl, by decide +kernel, by decide +kernel⟩
theorem scLDraw : FnScope ["_law_deck_here", "_law_below", "_law_cell", "_law_number"] ["_law_deck_here", "_law_below"] (defScope sLDraw) := ⟨rfl, rfl, rfl, by decide +kernel, rfl, by decide +kernel, by decide +kernel⟩
theorem scLPick : FnScope ["_law_deck_here", "_law_some"] ["_law_deck_here", "_law_some"] (defScope sLPick) := ⟨rfl, rfl, rfl, by decide +kernel, rfl, by decide +kernel, by decide +kernel⟩
theorem scLSets : FnScope ["_law_offers", "_law_found", "_law_offer", "_law_some"] ["_law_offers"] (defScope sLSets) := ⟨rfl, rfl, rfl, by decide +kernel, rfl, by decide +kernel, by decide +kernel⟩
theorem scLLists : FnScope ["_law_deck_here", "_law_offers", "_law_found", "_law_turn", "_law_left", "_law_row", "_law_step"] ["_law_deck_here", "_law_offers"] (defScope sLLists) := ⟨rfl, rfl, rfl, by decide +kernel, rfl, by decide +kernel, by decide +kernel⟩
theorem scLTaken : FnScope ["_law_lists_here", "_law_some", "_law_found", "_law_row", "_law_there", "_law_offer"] ["_law_lists_here", "_law_some"] (defScope sLTaken) := ⟨rfl, rfl, rfl, by decide +kernel, rfl, by decide +kernel, by decide +kernel⟩
theorem scLChooser : FnScope ["_law_offers", "_law_lists_here", "_law_some"] ["_law_offers", "_law_lists_here"] (defScope sLChooser) := ⟨rfl, rfl, rfl, by decide +kernel, rfl, by decide +kernel, by decide +kernel⟩
theorem scLKept : FnScope ["_law_sides", "_law_offers", "_law_standing", "_law_found", "_law_some", "_law_inner", "_law_more", "_law_offer", "_law_x", "_law_wide"] ["_law_sides", "_law_offers", "_law_standing"] (defScope sLKept) := ⟨rfl, rfl, rfl, by decide +kernel, rfl, by decide +kernel, by decide +kernel⟩
theorem scLDated : FnScope ["_law_lives", "_law_found", "_law_offer", "_law_life", "_law_fresh", "_law_days", "_law_dated"] ["_law_lives"] (defScope sLDated) := ⟨rfl, rfl, rfl, by decide +kernel, rfl, by decide +kernel, by decide +kernel⟩
theorem scLBook : FnScope ["_law_lives", "_law_dated", "_law_deed", "_law_left", "_law_offer", "_law_days"] ["_law_lives", "_law_dated", "_law_deed"] (defScope sLBook) := ⟨rfl, rfl, rfl, by decide +kernel, rfl, by decide +kernel, by decide +kernel⟩
/-- the names that nobody has bound at the top -/
structure Txt (mg : Str → Option Value) : Prop where
  isi : mg "isinstance" = none
  int : mg "int" = none
  bool : mg "bool" = none
  tuple : mg "tuple" = none
  list : mg "list" = none
  dict : mg "dict" = none
  set : mg "set" = none
  len : mg "len" = none
  range : mg "range" = none
  sorted : mg "sorted" = none
  enum : mg "enumerate" = none
/-! values and data as arguments -/
abbrev AS := V ⊕ PyData
def ArOk (K : PySem.W.Frag) (H : Hp) : List V → List AS → Prop
  | [], [] => True
  | v :: vs, .inl u :: as => v = u ∧ ArOk K H vs as
  | v :: vs, .inr d :: as => Dp K H v d ∧ ArOk K H vs as
  | _, _ => False
def EvAr (K : PySem.W.Frag) (ta : TA) (σ : L2.St) (H : Hp) (as : List AS) : Prop := ∀ H1, Ex H H1 → ∀ Q : List V → Hp → Prop, (∀ vs H2, Ex H1 H2 → ArOk K H2 vs as → Q vs H2) → ta σ H1 Q
section
variable {K : PySem.W.Frag} {σ : L2.St} {H H' : Hp} {ta : TE} {tr : TA} {d : PyData} {v : V} {vs : List V} {as : List AS}
theorem ArOk.len : ∀ {vs : List V} {as : List AS}, ArOk K H vs as → vs.length = as.length
  | [], [], _ => rfl
  | _ :: _, .inl _ :: _, h => congrArg (· + 1) (ArOk.len h.2)
  | _ :: _, .inr _ :: _, h => congrArg (· + 1) (ArOk.len h.2)
theorem ar_nil : EvAr K tNil σ H [] := fun H1 _ Q q => q [] H1 (Ex.refl H1) trivial
theorem ar_v (ha : Ev ta σ H v) (hr : EvAr K tr σ H as) : EvAr K (tCons ta tr) σ H (.inl v :: as) := fun H1 a Q q =>
  ha H1 a _ fun H2 e2 => hr H2 (a.trans e2) _ fun xs H3 e3 dxs => q _ H3 (e2.trans e3) ⟨rfl, dxs⟩
theorem ar_d (ha : EvD K ta σ H d) (hr : EvAr K tr σ H as) : EvAr K (tCons ta tr) σ H (.inr d :: as) := fun H1 a Q q =>
  ha H1 a _ fun x H2 e2 dx => hr H2 (a.trans e2) _ fun xs H3 e3 dxs => q _ H3 (e2.trans e3) ⟨dp_mono e3 dx, dxs⟩
theorem ArOk.nilv (h : ArOk K H vs []) : vs = [] := by
  cases vs with
  | nil => rfl
  | cons _ _ => exact h.elim
theorem ArOk.hv {u : V} (h : ArOk K H vs (.inl u :: as)) : ∃ vs', vs = u :: vs' ∧ True ∧ ArOk K H vs' as := by
  cases vs with
  | nil => exact h.elim
  | cons v vs => exact ⟨vs, by rw [h.1], trivial, h.2⟩
theorem ArOk.hd (h : ArOk K H vs (.inr d :: as)) : ∃ v vs', vs = v :: vs' ∧ Dp K H v d ∧ ArOk K H vs' as := by
  cases vs with
  | nil => exact h.elim
  | cons v vs => exact ⟨v, vs, rfl, h.1, h.2⟩
end
/-- a def that gives data, changing nothing that is known; the same of a new list -/
def spA (K : PySem.W.Frag) (R : Hp → List AS → PyData → Prop) : Sp := fun vs H Q _ => ∃ as d, ArOk K H vs as ∧ R H as d ∧ ∀ v H', Ex H H' → Dp K H' v d → Q v H'
def spN (K : PySem.W.Frag) (R : Hp → List AS → List PyData → Prop) : Sp := fun vs H Q _ => ∃ as ds, ArOk K H vs as ∧ R H as ds ∧ ∀ p xs H', H p = none → Ex H H' → H' p = some (.lst xs) → DpAll K H' xs ds → Q (.ref p) H'
section
variable {K : PySem.W.Frag} {σ : L2.St} {H H' : Hp} {ta : TA} {d : PyData} {ds : List PyData} {as : List AS} {E : XK}
theorem ed_call {R : Hp → List AS → PyData → Prop} (h : EvAr K ta σ H as) (hR : ∀ H1, Ex H H1 → R H1 as d) : EvD K (tCall (spA K R) [] E ta) σ H d := fun H1 a Q q =>
  h H1 a _ fun vs H2 e2 ha => ⟨as, d, by rw [List.append_nil]; exact ha, hR H2 (a.trans e2), fun v H3 e3 hd => q v H3 (e2.trans e3) hd⟩
theorem en_call {R : Hp → List AS → List PyData → Prop} (h : EvAr K ta σ H as) (hR : ∀ H1, Ex H H1 → R H1 as ds) : EvN K (tCall (spN K R) [] E ta) σ H ds := fun H1 a Q q =>
  h H1 a _ fun vs H2 e2 ha => ⟨as, ds, by rw [List.append_nil]; exact ha, hR H2 (a.trans e2), fun p xs H3 hp e3 h3 hx => q p xs H3 (fresh_back e2 hp) (e2.trans e3) h3 hx⟩
end
/-! isinstance -/
theorem tyx_int {K : PySem.W.Frag} {H : Hp} (n : Int) : TyX K H (.int n) (.type "int") := .base (.int n)
theorem tyx_tup {K : PySem.W.Frag} {H : Hp} {a : Addr} {xs : List V} (h : SqT K H a xs) : TyX K H (.ref a) (.type "tuple") := by
  rcases h with (h | ⟨o, h⟩) | h
  · exact .base (.tup h)
  · exact .fTuple h
  · obtain ⟨o, vs, n, h1, h2⟩ := h
    exact .kTuple h1 h2.1
end K49
namespace K49
open PySem PySem.Spec PyProof.Rows L2 Evl
theorem boot_isi : bootBuiltins ("isinstance" : Str) = some (.builtin "isinstance") := by decide +kernel
theorem boot_bool' : bootBuiltins ("bool" : Str) = some (.type "bool") := by decide +kernel
theorem boot_int' : bootBuiltins ("int" : Str) = some (.type "int") := by decide +kernel
theorem boot_tup' : bootBuiltins ("tuple" : Str) = some (.type "tuple") := by decide +kernel
section
variable {K : PySem.W.Frag} {σ : L2.St} {H H' : Hp} {ta : TE} {v : V}
theorem ev_isi {n : String} {t : String} {b : Bool} (ha : Ev ta σ H v) (ty : TyX K H v (.type t)) (hk : kitB t n = some b) (mono : ∀ H1, Ex H H1 → TyX K H1 v (.type t)) : Ev (tCB (rIsi K) (tCons ta (tCons (tC (.ty n)) tNil))) σ H (.bl b) := fun H1 e Q q =>
  ha H1 e _ fun H2 e2 => ⟨v, .ty n, _, _, b, rfl, .ty n, mono H2 (e.trans e2), kit_ty hk, q H2 e2⟩
theorem ev_isiI {n : String} {i : Int} {b : Bool} (ha : EvD K ta σ H (.int i)) (hk : kitB "int" n = some b) : Ev (tCB (rIsi K) (tCons ta (tCons (tC (.ty n)) tNil))) σ H (.bl b) := ev_isi ha.int (tyx_int i) hk fun _ _ => tyx_int i
theorem ev_isiT {n : String} {ds : List PyData} {b : Bool} (ha : EvD K ta σ H (.tuple ds)) (hk : kitB "tuple" n = some b) : Ev (tCB (rIsi K) (tCons ta (tCons (tC (.ty n)) tNil))) σ H (.bl b) := fun H1 e Q q =>
  ha H1 e _ fun x H2 e2 dx => by
    obtain ⟨a, xs, rfl, hs, _⟩ := dp_tup dx
    exact ⟨_, .ty n, _, _, b, rfl, .ty n, tyx_tup hs, kit_ty hk, q _ e2⟩
end
section
variable {K : PySem.W.Frag} {σ : L2.St} {H : Hp} {tl : TE} {α : Type} {as : List α} {e1 : α → PyData} {g : TG} {tu tz : TS} {D : Ends}
theorem q_forT (h : EvD K tl σ H (.tuple (as.map e1))) (fl : ∀ a, flatT (e1 a) = true) (Pv : Hp → List α → L2.St → Hp → Prop) (h0 : ∀ H1, Ex H H1 → Pv H1 [] σ H1) (hk : ∀ H1 l σ' H', Ex H H1 → Pv H1 l σ' H' → Tx H1 H')
    (hg : ∀ H1 l a r, Ex H H1 → as = l ++ a :: r → ∀ x σ' H', Pv H1 l σ' H' → Dp K H' x (e1 a) → g x σ' H' fun σ2 H2 => tu { D with nx := Pv H1 (l ++ [a]), ct := Pv H1 (l ++ [a]), bk := tz D } σ2 H2) (hd : ∀ H1 σ' H', Ex H H1 → Pv H1 as σ' H' → tz D σ' H') : tSeq (tFor (iTup K tl) g tu) tz D σ H :=
  s_forT (D := { D with nx := tz D }) h fl Pv h0 hk hg hd
theorem q_forN (h : EvN K tl σ H (as.map e1)) (fl : ∀ a, flatT (e1 a) = true) (Pv : Hp → Addr → List V → List α → L2.St → Hp → Prop) (h0 : ∀ H1 p xs, Ex H H1 → H p = none → H1 p = some (.lst xs) → Pv H1 p xs [] σ H1)
    (hk : ∀ H1 p xs l σ' H', Ex H H1 → H p = none → H1 p = some (.lst xs) → Pv H1 p xs l σ' H' → Tx H1 H' ∧ H' p = some (.lst xs))
    (hg : ∀ H1 p xs l a r, Ex H H1 → H p = none → H1 p = some (.lst xs) → as = l ++ a :: r → ∀ x σ' H', Pv H1 p xs l σ' H' → Dp K H' x (e1 a) → g x σ' H' fun σ2 H2 => tu { D with nx := Pv H1 p xs (l ++ [a]), ct := Pv H1 p xs (l ++ [a]), bk := tz D } σ2 H2)
    (hd : ∀ H1 p xs σ' H', Ex H H1 → H p = none → H1 p = some (.lst xs) → Pv H1 p xs as σ' H' → tz D σ' H') : tSeq (tFor (iList K tl) g tu) tz D σ H :=
  s_forN (D := { D with nx := tz D }) h fl Pv h0 hk hg hd
theorem q_forV {v : V} (h : Ev tl σ H v) (hv : Dp K H v (.list (as.map e1))) (Pv : List α → L2.St → Hp → Prop) (h0 : ∀ H1, Ex H H1 → Pv [] σ H1) (hk : ∀ l σ' H', Pv l σ' H' → Ex H H')
    (hg : ∀ l a r, as = l ++ a :: r → ∀ x σ' H', Pv l σ' H' → Dp K H' x (e1 a) → g x σ' H' fun σ2 H2 => tu { D with nx := Pv (l ++ [a]), ct := Pv (l ++ [a]), bk := tz D } σ2 H2) (hd : ∀ σ' H', Pv as σ' H' → tz D σ' H') : tSeq (tFor (iList K tl) g tu) tz D σ H :=
  s_forV (D := { D with nx := tz D }) h hv Pv h0 hk hg hd
end
theorem kit_ii : kitB "int" "int" = some true := by decide +kernel
theorem kit_ib : kitB "int" "bool" = some false := by decide +kernel
theorem kit_tt : kitB "tuple" "tuple" = some true := by decide +kernel
theorem asc_last {n : Nat} {s l r : List Int} {a : Int} (h : Asc n s) (e : s = l ++ a :: r) : l.getLast?.getD (-1) < a ∧ a < (n : Int) := by
  have ha := h.2 a (by rw [e]; simp)
  refine ⟨?_, ha.2⟩
  cases q : l.getLast? with
  | none => show (-1 : Int) < a; omega
  | some x =>
    have hx := List.mem_of_getLast? q
    have h1 := h.1
    rw [e] at h1
    exact (List.pairwise_append.mp h1).2.2 x hx a List.mem_cons_self
theorem last_snoc (l : List Int) (a : Int) : (l ++ [a]).getLast?.getD (-1) = a := by simp
section
variable {P : Program} {w : World} {K : PySem.W.Frag} {mg : Str → Option Value} {base : Heap}
/-! is_whole -/
def rWhole : Hp → List AS → PyData → Prop := fun _ as d => ∃ n, as = [.inr (.int n)] ∧ d = .bool true
theorem ok_whole {f : Addr} {fd : FuncData} {k : Nat} (F : Fun K "is_whole" "is_whole" sWhole f fd) (T : Txt mg) : FnOk P w K mg base CX0 (k + 1) f fd ["thing"] (spA K rWhole) := by
  refine F.ok scWhole (fun vs H Q E h => ?_) (fun cdv A outer s H vs Q E hr h => ?_)
  · obtain ⟨as, d, h, ⟨n, rfl, _⟩, _⟩ := h
    exact h.len
  · obtain ⟨as, d, h, ⟨n, rfl, rfl⟩, q⟩ := h
    obtain ⟨v, vs, rfl, h1, h⟩ := h.hd
    obtain rfl := h.nilv
    refine ⟨_, pss_one (ps_ret (pe_and (pe_callB call_isi (by rfl) T.isi boot_isi (pa_cons (pv 0) (pa_cons (pe_bltn (by rfl) T.int boot_int' (v := .ty "int") rfl) pa_nil)))
      (pe_one (pe_not (pe_callB call_isi (by rfl) T.isi boot_isi (pa_cons (pv 0) (pa_cons (pe_bltn (by rfl) T.bool boot_bool' (v := .ty "bool") rfl) pa_nil))))))), ?_⟩
    refine s_retD (d := .bool true) (ed_bl (n := true) ?_) q
    exact ev_andV (ev_isiI (ed_var rfl h1) kit_ii) fun _ => ev_notV (ev_isiI (ed_var rfl h1) kit_ib)
/-! is_set -/
def rIsSet : Hp → List AS → PyData → Prop := fun _ as d => ∃ (n : Nat) (s : List Int), as = [.inr (.int n), .inr (eS s)] ∧ Asc n s ∧ d = .bool true
theorem ok_isset {f fW : Addr} {fd fdW : FuncData} {k : Nat} (F : Fun K "is_set" "is_set" sIsSet f fd) (FW : Fun K "is_whole" "is_whole" sWhole fW fdW) (bW : Binds K fdW ["thing"] []) (gW : mg "is_whole" = some (.ref fW)) (T : Txt mg) :
    FnOk P w K mg base CX0 (k + 2) f fd ["offers", "thing"] (spA K rIsSet) := by
  have GW : FnOk P w K mg base CX0 (k + 1) fW fdW ["thing"] (spA K rWhole) := ok_whole FW T
  refine F.ok scIsSet (fun vs H Q E h => ?_) (fun cdv A outer s H vs Q E hr h => ?_)
  · obtain ⟨as, d, h, ⟨n, s, rfl, _⟩, _⟩ := h
    exact h.len
  · obtain ⟨as, d, h, ⟨n, st, rfl, ha, rfl⟩, q⟩ := h
    obtain ⟨v1, vs, rfl, h1, h⟩ := h.hd
    obtain ⟨v2, vs, rfl, h2, h⟩ := h.hd
    obtain rfl := h.nilv
    refine ⟨_, pss_cons (ps_if (pt_not (pt_val (pe_callB call_isi (by rfl) T.isi boot_isi (pa_cons (pv 1) (pa_cons (pe_bltn (by rfl) T.tuple boot_tup' (v := .ty "tuple") rfl) pa_nil))))) (pss_one (ps_ret pe_bl)) pss_nil)
      (pss_cons (ps_set (i := 2) scIsSet.nd rfl (.inl rfl) (pe_un un_neg pe_int))
      (pss_cons (ps_for PassesOwn.never rfl (pi_tup (pv 1)) (pg_name (i := 3) scIsSet.nd rfl (.inl rfl))
        (pss_cons (ps_if (PW.pt (pw_or (pt_not (pt_val (pe_call GW hr (by rfl) gW FW.kp bW .nil pass0 (pa_cons (pv 3) pa_nil)))) (pw_or1 (pt_not (pt_chain op_lt op_lt (pv 2) (pv 3) (pv 0)))))) (pss_one (ps_ret pe_bl)) pss_nil)
        (pss_one (ps_set (i := 2) scIsSet.nd rfl (.inl rfl) (pv 3)))))
      (pss_one (ps_ret pe_bl)))), ?_⟩
    refine q_when (et_not (et_B (ev_isiT (K := K) (ed_var rfl h2) kit_tt))) (fun z => by cases z) fun _ H1 e1 => ?_
    refine q_asg (v := .int (-1)) (ev_un ev_c ru_neg) fun H2 e2 => ?_
    refine q_forT (e1 := PyData.int) (as := st) (ed_var rfl (dp_mono (e1.trans e2) h2)) flat_int (fun H3 l σ H' => Ex H3 H' ∧ ∃ x, σ = [some v1, some v2, some (.int (l.getLast?.getD (-1))), x])
      (fun H3 _ => ⟨Ex.refl _, _, rfl⟩) (fun H3 l σ H' _ p => Tx.of p.1) (fun H3 l a r e3 hs x σ H' p hx => ?_) fun H3 σ H' e3 p => ?_
    · obtain ⟨e4, y, rfl⟩ := p
      have eA := ((e1.trans e2).trans e3).trans e4
      obtain ⟨b1, b2⟩ := asc_last ha hs
      refine q_when (et_or (et_not (et_B (EvD.bl (ed_call (ar_d (ed_var rfl hx) ar_nil) fun _ _ => ⟨a, rfl, rfl⟩)))) fun _ => et_not (et_test (ev_chain (ev_var rfl) (EvD.int (ed_var rfl hx)) rv_I0 (EvD.int (ed_var rfl (dp_mono eA h1))) rv_I0))) (fun z => ?_) fun _ H5 e5 => ?_
      · rw [decide_eq_true b1, decide_eq_true b2] at z
        cases z
      · refine s_asg (EvD.int (ed_var rfl (dp_mono e5 hx))) fun H6 e6 => ⟨(e4.trans e5).trans e6, some x, ?_⟩
        rw [last_snoc]
        rfl
    · exact s_retD (ed_bl ev_c) fun v H5 e5 hd => q v H5 ((((e1.trans e2).trans e3).trans p.1).trans e5) hd
end
end K49
namespace K49
open PySem PySem.Spec PySem.W PyProof.Rows L2 Evl
/-! ## len of an own instance -/
def rLenI (C : Addr) (sp : Sp) : List V → Hp → VK → Prop := fun xs H Q => ∃ a dx fs, xs = [.ref a] ∧ H a = some (.ins C dx fs) ∧ sp [.ref a] H (fun v H' => ∃ n : Nat, v = .int (n : Int) ∧ n ≤ 100000 ∧ Q (.int (n : Int)) H') E0
section
variable {X : Cx}
theorem cr_lenI {C f : Addr} {fd : FuncData} {k : Nat} {sp : Sp} (F : FnOk X.prog X.w X.K X.mg X.base CX0 k f fd ["self"] sp) (hr : Room (k + 1) X.A)
    (hs : PySem.W.findIn X.K (.ref C) "__len__" = some (some (.ref f))) (hf : PySem.W.isFn X.K (.ref f) = true) (hb : Binds X.K fd ["self"] []) : CallR X (.builtin "len") (rLenI C sp) := by
  intro pins s σ H xs us Q I rx h
  obtain ⟨a, dx, fs, rfl, ha, hsp⟩ := h
  obtain ⟨u, rfl, r1⟩ := vals1 rx
  cases r1
  obtain ⟨mA, J, _⟩ := ins_get I.hok ha
  obtain ⟨od, J, _⟩ := J.look
  obtain ⟨m, hF⟩ := I.fr
  refine PySem.W.len_K hF I.ok.mod.kin J hs hf ?_
  have e0 : Env0 X.prog X.w X.K X.mg X.base X.A.in1 X.stack s H := I.env0.in1
  have hl := F.len _ _ _ _ hsp
  have r2 : Vals [V.ref a] [Value.ref a] := .cons rfl .nil
  refine wpAny_call (codeAny_mono (F.run X.A.in1 X.stack s H ⟨[.ref a], []⟩ [.ref a] [.ref a] _ E0 hr.in1 e0 (by
    have := hb s [.ref a] I.kIn (by simp)
    simpa using this) r2 hsp) fun r s' hq => ?_)
  cases r with
  | error e => exact hq.elim
  | ok fl =>
    cases fl with
    | ret w =>
      obtain ⟨z, H', I', rz, n, ez, hn, q⟩ := I.after hq
      subst ez
      obtain ⟨t, rfl⟩ := rz
      exact ⟨⟨by omega, by omega⟩, .int (n : Int), H', I'.tok _, ⟨_, rfl⟩, q⟩
    | next => exact False.elim hq
    | brk => exact False.elim hq
    | cont => exact False.elim hq
end
/-! ## enumerate(tuple) -/
def IteT (K : PySem.W.Frag) (a : Addr) : It :=
  ⟨fun i H => ∃ (xs : List V) (x : V), SqT K H a xs ∧ xs[i]? = some x, fun i H v H' => ∃ T x, v = .ref T ∧ H T = none ∧ H' = upd H T (.tup [.int (i : Nat), x]) ∧ ∀ xs, SqT K H a xs → xs[i]? = some x, fun i H => ∃ xs : List V, SqT K H a xs ∧ xs.length ≤ i⟩
set_option maxHeartbeats 1000000 in
theorem enum_new1 {v : Value} {o : Obj} {Hd : Heap → Prop} (B : Begins v o Hd) :
    Meets (Builtin.«enumerate.__new__» ⟨[.type "enumerate", v], []⟩) (fun _ R s => Hd s.heap ∧ R (.ok (.ret (.ref (s.heap.push o).objs.size))) { s with heap := (s.heap.push o).push { cls := .type "enumerate", data := .fields #[.none, .bool false, .ref s.heap.objs.size, rawInt 0, .none, .none] } }) :=
  .of_wp fun pr wo A R s hh => by
    obtain ⟨hp, gs, dr, tk, os⟩ := s; obtain ⟨hb, hh⟩ := hh
    have hsu := sub_enumerate
    have qi : ∀ {A' : Around} {E : Value → Shared → Prop} {Q : Value → Shared → Prop}, Q (.ref hp.objs.size) ⟨hp.push o, gs, dr, tk, os⟩ → wpAny (model pr wo) A' (pyIter v) Q E ⟨hp, gs, dr, tk, os⟩ := fun q => B.iter pr wo _ _ ⟨hp, gs, dr, tk, os⟩ _ hb q
    wp_walk using qi
    refine wpAny_stack_any fun sk => wpAny_pure ?_
    split
    · rename_i c _ _ _ _ _
      cases (c == Value.type "enumerate")
      · wp_walk using qi
        exact ⟨_, rfl, hh⟩
      · wp_walk using qi
        exact ⟨_, rfl, hh⟩
    · wp_walk using qi
      exact ⟨_, rfl, hh⟩
section
variable {prog : Program} {w : World} {A : Around} {E : Value → Shared → Prop} {s : Shared}
theorem enum_call1 {v : Value} {o : Obj} {Hd : Heap → Prop} {Q : Value → Shared → Prop} (B : Begins v o Hd) (hb : Hd s.heap)
    (h : ∀ h', IsEnum h' (s.heap.objs.size + 1) s.heap.objs.size 0 .none → h'.get? s.heap.objs.size = some o → (∀ b u, s.heap.get? b = some u → h'.get? b = some u) → Q (.ref (s.heap.objs.size + 1)) { s with heap := h' }) :
    wpAny (model prog w) A (call (.type "enumerate") [v]) Q E s := by
  refine callType_new F.called_enumerate (by decide) (F.typeCall_enumerate_1 _) (F.newCall_enumerate_1 _) (fun ob => F.args_object_init_2 ob _) F.entry_enumerate_new (enum_new1 B) ⟨hb, ?_⟩
  have hz : (s.heap.push o).objs.size = s.heap.objs.size + 1 := Heap.size_push ..
  show _ ∧ _
  rw [hz]
  have he : IsEnum ((s.heap.push o).push { cls := .type "enumerate", data := .fields #[.none, .bool false, .ref s.heap.objs.size, rawInt 0, .none, .none] }) (s.heap.objs.size + 1) s.heap.objs.size 0 .none := by
    have z := Heap.get?_push_size (s.heap.push o) (o := { cls := .type "enumerate", data := .fields #[.none, .bool false, .ref s.heap.objs.size, rawInt 0, .none, .none] }) rfl
    rw [hz] at z; exact z
  exact ⟨⟨_, he, rfl⟩, h _ he (Heap.get?_push_of_some _ (Heap.get?_push_size _ B.free)) fun b u z => Heap.get?_push_of_some _ (Heap.get?_push_of_some _ z)⟩
end
theorem turn_enumT {P : Program} {w : World} {K : PySem.W.Frag} {elts : List Expr} {kk : Nat} {tpos : PySem.Pos} (a e it : Addr) :
    Turn P w K (.Tuple elts kk tpos) (IteT K a) [e, it] e (fun i h => (∃ old, IsEnum h e it ((i : Nat) : Int) old) ∧ h.IsTupleIter it a i ∧ e ≠ it) where
  mem := by simp
  obj := fun i h sd b hb => by
    obtain ⟨⟨od, he⟩, ⟨o, ho, hc, hd⟩, _⟩ := sd
    rcases (by simpa using hb : b = e ∨ b = it) with z | z
    · rw [z]; exact ⟨_, he, fun v q => nomatch q⟩
    · rw [z]; exact ⟨o, ho, fun v q => by rw [hd] at q; cases q⟩
  keep := fun i h h' sd k => let ⟨⟨od, he⟩, hi, hne⟩ := sd; ⟨⟨od, k e (by simp) _ he⟩, hi.at fun o q => k it (by simp) o q, hne⟩
  item := by
    intro X hP hw hK hc i pins s σ H E I hf sd hg
    subst hP hw hK
    obtain ⟨⟨od, he⟩, hit, hne⟩ := sd
    obtain ⟨xs, x, hq, hx⟩ := hg
    obtain ⟨its, rv, ⟨o0, ho0, hc0, n0, hd0⟩, hz⟩ := I.tuple hq
    have p : s.heap.IsTuple a its.toArray := ⟨o0, ho0, hc0, n0, hd0⟩
    obtain ⟨u, hu, ru⟩ := rv.get hx
    have hel : e < s.heap.objs.size := Heap.lt_size he
    have hil : it < s.heap.objs.size := by obtain ⟨_, q, _⟩ := hit; exact Heap.lt_size q
    have hai : a ≠ it := by
      rintro rfl
      obtain ⟨o1, q1, q2, _⟩ := hit
      rw [ho0] at q1
      cases q1
      rw [hc0] at q2
      exact absurd q2 (by simp)
    have hae : e ≠ a := by
      rintro rfl
      have he' : s.heap.get? e = some _ := he
      rw [ho0] at he'
      cases he'
      exact absurd hc0 (by simp)
    have hlt : i < its.toArray.size := by
      have := (List.getElem?_eq_some_iff.mp hu).1
      simpa using this
    have Dr : Draws X.prog X.w X.A.in1 it [it, a] its.toArray.size (fun i v => its.toArray[i]? = some v) (fun i h => h.IsTupleIter it a i ∧ h.IsTuple a its.toArray) := Draws.tuple (A := X.A.in1) (I.ok.hd hc) it a hai its.toArray
    refine wpAny_pyNext_enum_itemD Dr he ⟨hit, p⟩ hlt hne (by simp [hne, hae]) fun x' h' tk hPx ho hst' hT hsz hk => ?_
    have hxu : x' = u := by
      have h1 : its.toArray[i]? = some x' := hPx
      have h2 : its.toArray[i]? = some u := by simpa using hu
      rw [h1] at h2
      exact Option.some.inj h2
    subst hxu
    refine ⟨_, rfl, wpAny_letOwnedTupleGo_enum (s := { s with heap := h', toks := tk + 1 }) ho fun h'' he' sb => ?_⟩
    have hT2 : h''.get? s.heap.objs.size = some { cls := .type "tuple", data := .seq #[.int i tk, x'] } := (sb.2 _ (Nat.ne_of_gt hel)).trans hT
    have new : ObjOk X.prog X.w (upd H s.heap.objs.size (.tup [.int (i : Nat), x])) h'' s.heap.objs.size (.tup [.int (i : Nat), x]) :=
      ⟨by show 2 ≤ sizeLine; decide, [.int i tk, x'], .cons ⟨_, rfl⟩ (.cons ru .nil), ⟨_, hT2, rfl, _, rfl⟩⟩
    have I1 : Inv X pins σ (upd H s.heap.objs.size (.tup [.int (i : Nat), x])) { s with heap := h'', toks := tk + 1 } :=
      I.turnedNew (ch := [e, it]) (fun b ob hb q => (sb.2 b (fun z => hb (by simp [z]))).trans (hk b ob (fun z => hb (by simp [z])) (fun z => hb (by simp [z])) q)) hf (Nat.le_refl _) new
    refine ⟨.ref s.heap.objs.size, _, I1, rfl, ⟨_, x, rfl, I.hok.fresh (Nat.le_refl _), rfl, fun ys hy => by rw [I.tuple_inj hy hq]; exact hx⟩, ⟨⟨x', ?_⟩, hst'.1.at fun o q => (sb.2 it (Ne.symm hne)).trans q, hne⟩, fun b hb => ?_⟩
    · rw [show ((i + 1 : Nat) : Int) = (i : Int) + 1 by omega]
      exact he'
    · have hb' : b < s.heap.objs.size := by
        rcases (by simpa using hb : b = e ∨ b = it) with z | z
        · rw [z]; exact hel
        · rw [z]; exact hil
      rw [upd_ne (Nat.ne_of_lt hb')]
      exact (hf b hb).1
  done := by
    intro X hP hw hK hc i pins s σ H E I hf sd hg
    subst hP hw hK
    obtain ⟨⟨od, he⟩, hit, hne⟩ := sd
    obtain ⟨xs, hq, hx⟩ := hg
    obtain ⟨its, rv, ⟨o0, ho0, hc0, n0, hd0⟩, hz⟩ := I.tuple hq
    have p : s.heap.IsTuple a its.toArray := ⟨o0, ho0, hc0, n0, hd0⟩
    have hai : a ≠ it := by
      rintro rfl
      obtain ⟨o1, q1, q2, _⟩ := hit
      rw [ho0] at q1
      cases q1
      rw [hc0] at q2
      exact absurd q2 (by simp)
    obtain ⟨f0, f1, f2, f3, f4, f5⟩ := hf it (by simp)
    have hl := rv.length
    unfold pyNext
    refine wpAny_bind (wpAny_attempt (wpAny_callSpecial?_slot (name := Str.ofString "__next__") (T := "enumerate") ⟨_, he, rfl⟩ F.slot_enumerate_next (wpAny_call_entry F.slot_enumerate_next ⟨_, he, rfl⟩ F.entry_enumerate_next ?_ (F.args_enumerate_next_1 _))))
    show wpAny _ _ (field (.ref e) 2 >>= _) _ _ _
    refine wpAny_bind (wpAny_field he rfl (x := .ref it) rfl ?_)
    refine wpAny_bind (wpAny_nextOf_tuple_end (I.ok.hd hc) hit p (by simp; omega) fun h' y hx' hy => ?_)
    obtain ⟨o, ho, hc2⟩ := hy
    refine wpAny_bind (wpAny_isInstance (T := "StopIteration") (b := true) ⟨o, ho, hc2⟩ isSubtype_stop ?_)
    exact wpAny_pure ⟨rfl, I.turned (t' := s.toks) (fun b o hb q => hx' b o hb q) f0 f1 f3 f4 f5⟩
  self := fun A i s Q E sd h => let ⟨⟨_, he⟩, _⟩ := sd; wpAny_pyIter_enum he h
def iEnumT (K : PySem.W.Frag) (ta : TA) : TI := fun σ H R => ta σ H fun vs H1 => ∃ a xs, vs = [.ref a] ∧ SqT K H1 a xs ∧ R (IteT K a) H1
theorem pi_enumT {X : Cx} {e : Expr} {ta : TA} {p pos tpos : PySem.Pos} {elts : List Expr} {kk : Nat} (hg : Gl X "enumerate") (hm : X.mg "enumerate" = none) (ha : PA X [e] ta) (hs : starEach [e] X.env = [(false, eval e X.env)] := by rfl) :
    PI X (.Tuple elts kk tpos) (.Call (.Name "enumerate" p) [e] [] pos) (iEnumT X.K ta) := by
  refine ⟨fun pins s σ H R I hq => ?_⟩
  refine Call_ (ld_blt I hg hm boot_enumerate (PyProof.Rows.callWith_type1 (thn (ha.run pos pins s σ H _ I hq) fun us s1 ⟨vs, H1, I1, r1, q1⟩ => ?_) hs rfl))
  obtain ⟨a, xs, ex, hq, q⟩ := q1
  subst ex
  cases r1 with
  | cons r rr =>
    cases rr
    cases r
    obtain ⟨its, rv, ⟨o0, ho0, hc0, n0, hd0⟩, hz⟩ := I1.tuple hq
    refine enum_call1 (begins_tuple a its.toArray) ⟨o0, ho0, hc0, n0, hd0⟩ fun h' he hit hk => wpAny_pyIter_enum he ?_
    have I2 : Inv X pins σ H1 { s1 with heap := h' } := I1.kept (t' := s1.toks) hk
    refine ⟨s1.heap.objs.size + 1, [s1.heap.objs.size + 1, s1.heap.objs.size], _, _, H1, rfl, I2, turn_enumT a (s1.heap.objs.size + 1) s1.heap.objs.size, ⟨⟨.none, he⟩, ⟨_, hit, rfl, rfl⟩, Nat.succ_ne_self _⟩, fun b hb => ?_, q⟩
    have hle : s1.heap.objs.size ≤ b := by
      rcases (by simpa using hb : b = s1.heap.objs.size + 1 ∨ b = s1.heap.objs.size) with z | z <;> rw [z]
      · exact Nat.le_add_right _ _
      · exact Nat.le_refl _
    exact I1.fpOk hle (I1.hok.fresh hle)
end K49
namespace K49
open PySem PySem.Spec PySem.W PyProof.Rows L2 Evl
/-! ## sorted(set(a tuple of ints)) -/
def rSetTI (K : PySem.W.Frag) (w : World) : List V → Hp → VK → Prop := fun xs H Q => ∃ (p : Addr) (ns : List Int), xs = [.ref p] ∧ SqT K H p (ns.map V.int) ∧ ns.length ≤ 60 ∧ ∀ a c, H a = none → c ≤ ns.length → Q (.ref a) (upd H a (SetO w a (fun j => decide (j ∈ ns)) c))
section
variable {X : Cx}
theorem cr_setTI (hc : X.calm = true) : CallR X (.type "set") (rSetTI X.K X.w) := by
  intro pins s σ H xs us Q I r h
  obtain ⟨p, ns, rfl, hp, hl, q⟩ := h
  rw [Vals.ref1 r]
  obtain ⟨its, rv, ⟨o, ho, hcl, n, hd⟩, hz⟩ := I.tuple hp
  have hn : H s.heap.objs.size = none := I.hok.fresh (Nat.le_refl _)
  refine L2.call_set_tupI (items := its.toArray) ns (I.ok.hd hc) ⟨o, ho, hcl, n, hd⟩ (by simpa using rv.ints) (by unfold scanBound; omega) fun h' tk c R g k => ?_
  exact ⟨.ref s.heap.objs.size, upd H s.heap.objs.size (SetO X.w s.heap.objs.size (fun j => decide (j ∈ ns)) c), I.laid (t' := tk) k (Nat.le_refl _) (setO_new R), rfl, q _ c hn g⟩
end
section
variable {K : PySem.W.Frag} {w : World} {σ : L2.St} {H : Hp} {ta : TE}
theorem en_sset {l l' : List Int} (ha : EvD K ta σ H (eS l)) (hl : l.length ≤ 60) (h1 : l'.Pairwise (· < ·)) (h2 : ∀ x, x ∈ l' ↔ x ∈ l) : EvN K (tCB (rSortedSet w) (tCons (tCB (rSetTI K w) (tCons ta tNil)) tNil)) σ H (l'.map .int) := fun H1 e Q q =>
  ha H1 e _ fun x H2 e2 dx => by
    obtain ⟨a, rfl, hs⟩ := dp_S dx
    refine ⟨a, l, rfl, hs, hl, fun b c hb hc => ?_⟩
    refine ⟨b, _, c, rfl, upd_same, by omega, fun ns p g1 g2 g3 g4 => ?_⟩
    have : ns = l' := asc_ext g1 h1 fun x => ((g2 x).trans decide_eq_true_iff).trans (h2 x).symm
    subst this
    have e3 : Ex H2 (upd H2 b (SetO w b (fun j => decide (j ∈ l)) c)) := Ex.new hb
    exact q p _ _ (fresh_back (e2.trans e3) g4) ((e2.trans e3).trans (Ex.new g4)) upd_same (ints_dpAll ns)
end
end K49
namespace K49
open PySem PySem.Spec PySem.W PyProof.Rows L2 Evl
/-! ## dicts whose keys are tuples, nested ones too -/
def RN (x : NestedKey × Addr × V) (u : NestedKey × Addr × Value) : Prop := x.1 = u.1 ∧ x.2.1 = u.2.1 ∧ RelV x.2.2 u.2.2
structure DN (P : Program) (w : World) (h : Heap) (a : Addr) (o : Obj) (xs : List (NestedKey × Addr × V)) : Prop where
  ne : (a == sysModules) = false
  ob : h.get? a = some o
  ex : o.ExactDict
  dt : ∃ (es : Array DictEntry) (ep : Nat) (us : List (NestedKey × Addr × Value)), o.data = .dict es ep ∧ es.toList = us.map (entryOfKey (nestedKind P w)) ∧ Paired RN xs us
  nd : (xs.map (·.1)).Nodup
  le : xs.length ≤ 1000
/-- the dict object o at a, its keys, where they stand, its values -/
def DictN (P : Program) (w : World) (a : Addr) (o : Obj) (xs : List (NestedKey × Addr × V)) : HO := .ext fun h => DN P w h a o xs
theorem dictN_new {P : Program} {w : World} {H : Hp} {h : Heap} {a : Addr} {o : Obj} {xs : List (NestedKey × Addr × V)} (D : DN P w h a o xs) : ObjOk P w H h a (DictN P w a o xs) :=
  ⟨D, ⟨o, D.ob⟩, fun h1 h2 p k => ⟨p.ne, k o p.ob, p.ex, p.dt, p.nd, p.le⟩⟩
def KeysN (K : PySem.W.Frag) (H : Hp) (xs : List (NestedKey × Addr × V)) : Prop := ∀ x ∈ xs, Dp K H (.ref x.2.1) x.1.data ∧ x.1.depth ≤ 8
def atN (xs : List (NestedKey × Addr × V)) (k : NestedKey) : Option V := (xs.find? fun x => decide (x.1 = k)).map (·.2.2)
theorem rn_keys : ∀ {xs : List (NestedKey × Addr × V)} {us : List (NestedKey × Addr × Value)}, Paired RN xs us → us.map (·.1) = xs.map (·.1)
  | _, _, .nil => rfl
  | _, _, .cons h t => by
    rw [List.map_cons, List.map_cons, rn_keys t, h.1]
theorem rn_at {k : NestedKey} : ∀ {xs : List (NestedKey × Addr × V)} {us : List (NestedKey × Addr × Value)}, Paired RN xs us → (∀ v, atN xs k = some v → ∃ p, atKey us k = some p ∧ RelV v p.2) ∧ ((atN xs k).isSome = (atKey us k).isSome)
  | _, _, .nil => ⟨fun v h => (by cases h), rfl⟩
  | _, _, .cons (a := x) (b := u) h t => by
    obtain ⟨h1, h2, h3⟩ := h
    by_cases e : x.1 = k
    · have e1 : ∀ l, atN (x :: l) k = some x.2.2 := fun l => by
        unfold atN
        rw [List.find?_cons, decide_eq_true e]
        rfl
      have e2 : ∀ l, atKey (u :: l) k = some u.2 := fun l => by
        unfold atKey
        rw [List.find?_cons, decide_eq_true (h1 ▸ e)]
        rfl
      refine ⟨fun v hv => ⟨u.2, e2 _, ?_⟩, ?_⟩
      · rw [e1] at hv
        cases hv
        exact h3
      · rw [e1, e2]
        rfl
    · have ih := rn_at (k := k) t
      have e1 : ∀ l, atN (x :: l) k = atN l k := fun l => by
        unfold atN
        rw [List.find?_cons, decide_eq_false e]
      have e2 : ∀ l, atKey (u :: l) k = atKey l k := fun l => by
        unfold atKey
        rw [List.find?_cons, decide_eq_false (h1 ▸ e)]
      rw [e1, e2]
      exact ih
section
variable {X : Cx} {pins : List (Addr × Obj)} {σ : L2.St} {H : Hp} {s : Shared}
mutual
/-- data that a key reads as -/
theorem nested_of : ∀ (k : NestedKey) {v : V} {u : Value}, Inv X pins σ H s → Dp X.K H v k.data → RelV v u → NestedIs s.heap k u
  | .none, v, u, I, h, r => by
    rw [NestedKey.data] at h
    cases h
    cases (show u = Value.none from r)
    exact .none
  | .num i, v, u, I, h, r => by
    rw [NestedKey.data] at h
    rw [dp_int h] at r
    obtain ⟨t, rfl⟩ := r
    exact .int i t
  | .text x, v, u, I, h, r => by
    rw [NestedKey.data] at h
    rw [dp_str h] at r
    obtain ⟨t, rfl⟩ := r
    exact .text x t
  | .tup ks, v, u, I, h, r => by
    rw [NestedKey.data] at h
    obtain ⟨a, xs, rfl, hs, hx⟩ := dp_tup h
    cases (show u = Value.ref a from r)
    obtain ⟨its, rv, ⟨o, ho, hc, n, hd⟩, hz⟩ := I.tuple hs
    exact .tup ho hc hd (by simpa using nested_all ks I hx rv)
theorem nested_all : ∀ (ks : List NestedKey) {vs : List V} {us : List Value}, Inv X pins σ H s → DpAll X.K H vs (NestedKey.datas ks) → Vals vs us → NestedAll s.heap ks us
  | [], vs, us, I, h, r => by
    rw [NestedKey.datas] at h
    cases h
    cases r
    exact .nil
  | k :: ks, vs, us, I, h, r => by
    rw [NestedKey.datas] at h
    cases h with
    | cons h1 h2 =>
      cases r with
      | cons r1 r2 => exact .cons (nested_of k I h1 r1) (nested_all ks I h2 r2)
end
theorem is_of {b : Addr} {k : NestedKey} (I : Inv X pins σ H s) (h : Dp X.K H (.ref b) k.data) (hk : k.depth ≤ 8) : (nestedKind X.prog X.w).is s.heap k b := ⟨nested_of k I h rfl, hk⟩
theorem is_all {xs : List (NestedKey × Addr × V)} (I : Inv X pins σ H s) (h : KeysN X.K H xs) : ∀ {us : List (NestedKey × Addr × Value)}, Paired RN xs us → ∀ u ∈ us, (nestedKind X.prog X.w).is s.heap u.1 u.2.1 := by
  intro us p
  induction p with
  | nil => intro u hu; cases hu
  | @cons x u xs us r t ih =>
    intro v hv
    rcases List.mem_cons.mp hv with e | hv
    · obtain ⟨h1, h2⟩ := h x List.mem_cons_self
      rw [e, ← r.1, ← r.2.1]
      exact is_of I h1 h2
    · exact ih (fun y hy => h y (List.mem_cons_of_mem _ hy)) v hv
theorem dn_of {a : Addr} {o : Obj} {xs : List (NestedKey × Addr × V)} (I : Inv X pins σ H s) (h : H a = some (DictN X.prog X.w a o xs)) (hk : KeysN X.K H xs) :
    (a == sysModules) = false ∧ ∃ us, s.heap.DictOfH (nestedKind X.prog X.w) a us ∧ Paired RN xs us ∧ us.length ≤ 1000 := by
  have D : DN X.prog X.w s.heap a o xs := (I.hok a _ h).1
  obtain ⟨es, ep, us, h1, h2, h3⟩ := D.dt
  exact ⟨D.ne, us, ⟨o, es, ep, D.ob, D.ex, h1, h2, is_all I hk h3, by rw [rn_keys h3]; exact D.nd⟩, h3, by have := D.le; have := Paired.length h3; omega⟩
end
theorem room_n {P : Program} {w : World} {A : Around} (hu : A.units + 64 < cLine) : (nestedKind P w).room A.in1 := by
  have h2 : A.in1.units = A.units + 1 := rfl
  show A.in1.units + 8 < cLine
  omega
/-! readings -/
def tDNewN (P : Program) (w : World) : TE := fun _ H Q => ∀ p o, H p = none → Q (.ref p) (upd H p (DictN P w p o []))
def tNGet (K : PySem.W.Frag) (P : Program) (w : World) (td ty : TE) : TE := fun σ H Q => td σ H fun x H1 => ty σ H1 fun y H2 => ∃ a b o xs k v, x = .ref a ∧ y = .ref b ∧ H2 a = some (DictN P w a o xs) ∧ KeysN K H2 xs ∧ Dp K H2 (.ref b) k.data ∧ k.depth ≤ 8 ∧ atN xs k = some v ∧ Q v H2
def tNIn (K : PySem.W.Frag) (P : Program) (w : World) (neg : Bool) (ty td : TE) : TE := fun σ H Q => ty σ H fun y H1 => td σ H1 fun x H2 => ∃ a b o xs k, x = .ref a ∧ y = .ref b ∧ H2 a = some (DictN P w a o xs) ∧ KeysN K H2 xs ∧ Dp K H2 (.ref b) k.data ∧ k.depth ≤ 8 ∧
  Q (.bl (if neg = true then !(atN xs k).isSome else (atN xs k).isSome)) H2
/-- d[y] = v, y not there -/
def sNPut (K : PySem.W.Frag) (P : Program) (w : World) (td ty tv : TE) : TS := fun D σ H => tv σ H fun v H1 => td σ H1 fun x H2 => ty σ H2 fun y H3 => ∃ a b o xs k, x = .ref a ∧ y = .ref b ∧ H3 a = some (DictN P w a o xs) ∧ KeysN K H3 xs ∧ Dp K H3 (.ref b) k.data ∧ k.depth ≤ 8 ∧
  (∀ x ∈ xs, x.1 ≠ k) ∧ xs.length < 1000 ∧ ∀ o', D.nx σ (upd H3 a (DictN P w a o' (xs ++ [(k, b, v)])))
section
variable {X : Cx} {o i value e : Expr} {td ty tv : TE} {pos pos' : PySem.Pos} {tg : Expr}
theorem pe_dnewN : PE X (.Dict [] [] pos) (tDNewN X.prog X.w) := ⟨fun pins s σ H Q I h =>
  wpAny_Dict_empty ⟨.ref s.heap.objs.size, _, I.laid (a := s.heap.objs.size) (o := DictN X.prog X.w s.heap.objs.size { cls := .type "dict", data := .dict #[] } []) (t' := s.toks) (fun _ _ q => Heap.get?_push_of_some _ q) (Nat.le_refl _)
    (dictN_new ⟨beq_eq_false_iff_ne.mpr (Ne.symm (Nat.ne_of_lt I.big)), Heap.get?_push_size _ rfl, ⟨rfl, rfl, rfl⟩, ⟨#[], 0, [], rfl, rfl, .nil⟩, List.nodup_nil, Nat.zero_le _⟩), rfl, h _ _ (I.hok.fresh (Nat.le_refl _))⟩⟩
theorem pe_nget (hu : X.A.units + 64 < cLine) (ho : PE X o td) (hi : PE X i ty) (hs : NoSl i) : PE X (.Subscript o i pos) (tNGet X.K X.prog X.w td ty) := by
  refine ⟨fun pins s σ H Q I h => ?_⟩
  refine subD_of PySem.F.slot_dict_getitem.lookup hs (thn (ho.run pins s σ H _ I h) fun u s1 ⟨x, H1, I1, rx, q1⟩ => thn (hi.run pins s1 σ H1 _ I1 q1) fun iv s2 ⟨y, H2, I2, ry, a, b, od, xs, k, v, ex, ey, hd, hk, hb, dk, hv, q2⟩ => ?_)
  subst ex ey
  obtain rfl : u = Value.ref a := rx
  obtain rfl : iv = Value.ref b := ry
  obtain ⟨hne, us, dd, pr, _⟩ := dn_of I2 hd hk
  obtain ⟨p, hp, rp⟩ := (rn_at (k := k) pr).1 v hv
  exact ⟨dd.typeIs, wpAny_getItem_heap (room_n hu) (is_of I2 hb dk) dd hp ⟨v, H2, I2.tok _, rp, q2⟩⟩
theorem pc_nin (hu : X.A.units + 64 < cLine) (hi : PE X i ty) (ho : PE X o td) : PC X .In i o (tNIn X.K X.prog X.w false ty td) := by
  refine ⟨fun pins s σ H Q I h => ?_⟩
  refine thn (hi.run pins s σ H _ I h) fun iv s1 ⟨y, H1, I1, ry, q1⟩ => thn (ho.run pins s1 σ H1 _ I1 q1) fun u s2 ⟨x, H2, I2, rx, a, b, od, xs, k, ex, ey, hd, hk, hb, dk, q2⟩ => ?_
  subst ex ey
  obtain rfl : u = Value.ref a := rx
  obtain rfl : iv = Value.ref b := ry
  obtain ⟨hne, us, dd, pr, _⟩ := dn_of I2 hd hk
  refine wpAny_in_heap (room_n hu) (is_of I2 hb dk) hne dd ?_
  rw [← (rn_at (k := k) pr).2]
  exact ⟨.bl (atN xs k).isSome, H2, I2.tok _, rfl, q2⟩
theorem pc_nnotin (hu : X.A.units + 64 < cLine) (hi : PE X i ty) (ho : PE X o td) : PC X .NotIn i o (tNIn X.K X.prog X.w true ty td) := by
  refine ⟨fun pins s σ H Q I h => ?_⟩
  refine thn (hi.run pins s σ H _ I h) fun iv s1 ⟨y, H1, I1, ry, q1⟩ => thn (ho.run pins s1 σ H1 _ I1 q1) fun u s2 ⟨x, H2, I2, rx, a, b, od, xs, k, ex, ey, hd, hk, hb, dk, q2⟩ => ?_
  subst ex ey
  obtain rfl : u = Value.ref a := rx
  obtain rfl : iv = Value.ref b := ry
  obtain ⟨hne, us, dd, pr, _⟩ := dn_of I2 hd hk
  refine wpAny_notIn_heap (room_n hu) (is_of I2 hb dk) hne dd ?_
  rw [← (rn_at (k := k) pr).2]
  exact ⟨.bl (!(atN xs k).isSome), H2, I2.tok _, rfl, q2⟩
theorem rn_snoc {xs : List (NestedKey × Addr × V)} {us : List (NestedKey × Addr × Value)} (p : Paired RN xs us) {x : NestedKey × Addr × V} {u : NestedKey × Addr × Value} (h : RN x u) : Paired RN (xs ++ [x]) (us ++ [u]) := Paired.snoc p h
theorem ps_nput (hu : X.A.units + 64 < cLine) (ho : PE X o td) (hi : PE X i ty) (hv : PE X value tv) (hs : swapsWith value (some (.Subscript o i pos')) pos.line X.env = pure false) :
    PS X (.Assign [.Subscript o i pos'] value pos) (sNPut X.K X.prog X.w td ty tv) := by
  refine ⟨fun pins s σ H D I h => ?_⟩
  refine wpAny_Assign_Subscript (thn (hv.run pins s σ H _ I h) fun r s1 ⟨v, H1, I1, rv, q1⟩ => thn (ho.run pins s1 σ H1 _ I1 q1) fun u s2 ⟨x, H2, I2, rx, q2⟩ => thn (hi.run pins s2 σ H2 _ I2 q2) fun iv s3 ⟨y, H3, I3, ry, a, b, od, xs, k, ex, ey, hd, hk, hb, dk, hnew, hlen, q3⟩ => ?_) hs
  subst ex ey
  obtain rfl : u = Value.ref a := rx
  obtain rfl : iv = Value.ref b := ry
  obtain ⟨hne, us, dd, pr, hul⟩ := dn_of I3 hd hk
  have D0 : DN X.prog X.w s3.heap a od xs := (I3.hok a _ hd).1
  have hno : atKey us k = none := by
    have h1 := (rn_at (k := k) pr).2
    have h2 : atN xs k = none := by
      unfold atN
      rw [List.find?_eq_none.mpr fun x hx => by rw [decide_eq_true_eq]; exact hnew x hx]
      rfl
    rw [h2] at h1
    cases e : atKey us k with
    | none => rfl
    | some p => rw [e] at h1; cases h1
  refine wpAny_setItem_heap (hsz := sz_of (by omega)) (room_n hu) (is_of I3 hb dk) dd fun h' dd' hsb => ?_
  rw [storedH_new hno] at dd'
  obtain ⟨oq, es, ep, hq, h2, h3, h4, h5, h6⟩ := dd'
  refine ⟨σ, _, d_write I3 (by rw [hd]; exact True.intro) hsb ⟨oq, hq⟩ (dictN_new (o := oq) (xs := xs ++ [(k, b, v)]) ⟨hne, hq, h2, ⟨es, ep, _, h3, h4, rn_snoc pr ⟨rfl, rfl, rv⟩⟩, ?_, by rw [List.length_append]; show xs.length + 1 ≤ 1000; omega⟩), q3 oq⟩
  have e := rn_keys (rn_snoc pr (x := (k, b, v)) (u := (k, b, r)) ⟨rfl, rfl, rv⟩)
  rw [← e]
  exact h6
/-! the keys of such a dict, one by one -/
def ItN (P : Program) (w : World) (d : Addr) (o : Obj) (xs : List (NestedKey × Addr × V)) : It :=
  ⟨fun i H => H d = some (DictN P w d o xs) ∧ i < xs.length, fun i H x H' => H' = H ∧ ∃ y, xs[i]? = some y ∧ x = .ref y.2.1, fun i H => H d = some (DictN P w d o xs) ∧ xs.length ≤ i⟩
theorem dn_entry {P : Program} {w : World} {h : Heap} {a : Addr} {o : Obj} {xs : List (NestedKey × Addr × V)} (D : DN P w h a o xs) : ∃ es ep, o.data = .dict es ep ∧ es.size = xs.length ∧ ∀ (i : Nat) y, xs[i]? = some y → ∃ en : DictEntry, es[i]? = some en ∧ en.key = .ref y.2.1 := by
  obtain ⟨es, ep, us, h1, h2, h3⟩ := D.dt
  have l1 := size_of_entries h2
  have l2 := Paired.length h3
  refine ⟨es, ep, h1, by omega, fun i y hy => ?_⟩
  obtain ⟨u, hu, r⟩ := paired_get h3 hy
  have q := entry_at h2 i
  rw [hu] at q
  refine ⟨_, q, ?_⟩
  show Value.ref u.2.1 = _
  rw [← r.2.1]
theorem turn_keysN {P : Program} {w : World} {K : PySem.W.Frag} {d : Addr} {o : Obj} {es : Array DictEntry} {ep : Nat} {xs : List (NestedKey × Addr × V)} (it : Addr) (hod : o.data = .dict es ep) : Turn P w K tg (ItN P w d o xs) [it] it (fun i h => h.IsKeyIter it d i xs.length ep) where
  mem := by simp
  obj := fun i h sd b hb => by
    obtain rfl : b = it := by simpa using hb
    obtain ⟨oi, e, c, dd⟩ := sd
    exact ⟨oi, e, fun v z => by rw [dd] at z; cases z⟩
  keep := fun i h h' sd k => sd.at fun oi e => k it (by simp) oi e
  item := by
    intro X hP hw hK hc i pins s σ H E I hf sd hg
    subst hP hw hK
    obtain ⟨hd, hi⟩ := hg
    obtain ⟨f0, f1, f2, f3, f4, f5⟩ := hf it (by simp)
    have D : DN X.prog X.w s.heap d o xs := (I.hok d _ hd).1
    obtain ⟨es', ep', hdt, hsz, hen⟩ := dn_entry D
    obtain ⟨rfl, rfl⟩ := dict_ep hod hdt
    obtain ⟨y, hy⟩ : ∃ p, xs[i]? = some p := ⟨xs[i], List.getElem?_eq_getElem hi⟩
    obtain ⟨en, hes, hkey⟩ := hen i y hy
    refine next_key_item sd D.ob hdt hsz hes fun h' sd' sb => ?_
    have I1 : Inv X pins σ H { s with heap := h' } := I.turned (t' := s.toks) (fun b ob hb e => (sb.2 b hb).trans e) f0 f1 f3 f4 f5
    obtain ⟨oi, e, c, dd⟩ := id sd'
    exact ⟨en.key, rfl, go_of (s := { s with heap := h' }) e c dd (by decide) ⟨.ref y.2.1, H, I1, hkey, ⟨rfl, y, hy, rfl⟩, sd', fun b hb => (hf b hb).1⟩⟩
  done := by
    intro X hP hw hK hc i pins s σ H E I hf sd hg
    subst hP hw hK
    obtain ⟨hd, hi⟩ := hg
    obtain ⟨f0, f1, f2, f3, f4, f5⟩ := hf it (by simp)
    have D : DN X.prog X.w s.heap d o xs := (I.hok d _ hd).1
    obtain ⟨es', ep', hdt, hsz, hen⟩ := dn_entry D
    obtain ⟨rfl, rfl⟩ := dict_ep hod hdt
    exact next_key_end (I.ok.hd hc) sd D.ob hdt hsz hi fun h' eb => ⟨rfl, I.turned (t' := s.toks) (fun b ob hb e => eb b ob hb e) f0 f1 f3 f4 f5⟩
  self := fun A i s Q E sd h => by
    refine wpAny_pyIter_slot sd.typeIs F.slot_dict_keyiterator_iter (wpAny_call_entry F.slot_dict_keyiterator_iter sd.typeIs F.entry_dict_keyiterator_iter ?_ (F.args_dict_keyiterator_iter_1 _))
    show wpAny _ _ (ret (.ref it)) _ _ s
    exact wpAny_pure ⟨_, rfl, "dict_keyiterator", _, sd.typeIs, F.slot_dict_keyiterator_next.lookup, h⟩
def iNKeys (P : Program) (w : World) (td : TE) : TI := fun σ H R => td σ H fun x H1 => ∃ d o xs, x = .ref d ∧ H1 d = some (DictN P w d o xs) ∧ R (ItN P w d o xs) H1
theorem pi_nkeys (he : PE X e td) : PI X tg e (iNKeys X.prog X.w td) := by
  refine ⟨fun pins s σ H R I h => ?_⟩
  refine thn (he.run pins s σ H _ I h) fun u s1 ⟨x, H1, I1, rx, d, o, xs, ex, hd, q⟩ => ?_
  subst ex
  obtain rfl : u = Value.ref d := rx
  have D : DN X.prog X.w s1.heap d o xs := (I1.hok d _ hd).1
  obtain ⟨es, ep, hdt, hsz, hen⟩ := dn_entry D
  refine iter_keys D.ne D.ob D.ex hdt (pi_one (tk := s1.toks) I1 _ (turn_keysN _ hdt) ⟨_, Heap.get?_push_size _ rfl, rfl, ?_⟩ q)
  rw [hsz] <;> rfl
end
end K49
namespace K49
open PySem PySem.Spec PySem.W PyProof.Rows L2 Evl
/-! ## the keys by their kinds -/
def nkS (s : List Int) : NestedKey := .tup (s.map .num)
def nkI (p : Int × Int) : NestedKey := .tup [.num p.1, .num p.2]
def nkD (d : Dt) : NestedKey := .tup (d.map nkI)
theorem datas_map {α : Type} (f : α → NestedKey) (e : α → PyData) (h : ∀ a, (f a).data = e a) : ∀ l : List α, NestedKey.datas (l.map f) = l.map e
  | [] => by rw [List.map_nil, List.map_nil, NestedKey.datas]
  | a :: l => by rw [List.map_cons, List.map_cons, NestedKey.datas, h, datas_map f e h l]
theorem data_num (n : Int) : (NestedKey.num n).data = .int n := by rw [NestedKey.data]
theorem data_S (s : List Int) : (nkS s).data = eS s := by
  unfold nkS eS
  rw [NestedKey.data, datas_map _ _ data_num]
theorem data_I (p : Int × Int) : (nkI p).data = eI p := by
  unfold nkI eI
  rw [NestedKey.data, NestedKey.datas, NestedKey.datas, NestedKey.datas, data_num, data_num]
theorem data_D (d : Dt) : (nkD d).data = eD d := by
  unfold nkD eD
  rw [NestedKey.data, datas_map _ _ data_I]
theorem ndepth_map {α : Type} {f : α → NestedKey} {n : Nat} (h : ∀ a, (f a).depth ≤ n) : ∀ l : List α, NestedKey.depthAll (l.map f) ≤ n
  | [] => by rw [List.map_nil, NestedKey.depthAll]; exact Nat.zero_le _
  | a :: l => by
    rw [List.map_cons, NestedKey.depthAll]
    have := h a
    have := ndepth_map h l
    omega
theorem ndepth_num (n : Int) : (NestedKey.num n).depth ≤ 0 := by rw [NestedKey.depth]; exact Nat.le_refl _
theorem ndepth_S (s : List Int) : (nkS s).depth ≤ 8 := by
  unfold nkS
  rw [NestedKey.depth]
  have := ndepth_map ndepth_num s
  omega
theorem ndepth_I (p : Int × Int) : (nkI p).depth ≤ 1 := by
  unfold nkI
  rw [NestedKey.depth]
  have := ndepth_map ndepth_num [p.1, p.2]
  simp only [List.map_cons, List.map_nil] at this
  omega
theorem ndepth_D (d : Dt) : (nkD d).depth ≤ 8 := by
  unfold nkD
  rw [NestedKey.depth]
  have := ndepth_map ndepth_I d
  omega
theorem inj_map {α β : Type} {f : α → β} (h : ∀ a b, f a = f b → a = b) : ∀ l m : List α, l.map f = m.map f → l = m
  | [], [], _ => rfl
  | [], _ :: _, e => by cases e
  | _ :: _, [], e => by cases e
  | a :: l, b :: m, e => by
    rw [List.map_cons, List.map_cons, List.cons.injEq] at e
    rw [h a b e.1, inj_map h l m e.2]
theorem inj_S (a b : List Int) (h : nkS a = nkS b) : a = b := by
  unfold nkS at h
  rw [NestedKey.tup.injEq] at h
  exact inj_map (fun x y e => by rwa [NestedKey.num.injEq] at e) a b h
theorem inj_I (a b : Int × Int) (h : nkI a = nkI b) : a = b := by
  unfold nkI at h
  simp only [NestedKey.tup.injEq, List.cons.injEq, NestedKey.num.injEq, and_true] at h
  exact Prod.ext h.1 h.2
theorem inj_D (a b : Dt) (h : nkD a = nkD b) : a = b := by
  unfold nkD at h
  rw [NestedKey.tup.injEq] at h
  exact inj_map inj_I a b h
structure KeyOf {α : Type} (nk : α → NestedKey) (en : α → PyData) : Prop where
  data : ∀ a, (nk a).data = en a
  inj : ∀ a b, nk a = nk b → a = b
  dep : ∀ a, (nk a).depth ≤ 8
theorem keyS : KeyOf nkS eS := ⟨data_S, inj_S, ndepth_S⟩
theorem keyD : KeyOf nkD eD := ⟨data_D, inj_D, ndepth_D⟩
/-! lists and tuples stay -/
def Sx (H H' : Hp) : Prop := ∀ a xs, (Rd H a (.tup xs) → Rd H' a (.tup xs)) ∧ (Rd H a (.lst xs) → Rd H' a (.lst xs))
def NoSeq : HO → Prop
  | .tup _ => False
  | .lst _ => False
  | .frz _ (.tup _) => False
  | .frz _ (.lst _) => False
  | _ => True
theorem Sx.refl (H : Hp) : Sx H H := fun _ _ => ⟨id, id⟩
theorem Sx.trans {H H1 H2 : Hp} (a : Sx H H1) (b : Sx H1 H2) : Sx H H2 := fun x o => ⟨fun h => (b x o).1 ((a x o).1 h), fun h => (b x o).2 ((a x o).2 h)⟩
theorem Sx.of {H H' : Hp} (e : Ex H H') : Sx H H' := fun _ _ => ⟨fun h => ex_rd e h, fun h => ex_rd e h⟩
theorem Sx.upd {H : Hp} {p : Addr} {o u : HO} (h : H p = some u) (n : NoSeq u) : Sx H (upd H p o) := fun a xs => by
  have h1 : ∀ y : HO, (∀ q, y ≠ u ∧ HO.frz q y ≠ u) → Rd H a y → Rd (L2.upd H p o) a y := fun y hy r => by
    have hne : a ≠ p := by
      rintro rfl
      rcases r with r | ⟨q, r⟩
      · rw [h] at r
        cases r
        exact (hy default).1 rfl
      · rw [h] at r
        cases r
        exact (hy q).2 rfl
    rcases r with r | ⟨q, r⟩
    · exact .inl (by rw [upd_ne hne]; exact r)
    · exact .inr ⟨q, by rw [upd_ne hne]; exact r⟩
  refine ⟨h1 _ fun q => ⟨fun e => ?_, fun e => ?_⟩, h1 _ fun q => ⟨fun e => ?_, fun e => ?_⟩⟩ <;> (subst e; exact n)
section
variable {K : PySem.W.Frag} {H H' : Hp}
mutual
theorem dp_sx (e : Sx H H') : ∀ {d : PyData} {v : V}, Dp K H v d → Dp K H' v d
  | _, _, .non => .non
  | _, _, .bl b => .bl b
  | _, _, .int i => .int i
  | _, _, .str x => .str x
  | _, _, .lst h t => .lst (h.elim (fun r => .inl ((e _ _).2 r)) .inr) (dpAll_sx e t)
  | _, _, .tup h t => .tup (h.elim (fun r => .inl ((e _ _).1 r)) .inr) (dpAll_sx e t)
theorem dpAll_sx (e : Sx H H') : ∀ {ds : List PyData} {vs : List V}, DpAll K H vs ds → DpAll K H' vs ds
  | _, _, .nil => .nil
  | _, _, .cons h t => .cons (dp_sx e h) (dpAll_sx e t)
end
end
/-! ## a dict as a table: each key's value is what g tells -/
structure TabD (K : PySem.W.Frag) (P : Program) (w : World) {α : Type} (nk : α → NestedKey) (en : α → PyData) (g : α → PyData) (ok : V → Prop) (H : Hp) (d : Addr) (as : List α) : Prop where
  ex : ∃ (o : Obj) (m : List (α × Addr × V)), m.map (·.1) = as ∧ H d = some (DictN P w d o (m.map fun x => (nk x.1, x.2))) ∧ ∀ x ∈ m, Dp K H (.ref x.2.1) (en x.1) ∧ Dp K H x.2.2 (g x.1) ∧ ok x.2.2
section
variable {K : PySem.W.Frag} {P : Program} {w : World} {α : Type} {nk : α → NestedKey} {en g : α → PyData} {ok : V → Prop} {H H' : Hp} {d : Addr} {as : List α} {σ : L2.St} {td ty tv : TE}
theorem TabD.mono (e : Ex H H') (T : TabD K P w nk en g ok H d as) : TabD K P w nk en g ok H' d as := by
  obtain ⟨o, m, h1, h2, h3⟩ := T.ex
  exact ⟨o, m, h1, e _ _ h2, fun x hx => ⟨dp_mono e (h3 x hx).1, dp_mono e (h3 x hx).2.1, (h3 x hx).2.2⟩⟩
/-- it stays while it and the sequences stay -/
theorem TabD.sx (e : Sx H H') (hd : H' d = H d) (T : TabD K P w nk en g ok H d as) : TabD K P w nk en g ok H' d as := by
  obtain ⟨o, m, h1, h2, h3⟩ := T.ex
  exact ⟨o, m, h1, hd.trans h2, fun x hx => ⟨dp_sx e (h3 x hx).1, dp_sx e (h3 x hx).2.1, (h3 x hx).2.2⟩⟩
theorem tab_new {p : Addr} {o : Obj} : TabD K P w nk en g ok (upd H p (DictN P w p o [])) p [] := ⟨o, [], rfl, upd_same, fun x hx => by cases hx⟩
theorem keys_tab (ko : KeyOf nk en) {m : List (α × Addr × V)} (h : ∀ x ∈ m, Dp K H (.ref x.2.1) (en x.1) ∧ Dp K H x.2.2 (g x.1) ∧ ok x.2.2) : KeysN K H (m.map fun x => (nk x.1, x.2)) := fun x hx => by
  obtain ⟨y, hy, rfl⟩ := List.mem_map.mp hx
  exact ⟨by rw [ko.data]; exact (h y hy).1, ko.dep _⟩
theorem at_tab [DecidableEq α] (ko : KeyOf nk en) (a : α) : ∀ m : List (α × Addr × V), atN (m.map fun x => (nk x.1, x.2)) (nk a) = (m.find? fun x => decide (x.1 = a)).map (·.2.2)
  | [] => rfl
  | x :: m => by
    have ih := at_tab ko a m
    unfold atN at ih ⊢
    rw [List.map_cons, List.find?_cons, List.find?_cons]
    by_cases e : x.1 = a
    · have e2 : nk x.1 = nk a := by rw [e]
      show ((match decide (nk x.1 = nk a) with | true => _ | false => _) : Option _).map _ = _
      rw [decide_eq_true e, decide_eq_true e2]
      rfl
    · have e2 : ¬ nk x.1 = nk a := fun z => e (ko.inj _ _ z)
      show ((match decide (nk x.1 = nk a) with | true => _ | false => _) : Option _).map _ = _
      rw [decide_eq_false e, decide_eq_false e2]
      exact ih
theorem find_tab [DecidableEq α] {a : α} : ∀ {m : List (α × Addr × V)}, a ∈ m.map (·.1) → ∃ x ∈ m, x.1 = a ∧ (m.find? fun x => decide (x.1 = a)) = some x
  | [], h => by cases h
  | x :: m, h => by
    rw [List.find?_cons]
    by_cases e : x.1 = a
    · rw [decide_eq_true e]
      exact ⟨x, List.mem_cons_self, e, rfl⟩
    · rw [decide_eq_false e]
      rw [List.map_cons, List.mem_cons] at h
      obtain ⟨y, h1, h2, h3⟩ := find_tab (h.resolve_left fun z => e z.symm)
      exact ⟨y, List.mem_cons_of_mem _ h1, h2, h3⟩
theorem find_no [DecidableEq α] {a : α} {m : List (α × Addr × V)} (h : a ∉ m.map (·.1)) : (m.find? fun x => decide (x.1 = a)) = none :=
  List.find?_eq_none.mpr fun x hx => by
    rw [decide_eq_true_eq]
    exact fun e => h (List.mem_map.mpr ⟨x, hx, e⟩)
variable [DecidableEq α]
theorem tget_ok {a : α} {Q : VK} (ko : KeyOf nk en) (hd : Ev td σ H (.ref d)) (hy : EvD K ty σ H (en a)) (hen : ∃ xs, en a = .tuple xs) (T : TabD K P w nk en g ok H d as) (ha : a ∈ as) (q : ∀ v H1, Ex H H1 → Dp K H1 v (g a) → ok v → Q v H1) : tNGet K P w td ty σ H Q :=
  hd H (Ex.refl H) _ fun H2 e2 => hy H2 e2 _ fun y H3 e3 dy => by
    obtain ⟨o, m, h1, h2, h3⟩ := (T.mono (e2.trans e3)).ex
    obtain ⟨x, hx, ex, hf⟩ := find_tab (h1.symm ▸ ha)
    obtain ⟨xs, hxs⟩ := hen
    have dy' := dy
    rw [hxs] at dy'
    obtain ⟨b, _, rfl, _, _⟩ := dp_tup dy'
    refine ⟨d, b, o, _, nk a, x.2.2, rfl, rfl, h2, keys_tab ko h3, by rw [ko.data]; exact dy, ko.dep _, by rw [at_tab ko, hf]; rfl, q _ H3 (e2.trans e3) ?_ (h3 x hx).2.2⟩
    rw [← ex]
    exact (h3 x hx).2.1
theorem ed_tget {a : α} (ko : KeyOf nk en) (hd : Ev td σ H (.ref d)) (hy : EvD K ty σ H (en a)) (hen : ∃ xs, en a = .tuple xs) (T : TabD K P w nk en g ok H d as) (ha : a ∈ as) : EvD K (tNGet K P w td ty) σ H (g a) := fun H1 e Q q =>
  hd H1 e _ fun H2 e2 => hy H2 (e.trans e2) _ fun y H3 e3 dy => by
    obtain ⟨o, m, h1, h2, h3⟩ := (T.mono ((e.trans e2).trans e3)).ex
    obtain ⟨x, hx, ex, hf⟩ := find_tab (h1.symm ▸ ha)
    obtain ⟨xs, hxs⟩ := hen
    have dy' := dy
    rw [hxs] at dy'
    obtain ⟨b, _, rfl, _, _⟩ := dp_tup dy'
    refine ⟨d, b, o, _, nk a, x.2.2, rfl, rfl, h2, keys_tab ko h3, by rw [ko.data]; exact dy, ko.dep _, by rw [at_tab ko, hf]; rfl, q _ H3 (e2.trans e3) ?_⟩
    rw [← ex]
    exact (h3 x hx).2.1
theorem ev_tin {neg : Bool} {a : α} (ko : KeyOf nk en) (hd : Ev td σ H (.ref d)) (hy : EvD K ty σ H (en a)) (hen : ∃ xs, en a = .tuple xs) (T : TabD K P w nk en g ok H d as) : Ev (tNIn K P w neg ty td) σ H (.bl (if neg = true then !decide (a ∈ as) else decide (a ∈ as))) := fun H1 e Q q =>
  hy H1 e _ fun y H2 e2 dy => hd H2 (e.trans e2) _ fun H3 e3 => by
    obtain ⟨o, m, h1, h2, h3⟩ := (T.mono ((e.trans e2).trans e3)).ex
    obtain ⟨xs, hxs⟩ := hen
    have dy2 := dp_mono e3 dy
    have dy' := dy2
    rw [hxs] at dy'
    obtain ⟨b, _, rfl, _, _⟩ := dp_tup dy'
    refine ⟨d, b, o, _, nk a, rfl, rfl, h2, keys_tab ko h3, by rw [ko.data]; exact dy2, ko.dep _, ?_⟩
    have e4 : (atN (m.map fun x => (nk x.1, x.2)) (nk a)).isSome = decide (a ∈ as) := by
      rw [at_tab ko]
      by_cases ha : a ∈ as
      · obtain ⟨x, _, _, hf⟩ := find_tab (h1.symm ▸ ha)
        rw [hf, decide_eq_true ha]
        rfl
      · rw [find_no (h1.symm ▸ ha), decide_eq_false ha]
        rfl
    rw [e4]
    exact q H3 (e2.trans e3)
/-- d[y] = v, y new -/
theorem s_tput {D : Ends} {a : α} (ko : KeyOf nk en) (hv : EvD K tv σ H (g a)) (hd : Ev td σ H (.ref d)) (hy : EvD K ty σ H (en a)) (hen : ∃ xs, en a = .tuple xs) (T : TabD K P w nk en g ok H d as) (ha : a ∉ as) (hl : as.length < 1000) (hok : ∀ v, ok v)
    (k : ∀ H1 u o', Ex H H1 → H1 d = some u → NoSeq u → TabD K P w nk en g ok (upd H1 d o') d (as ++ [a]) → D.nx σ (upd H1 d o')) : sNPut K P w td ty tv D σ H :=
  hv H (Ex.refl H) _ fun v H1 e1 dv => hd H1 e1 _ fun H2 e2 => hy H2 (e1.trans e2) _ fun y H3 e3 dy => by
    obtain ⟨o, m, h1, h2, h3⟩ := (T.mono ((e1.trans e2).trans e3)).ex
    obtain ⟨xs, hxs⟩ := hen
    have dy' := dy
    rw [hxs] at dy'
    obtain ⟨b, _, rfl, _, _⟩ := dp_tup dy'
    refine ⟨d, b, o, _, nk a, rfl, rfl, h2, keys_tab ko h3, by rw [ko.data]; exact dy, ko.dep _, fun x hx ez => ?_, ?_, fun o' => k H3 _ _ ((e1.trans e2).trans e3) h2 trivial ?_⟩
    · obtain ⟨z, hz, rfl⟩ := List.mem_map.mp hx
      exact ha (h1 ▸ List.mem_map.mpr ⟨z, hz, ko.inj _ _ ez⟩)
    · rw [List.length_map]
      have := congrArg List.length h1
      rw [List.length_map] at this
      omega
    · have sx : Sx H3 (upd H3 d (DictN P w d o' ((m.map fun x => (nk x.1, x.2)) ++ [(nk a, b, v)]))) := Sx.upd h2 trivial
      refine ⟨o', m ++ [(a, b, v)], by rw [List.map_append, h1]; rfl, ?_, fun x hx => ?_⟩
      · rw [upd_same, List.map_append]
        rfl
      · rcases List.mem_append.mp hx with hx | hx
        · exact ⟨dp_sx sx (h3 x hx).1, dp_sx sx (h3 x hx).2.1, (h3 x hx).2.2⟩
        · rw [List.mem_singleton] at hx
          subst hx
          exact ⟨dp_sx sx dy, dp_sx sx (dp_mono (e2.trans e3) dv), hok _⟩
/-- .. v a new list -/
theorem s_tputN {D : Ends} {a : α} {ds : List PyData} (hg : g a = .list ds) (ko : KeyOf nk en) (hv : EvN K tv σ H ds) (hd : Ev td σ H (.ref d)) (hy : EvD K ty σ H (en a)) (hen : ∃ xs, en a = .tuple xs) (T : TabD K P w nk en g ok H d as) (ha : a ∉ as) (hl : as.length < 1000) (hok : ∀ q, H q = none → ok (.ref q))
    (k : ∀ H1 u o', Ex H H1 → H1 d = some u → NoSeq u → TabD K P w nk en g ok (upd H1 d o') d (as ++ [a]) → D.nx σ (upd H1 d o')) : sNPut K P w td ty tv D σ H :=
  hv H (Ex.refl H) _ fun q zs H1 hq e1 hzs dzs => hd H1 e1 _ fun H2 e2 => hy H2 (e1.trans e2) _ fun y H3 e3 dy => by
    obtain ⟨o, m, h1, h2, h3⟩ := (T.mono ((e1.trans e2).trans e3)).ex
    obtain ⟨xs, hxs⟩ := hen
    have dy' := dy
    rw [hxs] at dy'
    obtain ⟨b, _, rfl, _, _⟩ := dp_tup dy'
    refine ⟨d, b, o, _, nk a, rfl, rfl, h2, keys_tab ko h3, by rw [ko.data]; exact dy, ko.dep _, fun x hx ez => ?_, ?_, fun o' => k H3 _ _ ((e1.trans e2).trans e3) h2 trivial ?_⟩
    · obtain ⟨z, hz, rfl⟩ := List.mem_map.mp hx
      exact ha (h1 ▸ List.mem_map.mpr ⟨z, hz, ko.inj _ _ ez⟩)
    · rw [List.length_map]
      have := congrArg List.length h1
      rw [List.length_map] at this
      omega
    · have sx : Sx H3 (upd H3 d (DictN P w d o' ((m.map fun x => (nk x.1, x.2)) ++ [(nk a, b, .ref q)]))) := Sx.upd h2 trivial
      refine ⟨o', m ++ [(a, b, .ref q)], by rw [List.map_append, h1]; rfl, ?_, fun x hx => ?_⟩
      · rw [upd_same, List.map_append]
        rfl
      · rcases List.mem_append.mp hx with hx | hx
        · exact ⟨dp_sx sx (h3 x hx).1, dp_sx sx (h3 x hx).2.1, (h3 x hx).2.2⟩
        · rw [List.mem_singleton] at hx
          subst hx
          exact ⟨dp_sx sx dy, dp_sx sx (dp_mono (e2.trans e3) (by rw [hg]; exact .lst (sq_of hzs) dzs)), hok q hq⟩
end
theorem tupS (s : List Int) : ∃ xs, eS s = .tuple xs := ⟨_, rfl⟩
theorem tupD (s : Dt) : ∃ xs, eD s = .tuple xs := ⟨_, rfl⟩
end K49
namespace K49
open PySem PySem.Spec PySem.W PyProof.Rows L2 Evl
/-! ## calls of the text's own defs -/
structure Df (K : PySem.W.Frag) (mg : Str → Option Value) (x : Str) (st : Stmt) (ps : List Str) (f : Addr) (fd : FuncData) : Prop where
  F : Fun K x x st f fd
  b : Binds K fd ps []
  g : mg x = some (.ref f)
section
variable {X : Cx} {k : Nat} {f : Addr} {fd : FuncData} {ps : List Str} {sp : Sp} {x : Str} {st : Stmt} {p pos : PySem.Pos} {e : Expr} {es : List Expr} {t : TA}
theorem pe_df (D : Df X.K X.mg x st ps f fd) (G : FnOk X.prog X.w X.K X.mg X.base CX0 k f fd ps sp) (hr : Room k X.A) (ha : PA X (e :: es) t) (hg : Gl X x := by rfl) (hdb : (x == ("__debug__" : Str)) = false := by decide)
    (he : starEach (e :: es) X.env = (false, eval e X.env) :: starEach es X.env := by rfl) (hpl : (backTo pos (starEach es X.env)).any (·.1) = false := by rfl) : PE X (.Call (.Name x p) (e :: es) [] pos) (tCall sp [] E0 t) :=
  pe_call G hr hg D.g D.F.kp D.b .nil pass0 ha hdb he hpl
end
/-! ## the objects -/
/-- what is known of the two classes -/
structure Clz (K : PySem.W.Frag) (C T : Addr) : Prop where
  cC : Cls K C
  cT : Cls K T
  nTab : NoAttr K C "table"
  nPl : NoAttr K C "places"
  nOf : NoAttr K C "offers"
  nPi : NoAttr K C "picks"
  nLi : NoAttr K T "lives"
  nLo : NoAttr K T "loose"
/-- a Chooser that takes what the lists L take, of n offers -/
def Chz (K : PySem.W.Frag) (P : Program) (w : World) (C : Addr) (n : Nat) (L : List (List Int)) (H : Hp) (v : V) : Prop := ∃ a dx fs t pl, v = .ref a ∧ H a = some (.ins C dx fs) ∧ fs.lookup ("table" : Str) = some (.ref t) ∧ fs.lookup ("places" : Str) = some pl ∧
  TabD K P w nkS eS (fun s => eS (taken L s)) (fun _ => True) H t (allSets n) ∧ ∃ l : List Int, l.length = n ∧ Dp K H pl (eS l)
def Trd (K : PySem.W.Frag) (T : Addr) (lives loose : List Int) (H : Hp) (v : V) : Prop := ∃ a dx fs x y, v = .ref a ∧ H a = some (.ins T dx fs) ∧ fs.lookup ("lives" : Str) = some x ∧ fs.lookup ("loose" : Str) = some y ∧ Dp K H x (eS lives) ∧ Dp K H y (eS loose)
section
variable {K : PySem.W.Frag} {P : Program} {w : World} {C T : Addr} {n : Nat} {L : List (List Int)} {H H' : Hp} {v : V} {σ : L2.St} {ta tb : TE} {lives loose : List Int}
theorem Chz.mono (e : Ex H H') (h : Chz K P w C n L H v) : Chz K P w C n L H' v := by
  obtain ⟨a, dx, fs, t, pl, h1, h2, h3, h4, h5, l, h6, h7⟩ := h
  exact ⟨a, dx, fs, t, pl, h1, e _ _ h2, h3, h4, h5.mono e, l, h6, dp_mono e h7⟩
theorem Trd.mono (e : Ex H H') (h : Trd K T lives loose H v) : Trd K T lives loose H' v := by
  obtain ⟨a, dx, fs, x, y, h1, h2, h3, h4, h5, h6⟩ := h
  exact ⟨a, dx, fs, x, y, h1, e _ _ h2, h3, h4, dp_mono e h5, dp_mono e h6⟩
theorem ev_fld {a dx : Addr} {fs : List (Str × V)} {f : Str} {y : V} (ha : Ev ta σ H (.ref a)) (h : H a = some (.ins C dx fs)) (c : Cls K C) (nf : NoAttr K C f) (l : fs.lookup f = some y) : Ev (tFld K ta f) σ H y := fun H1 e Q q =>
  ha H1 e _ fun H2 e2 => ⟨a, C, dx, fs, y, rfl, (e.trans e2) _ _ h, c, nf, l, q H2 e2⟩
/-- side.table[some] -/
theorem ed_tab {s : List Int} (hC : Cls K C) (nT : NoAttr K C "table") (ha : Ev ta σ H v) (h : Chz K P w C n L H v) (hb : EvD K tb σ H (eS s)) (hs : s ∈ allSets n) : EvD K (tNGet K P w (tFld K ta "table") tb) σ H (eS (taken L s)) := by
  obtain ⟨a, dx, fs, t, pl, rfl, h2, h3, h4, h5, h6⟩ := h
  exact ed_tget (g := fun s => eS (taken L s)) keyS (ev_fld ha h2 hC nT h3) hb (tupS s) h5 hs
theorem ed_lives (z : Clz K C T) (ha : Ev ta σ H v) (h : Trd K T lives loose H v) : EvD K (tFld K ta "lives") σ H (eS lives) := by
  obtain ⟨a, dx, fs, x, y, rfl, h2, h3, h4, h5, h6⟩ := h
  exact ed_of (ev_fld ha h2 z.cT z.nLi h3) h5
theorem ed_loose (z : Clz K C T) (ha : Ev ta σ H v) (h : Trd K T lives loose H v) : EvD K (tFld K ta "loose") σ H (eS loose) := by
  obtain ⟨a, dx, fs, x, y, rfl, h2, h3, h4, h5, h6⟩ := h
  exact ed_of (ev_fld ha h2 z.cT z.nLo h4) h6
theorem ed_nilT : EvD K (tTup tNil) σ H (eS []) := ed_tup eds_nil (Nat.zero_le _)
theorem ed_one {x : Int} (h : EvD K ta σ H (.int x)) : EvD K (tTup (tCons ta tNil)) σ H (eS [x]) := ed_tup (eds_cons h eds_nil) (by show 1 ≤ 100000; decide)
end
section
variable {P : Program} {w : World} {K : PySem.W.Frag} {mg : Str → Option Value} {base : Heap}
/-! chooser_is_part -/
def rPart : Hp → List AS → PyData → Prop := fun _ as d => ∃ p s : List Int, as = [.inr (eS p), .inr (eS s)] ∧ (∀ x ∈ p, x ∈ s) ∧ d = .bool true
theorem ok_part {f : Addr} {fd : FuncData} {k : Nat} (F : Fun K "chooser_is_part" "chooser_is_part" sPart f fd) : FnOk P w K mg base CX0 (k + 1) f fd ["part", "some"] (spA K rPart) := by
  refine F.ok scPart (fun vs H Q E h => ?_) (fun cdv A outer s H vs Q E hr h => ?_)
  · obtain ⟨as, d, h, ⟨p, s, rfl, _⟩, _⟩ := h
    exact h.len
  · obtain ⟨as, d, h, ⟨p, st, rfl, hp, rfl⟩, q⟩ := h
    obtain ⟨v1, vs, rfl, h1, h⟩ := h.hd
    obtain ⟨v2, vs, rfl, h2, h⟩ := h.hd
    obtain rfl := h.nilv
    refine ⟨_, pss_cons (ps_for PassesOwn.never rfl (pi_tup (pv 0)) (pg_name (i := 2) scPart.nd rfl (.inl rfl))
        (pss_one (ps_if (pt_cmpR op_notIn_seq (pv 2) (pv 1) (by with_unfolding_all rfl)) (pss_one (ps_ret pe_bl)) pss_nil)))
      (pss_one (ps_ret pe_bl)), ?_⟩
    refine q_forT (e1 := PyData.int) (as := p) (ed_var rfl h1) flat_int (fun H3 l σ H' => Ex H3 H' ∧ ∃ x, σ = [some v1, some v2, x]) (fun H3 _ => ⟨Ex.refl _, _, rfl⟩) (fun H3 l σ H' _ p => Tx.of p.1) (fun H3 l a r e3 hs x σ H' pv hx => ?_) fun H3 σ H' e3 pv => ?_
    · obtain ⟨e4, y, rfl⟩ := pv
      have ha : a ∈ st := hp a (by rw [hs]; simp)
      refine s_when (et_test (ev_niS (ed_var rfl hx) (ed_var rfl (dp_mono (e3.trans e4) h2)))) (fun z => ?_) fun _ H5 e5 => ⟨e4.trans e5, some x, rfl⟩
      rw [decide_eq_true ha] at z
      cases z
    · exact s_retD (ed_bl ev_c) fun v H5 e5 hd => q v H5 ((e3.trans pv.1).trans e5) hd
/-! together, side_set_with -/
def rTog : Hp → List AS → PyData → Prop := fun _ as d => ∃ a b l : List Int, as = [.inr (eS a), .inr (eS b)] ∧ a.length + b.length ≤ 60 ∧ l.Pairwise (· < ·) ∧ (∀ x, x ∈ l ↔ x ∈ a ++ b) ∧ d = eS l
theorem ok_tog {f : Addr} {fd : FuncData} {k : Nat} (F : Fun K "together" "together" sTog f fd) (T : Txt mg) : FnOk P w K mg base CX0 (k + 1) f fd ["one", "other"] (spA K rTog) := by
  refine F.ok scTog (fun vs H Q E h => ?_) (fun cdv A outer s H vs Q E hr h => ?_)
  · obtain ⟨as, d, h, ⟨a, b, l, rfl, _⟩, _⟩ := h
    exact h.len
  · obtain ⟨as, d, h, ⟨a, b, l, rfl, hl, hp, hm, rfl⟩, q⟩ := h
    obtain ⟨v1, vs, rfl, h1, h⟩ := h.hd
    obtain ⟨v2, vs, rfl, h2, h⟩ := h.hd
    obtain rfl := h.nilv
    refine ⟨_, pss_one (ps_ret (pe_callTy call_tuple_of (by rfl) T.tuple boot_tup' (pa_cons (pe_callB (cr_sortedSet rfl) (by rfl) T.sorted boot_sorted (pa_cons
      (pe_callTy (cr_setTI rfl) (by rfl) T.set boot_set (pa_cons (pe_op op_catA (pv 0) (pv 1)) pa_nil)) pa_nil)) pa_nil))), ?_⟩
    refine s_retD (ed_tupOf (EvN.toD (en_sset (l := a ++ b) (ed_is (ed_catT (ed_var rfl h1) (ed_var rfl h2) ?_) ?_) ?_ hp hm))) q
    · rw [List.length_map, List.length_map]
      omega
    · unfold eS
      rw [List.map_append]
    · rw [List.length_append]
      omega
def rWith : Hp → List AS → PyData → Prop := fun _ as d => ∃ (s : List Int) (x : Int), as = [.inr (eS s), .inr (.int x)] ∧ s.Pairwise (· < ·) ∧ x ∉ s ∧ s.length ≤ 50 ∧ d = eS (ins s x)
theorem ok_with {f fT : Addr} {fd fdT : FuncData} {k : Nat} (F : Fun K "side_set_with" "side_set_with" sWith f fd) (DT : Df K mg "together" sTog ["one", "other"] fT fdT) (T : Txt mg) : FnOk P w K mg base CX0 (k + 2) f fd ["some", "offer"] (spA K rWith) := by
  have GT : FnOk P w K mg base CX0 (k + 1) fT fdT ["one", "other"] (spA K rTog) := ok_tog DT.F T
  refine F.ok scWith (fun vs H Q E h => ?_) (fun cdv A outer s H vs Q E hr h => ?_)
  · obtain ⟨as, d, h, ⟨a, b, rfl, _⟩, _⟩ := h
    exact h.len
  · obtain ⟨as, d, h, ⟨st, x, rfl, hp, hx, hl, rfl⟩, q⟩ := h
    obtain ⟨v1, vs, rfl, h1, h⟩ := h.hd
    obtain ⟨v2, vs, rfl, h2, h⟩ := h.hd
    obtain rfl := h.nilv
    refine ⟨_, pss_one (ps_ret (pe_df DT GT hr (pa_cons (pv 0) (pa_cons (pe_tup (pa_cons (pv 1) pa_nil)) pa_nil)))), ?_⟩
    refine s_retD (ed_call (ar_d (ed_var rfl h1) (ar_d (ed_one (ed_var rfl h2)) ar_nil)) fun _ _ => ⟨st, [x], ins st x, rfl, by show st.length + 1 ≤ 60; omega, ?_, fun y => ?_, rfl⟩) q
    · refine asc_sort ?_
      rw [List.nodup_append]
      refine ⟨asc_nodup hp, by simp, fun a ha b hb e => ?_⟩
      rw [List.mem_singleton] at hb
      exact hx (hb ▸ e ▸ ha)
    · rw [mem_ins, List.mem_append, List.mem_singleton]
end
end K49
namespace K49
open PySem PySem.Spec PySem.W PyProof.Rows L2 Evl
theorem hu_64 {k : Nat} {A : Around} (hr : Room k A) : A.units + 64 < cLine := hr.units
theorem hu_65 {k : Nat} {A : Around} (hr : Room k A) : A.units + 65 < cLine := by have := hr.un; omega
theorem blt (b : Bool) : PyData.bool b = PyData.bool true → b = true := fun h => by injection h
section
variable {P : Program} {w : World} {K : PySem.W.Frag} {mg : Str → Option Value} {base : Heap} {C T : Addr}
/-! agreed_by -/
def rAgr (K : PySem.W.Frag) (P : Program) (w : World) (C : Addr) : Hp → List AS → PyData → Prop := fun H as d => ∃ (a b : V) (n : Nat) (L1 L2 : List (List Int)) (s : List Int), as = [.inl a, .inl b, .inr (eS s)] ∧ Chz K P w C n L1 H a ∧ Chz K P w C n L2 H b ∧ s ∈ allSets n ∧ d = .bool (agreed L1 L2 s)
theorem ok_agr {f : Addr} {fd : FuncData} {k : Nat} (F : Fun K "agreed_by" "agreed_by" sAgr f fd) (Z : Clz K C T) : FnOk P w K mg base CX0 (k + 1) f fd ["near", "far", "some"] (spA K (rAgr K P w C)) := by
  refine F.ok scAgr (fun vs H Q E h => ?_) (fun cdv A outer s H vs Q E hr h => ?_)
  · obtain ⟨as, d, h, ⟨a, b, n, L1, L2, s, rfl, _⟩, _⟩ := h
    exact h.len
  · obtain ⟨as, d, h, ⟨a, b, n, L1, L2, st, rfl, ca, cb, hs, rfl⟩, q⟩ := h
    obtain ⟨vs, rfl, _, h⟩ := h.hv
    obtain ⟨vs, rfl, _, h⟩ := h.hv
    obtain ⟨v3, vs, rfl, h3, h⟩ := h.hd
    obtain rfl := h.nilv
    refine ⟨_, pss_one (ps_ret (pe_and (pe_cmpR (op_eqD (hu_64 hr)) (pe_nget (hu_64 hr) (pe_fld (pv 0) rfl) (pv 2) (fun _ _ => rfl)) (pv 2) (nomark _))
      (pe_one (pe_cmpR (op_eqD (hu_64 hr)) (pe_nget (hu_64 hr) (pe_fld (pv 1) rfl) (pv 2) (fun _ _ => rfl)) (pv 2) (nomark _))))), ?_⟩
    refine s_retD (ed_bl (ev_is (ev_andV (ev_eqD (ed_tab Z.cC Z.nTab (ev_var rfl) ca (ed_var rfl h3) hs) (ed_var rfl h3) (shaped_S _) (shaped_S _)) fun _ => ev_eqD (ed_tab Z.cC Z.nTab (ev_var rfl) cb (ed_var rfl h3) hs) (ed_var rfl h3) (shaped_S _) (shaped_S _)) ?_)) q
    rw [eqv_S, eqv_S]
    rfl
/-! wished_beside -/
def rWish (K : PySem.W.Frag) (P : Program) (w : World) (C : Addr) : Hp → List AS → PyData → Prop := fun H as d => ∃ (a b : V) (n : Nat) (L1 L2 : List (List Int)) (st s : List Int), as = [.inl a, .inl b, .inr (eS st), .inr (eS s)] ∧ Chz K P w C n L1 H a ∧ Chz K P w C n L2 H b ∧ 1 ≤ n ∧ n ≤ 4 ∧ Asc n st ∧ Asc n s ∧
  d = eS (wished L1 L2 st s)
theorem asc_len4 {n : Nat} (h1 : 1 ≤ n) (h4 : n ≤ 4) {s : List Int} (h : Asc n s) : s.length ≤ 4 := by
  have := small4 (p := fun n => ∀ s ∈ allSets n, s.length ≤ 4) h1 h4 (by decide +kernel) (by decide +kernel) (by decide +kernel) (by decide +kernel)
  exact this s (asc_all h1 h4 h)
theorem ok_wish {f fS : Addr} {fd fdS : FuncData} {k : Nat} (F : Fun K "wished_beside" "wished_beside" sWish f fd) (DS : Df K mg "side_set_with" sWith ["some", "offer"] fS fdS) (GS : FnOk P w K mg base CX0 k fS fdS ["some", "offer"] (spA K rWith)) (Z : Clz K C T) (Tx' : Txt mg) :
    FnOk P w K mg base CX0 (k + 1) f fd ["near", "far", "standing", "some"] (spA K (rWish K P w C)) := by
  refine F.ok scWish (fun vs H Q E h => ?_) (fun cdv A outer s H vs Q E hr h => ?_)
  · obtain ⟨as, d, h, ⟨a, b, n, L1, L2, st, s, rfl, _⟩, _⟩ := h
    exact h.len
  · obtain ⟨as, d, h, ⟨a, b, n, L1, L2, st, s0, rfl, ca, cb, n1, n4, ast, as0, rfl⟩, q⟩ := h
    obtain ⟨vs, rfl, _, h⟩ := h.hv
    obtain ⟨vs, rfl, _, h⟩ := h.hv
    obtain ⟨v3, vs, rfl, h3, h⟩ := h.hd
    obtain ⟨v4, vs, rfl, h4, h⟩ := h.hd
    obtain rfl := h.nilv
    have hu := hu_64 hr
    refine ⟨_, pss_cons (ps_set (i := 4) scWish.nd rfl (.inl rfl) (pe_lst pa_nil))
      (pss_cons (ps_for PassesOwn.never rfl (pi_tup (pv 2)) (pg_name (i := 5) scWish.nd rfl (.inl rfl))
        (pss_one (ps_if (pt_cmpR op_notIn_seq (pv 5) (pv 3) (by with_unfolding_all rfl))
          (pss_cons (ps_set (i := 6) scWish.nd rfl (.inl rfl) (pe_df DS GS hr (pa_cons (pv 3) (pa_cons (pv 5) pa_nil))))
          (pss_one (ps_if (PW.pt (pw_and (pt_cmpR op_in_seq (pv 5) (pe_nget hu (pe_fld (pv 0) rfl) (pv 6) (fun _ _ => rfl)) (by with_unfolding_all rfl)) (pw_and1 (pt_cmpR op_in_seq (pv 5) (pe_nget hu (pe_fld (pv 1) rfl) (pv 6) (fun _ _ => rfl)) (by with_unfolding_all rfl)))))
            (pss_one (ps_expr (pe_bm PySem.F.plainAttrs_list PySem.F.slot_list_append PySem.F.type_list_append mt_append (pv 4) (pa_cons (pv 5) pa_nil)))) pss_nil))) pss_nil)))
      (pss_one (ps_ret (pe_callTy call_tuple_of (by rfl) Tx'.tuple boot_tup' (pa_cons (pv 4) pa_nil))))), ?_⟩
    refine q_asgN (K := K) (ds := []) (en_lst eds_nil (Nat.zero_le _)) fun p xs H1 hp e1 hx hd => ?_
    cases hd
    refine q_forT (e1 := PyData.int) (as := st) (ed_var rfl (dp_mono e1 h3)) flat_int (fun H3 l σ H' => Ex H H' ∧ Tx H3 H' ∧ (∃ x y, σ = [some a, some b, some v3, some v4, some (.ref p), x, y]) ∧ ∃ xs, H' p = some (.lst xs) ∧ DpAll K H' xs ((l.filter (wishB L1 L2 s0)).map .int))
      (fun H3 e3 => ⟨e1.trans e3, Tx.refl _, ⟨_, _, rfl⟩, [], e3 _ _ hx, .nil⟩) (fun H3 l σ H' _ p => p.2.1) (fun H3 l x r e3 hsp y σ H' pw hy => ?_) fun H3 σ H' e3 pw => ?_
    · obtain ⟨e4, t4, ⟨y5, y6, rfl⟩, zs, hz, dz⟩ := pw
      have hxst : x ∈ st := by rw [hsp]; simp
      have hx0 := ast.2 x hxst
      refine s_when (et_test (ev_niS (ed_var rfl hy) (ed_var rfl (dp_mono e4 h4)))) (fun hb H5 e5 => ?_) fun hb H5 e5 => ?_
      · rw [Bool.not_eq_true', decide_eq_false_iff_not] at hb
        have hins : ins s0 x ∈ allSets n := asc_all n1 n4 (asc_ins as0 hb hx0)
        have e45 := e4.trans e5
        have hlen := asc_len4 n1 n4 as0
        refine q_asgD (d := eS (ins s0 x)) (ed_call (ar_d (ed_var rfl (dp_mono e45 h4)) (ar_d (ed_var rfl (dp_mono e5 hy)) ar_nil)) fun _ _ => ⟨s0, x, rfl, as0.1, hb, by omega, rfl⟩) fun v6 H6 e6 h6 => ?_
        have e46 := e45.trans e6
        have t46 : Tx H3 H6 := t4.trans (Tx.of (e5.trans e6))
        have hz6 := e6 _ _ (e5 _ _ hz)
        have dz6 := dpAll_mono (e5.trans e6) dz
        have hbb : wishB L1 L2 s0 x = (decide (x ∈ taken L1 (ins s0 x)) && decide (x ∈ taken L2 (ins s0 x))) := by
          unfold wishB
          rw [decide_eq_false hb]
          rfl
        have hlf : (l.filter (wishB L1 L2 s0)).length < 100000 := by
          have h1 := List.length_filter_le (wishB L1 L2 s0) l
          have h2 := asc_len4 n1 n4 ast
          rw [hsp, List.length_append] at h2
          omega
        refine s_when (et_and (et_test (ev_inS (ed_var rfl (dp_mono (e5.trans e6) hy)) (ed_tab Z.cC Z.nTab (ev_var rfl) (ca.mono e46) (ed_var rfl h6) hins))) fun _ => et_test (ev_inS (ed_var rfl (dp_mono (e5.trans e6) hy)) (ed_tab Z.cC Z.nTab (ev_var rfl) (cb.mono e46) (ed_var rfl h6) hins))) (fun hw H7 e7 => ?_) fun hw H7 e7 => ?_
        · rw [← hbb] at hw
          refine s_appD (e7 _ _ hz6) (ev_var rfl) (ed_var rfl (dp_mono ((e5.trans e6).trans e7) hy)) ?_ fun v H8 e8 hv => ?_
          · have := dpAll_len dz
            rw [this, List.length_map]
            exact hlf
          · have hz8 := e8 _ _ (e7 _ _ hz6)
            obtain ⟨q1, q2⟩ := after_app hz8 (dpAll_mono (e7.trans e8) dz6) hv (flatTs_map flat_int _) (flat_int _)
            refine ⟨Ex.mut ((e46.trans e7).trans e8) hp, (t46.trans (Tx.of (e7.trans e8))).trans (Tx.upd hz8 trivial), ⟨_, _, rfl⟩, _, q1, ?_⟩
            rw [List.filter_append, List.filter_cons, if_pos hw, List.map_append]
            exact q2
        · rw [← hbb] at hw
          refine ⟨e46.trans e7, t46.trans (Tx.of e7), ⟨_, _, rfl⟩, zs, e7 _ _ hz6, ?_⟩
          rw [List.filter_append, List.filter_cons, if_neg (by rw [hw]; decide)]
          show DpAll K H7 zs (List.map PyData.int (List.filter (wishB L1 L2 s0) l ++ []))
          rw [List.append_nil]
          exact dpAll_mono e7 dz6
      · rw [Bool.not_eq_false', decide_eq_true_eq] at hb
        have hw : wishB L1 L2 s0 x = false := by
          unfold wishB
          rw [decide_eq_true hb]
          rfl
        refine ⟨e4.trans e5, t4.trans (Tx.of e5), ⟨_, _, rfl⟩, zs, e5 _ _ hz, ?_⟩
        rw [List.filter_append, List.filter_cons, if_neg (by rw [hw]; decide)]
        show DpAll K H5 zs (List.map PyData.int (List.filter (wishB L1 L2 s0) l ++ []))
        rw [List.append_nil]
        exact dpAll_mono e5 dz
    · obtain ⟨e4, t4, ⟨y5, y6, rfl⟩, zs, hz, dz⟩ := pw
      refine s_retD (ed_tupOf (ed_var rfl (.lst (sq_of hz) dz))) fun v H5 e5 hd => q v H5 (e4.trans e5) hd
/-! side_settled -/
def rSide (K : PySem.W.Frag) (P : Program) (w : World) (C : Addr) : Hp → List AS → PyData → Prop := fun H as d => ∃ (a b : V) (n : Nat) (L1 L2 : List (List Int)) (st s : List Int), as = [.inl a, .inl b, .inr (eS st), .inr (eS s)] ∧ Chz K P w C n L1 H a ∧ Chz K P w C n L2 H b ∧ 1 ≤ n ∧ n ≤ 4 ∧ Asc n st ∧ Asc n s ∧
  d = .bool (settled L1 L2 st s)
theorem ok_side {f fA fW : Addr} {fd fdA fdW : FuncData} {k : Nat} (F : Fun K "side_settled" "side_settled" sSide f fd) (DA : Df K mg "agreed_by" sAgr ["near", "far", "some"] fA fdA) (GA : FnOk P w K mg base CX0 k fA fdA ["near", "far", "some"] (spA K (rAgr K P w C)))
    (DW : Df K mg "wished_beside" sWish ["near", "far", "standing", "some"] fW fdW) (GW : FnOk P w K mg base CX0 k fW fdW ["near", "far", "standing", "some"] (spA K (rWish K P w C))) : FnOk P w K mg base CX0 (k + 1) f fd ["near", "far", "standing", "part"] (spA K (rSide K P w C)) := by
  refine F.ok scSide (fun vs H Q E h => ?_) (fun cdv A outer s H vs Q E hr h => ?_)
  · obtain ⟨as, d, h, ⟨a, b, n, L1, L2, st, s, rfl, _⟩, _⟩ := h
    exact h.len
  · obtain ⟨as, d, h, ⟨a, b, n, L1, L2, st, s0, rfl, ca, cb, n1, n4, ast, as0, rfl⟩, q⟩ := h
    obtain ⟨vs, rfl, _, h⟩ := h.hv
    obtain ⟨vs, rfl, _, h⟩ := h.hv
    obtain ⟨v3, vs, rfl, h3, h⟩ := h.hd
    obtain ⟨v4, vs, rfl, h4, h⟩ := h.hd
    obtain rfl := h.nilv
    refine ⟨_, pss_one (ps_ret (pe_and (pe_df DA GA hr (pa_cons (pv 0) (pa_cons (pv 1) (pa_cons (pv 3) pa_nil)))) (pe_one (pe_cmpR (op_eqD (hu_64 hr)) (pe_df DW GW hr (pa_cons (pv 0) (pa_cons (pv 1) (pa_cons (pv 2) (pa_cons (pv 3) pa_nil))))) (pe_tup pa_nil) (nomark _))))), ?_⟩
    refine s_retD (ed_bl (ev_is (ev_andV (EvD.bl (ed_call (ar_v (ev_var rfl) (ar_v (ev_var rfl) (ar_d (ed_var rfl h4) ar_nil))) fun _ e => ⟨a, b, n, L1, L2, s0, rfl, ca.mono e, cb.mono e, asc_all n1 n4 as0, rfl⟩))
      fun _ => ev_eqD (ed_call (ar_v (ev_var rfl) (ar_v (ev_var rfl) (ar_d (ed_var rfl h3) (ar_d (ed_var rfl h4) ar_nil)))) fun _ e => ⟨a, b, n, L1, L2, st, s0, rfl, ca.mono e, cb.mono e, n1, n4, ast, as0, rfl⟩) ed_nilT (shaped_S _) (shaped_S _)) ?_)) q
    rw [eqv_S]
    rfl
end
end K49
namespace K49
open PySem PySem.Spec PySem.W PyProof.Rows L2 Evl
/-! ## [e for x in list for y in range(a, b)] -/
section
variable {K : PySem.W.Frag} {σ : L2.St} {H : Hp} {tl te : TE} {ta : TA} {α β : Type} {as : List α} {e1 : α → PyData} {e2 : β → PyData} {vs vs1 : List Nat} {j1 j2 : Nat}
def rowsOf (lo hi : α → Int) (gg : α → Int → β) (a : α) : List β := (List.range (hi a - lo a).toNat).map fun (i : Nat) => gg a (lo a + (i : Int))
theorem en_lc2R (lo hi : α → Int) (gg : α → Int → β) (h : EvD K tl σ H (.list (as.map e1))) (hz : (as.flatMap (rowsOf lo hi gg)).length ≤ 40000) (fl : ∀ b, flatT (e2 b) = true)
    (hb : ∀ a ∈ as, -1000 ≤ lo a ∧ lo a ≤ 1000 ∧ -1000 ≤ hi a ∧ hi a ≤ 1000)
    (hw : ∀ x, wipe ((wipe σ vs).set j1 (some x)) vs = wipe σ vs) (hw1 : ∀ x y, wipe ((wipe ((wipe σ vs).set j1 (some x)) vs1).set j2 (some y)) vs1 = wipe ((wipe σ vs).set j1 (some x)) vs1)
    (ha : ∀ a ∈ as, ∀ x H1, Ex H H1 → Dp K H1 x (e1 a) → EvA ta ((wipe σ vs).set j1 (some x)) H1 [.int (lo a), .int (hi a)])
    (he : ∀ a ∈ as, ∀ x H1, Ex H H1 → Dp K H1 x (e1 a) → ∀ i : Nat, i < (hi a - lo a).toNat → EvD K te ((wipe ((wipe σ vs).set j1 (some x)) vs1).set j2 (some (.int (lo a + (i : Int))))) H1 (e2 (gg a (lo a + (i : Int))))) :
    EvN K (tLc2 (iList K tl) (gName j1) tYes (iRng2 ta) (gName j2) tYes te vs vs1) σ H ((as.flatMap (rowsOf lo hi gg)).map e2) := fun H0 e Q q =>
  h H0 e _ fun v H1 ev hv => by
    obtain ⟨p, xs, rfl, hs, hx⟩ := dp_lst hv
    have hlen : xs.length = as.length := by rw [dpAll_len hx, List.length_map]
    refine ⟨p, rfl, ⟨xs, hs⟩, fun Dl hD => ?_⟩
    refine ⟨fun i m H' => m = xs.length - i ∧ i ≤ xs.length ∧ Lw K H1 Dl (((as.take i).flatMap (rowsOf lo hi gg)).map e2) H', ⟨xs.length, by simp, Nat.zero_le _, hD, Ex.new hD, [], upd_same, .nil⟩, ?_⟩
    rintro i m H' ⟨rfl, hi', lw⟩
    by_cases hlt : i < xs.length
    · obtain ⟨a, hai⟩ : ∃ a, as[i]? = some a := ⟨as[i]'(by omega), List.getElem?_eq_getElem (by omega)⟩
      have hxi : xs[i]? = some xs[i] := List.getElem?_eq_getElem hlt
      obtain ⟨d, hd', hxd⟩ := dpAll_at hx hxi
      rw [List.getElem?_map, hai] at hd'
      have hde : e1 a = d := Option.some.inj hd'
      subst hde
      have hm := List.mem_of_getElem? hai
      refine .inr ⟨⟨xs, xs[i], ex_l lw.2.1 hs, hxi⟩, fun H' => Lw K H1 Dl (((as.take (i + 1)).flatMap (rowsOf lo hi gg)).map e2) H', fun H2 w2 => ⟨xs.length - (i + 1), by omega, rfl, hlt, w2⟩, fun x H2 y => ?_⟩
      obtain ⟨rfl, hy⟩ := y
      have hxe : xs[i] = x := by
        have := hy xs (ex_l lw.2.1 hs)
        rw [hxi] at this
        exact Option.some.inj this
      rw [hxe] at hxd
      have e0 : Ex H H2 := (e.trans ev).trans lw.2.1
      refine ⟨hw x, ?_⟩
      unfold tYes
      dsimp only
      rw [if_pos rfl]
      refine ha a hm x H2 e0 (dp_mono lw.2.1 hxd) H2 (Ex.refl _) _ fun H3 e3 => ?_
      obtain ⟨b1, b2, b3, b4⟩ := hb a hm
      refine ⟨lo a, hi a, rfl, ⟨by omega, by omega, by omega, by omega⟩, ?_⟩
      have hsum : ((as.take i).flatMap (rowsOf lo hi gg)).length + (rowsOf lo hi gg a).length ≤ 40000 := by
        have h1 : as.take (i + 1) = as.take i ++ [a] := take_snoc hai
        have h2 := split_at hai
        rw [h2, List.flatMap_append, List.length_append, List.flatMap_cons, List.length_append] at hz
        omega
      have hn : (rowsOf lo hi gg a).length = (hi a - lo a).toNat := by
        unfold rowsOf
        rw [List.length_map, List.length_range]
      refine ⟨fun j k H' => k = (hi a - lo a).toNat - j ∧ j ≤ (hi a - lo a).toNat ∧ Lw K H1 Dl ((((as.take i).flatMap (rowsOf lo hi gg)) ++ (rowsOf lo hi gg a).take j).map e2) H',
        ⟨(hi a - lo a).toNat, by simp, Nat.zero_le _, by rw [List.take_zero, List.append_nil]; exact lw.keep e3⟩, ?_⟩
      rintro j k H4 ⟨rfl, hj, l4⟩
      by_cases hjl : j < (hi a - lo a).toNat
      · have hj1 : (rowsOf lo hi gg a)[j]? = some (gg a (lo a + (j : Int))) := by
          unfold rowsOf
          rw [List.getElem?_map, List.getElem?_range hjl]
          rfl
        refine .inr ⟨hjl, fun H5 => Lw K H1 Dl ((((as.take i).flatMap (rowsOf lo hi gg)) ++ (rowsOf lo hi gg a).take (j + 1)).map e2) H5, fun H5 w5 => ⟨(hi a - lo a).toNat - (j + 1), by omega, rfl, hjl, w5⟩, fun z H5 y => ?_⟩
        obtain ⟨rfl, rfl⟩ := y
        refine ⟨hw1 x _, ?_⟩
        rw [if_pos rfl]
        have e05 : Ex H H5 := (e.trans ev).trans l4.2.1
        refine he a hm x H5 e05 (dp_mono l4.2.1 hxd) j hjl H5 (Ex.refl _) _ fun y H6 e6 hy => ?_
        have hlt2 : ((((as.take i).flatMap (rowsOf lo hi gg)) ++ (rowsOf lo hi gg a).take j).map e2).length < 100000 := by
          have h3 := List.length_take_le' j (rowsOf lo hi gg a)
          rw [List.length_map, List.length_append]
          omega
        obtain ⟨acc, q1, q2, q3⟩ := l4.add e6 hy (flatTs_map fl _) (fl _) hlt2
        refine ⟨acc, q1, q2, ?_⟩
        rw [take_snoc hj1, ← List.append_assoc, List.map_append]
        exact q3
      · have ej : j = (hi a - lo a).toNat := by omega
        refine .inl ⟨by show (hi a - lo a).toNat ≤ j; omega, ?_⟩
        have : (rowsOf lo hi gg a).take j = rowsOf lo hi gg a := List.take_of_length_le (by omega)
        rw [this] at l4
        rw [take_snoc hai, List.flatMap_append, List.flatMap_cons, List.flatMap_nil, List.append_nil]
        exact l4
    · have ei : i = xs.length := by omega
      subst ei
      refine .inl ⟨⟨xs, ex_l lw.2.1 hs, Nat.le_refl _⟩, ?_⟩
      rw [hlen, List.take_length] at lw
      obtain ⟨w1, w2, ys, w3, w4⟩ := lw
      exact q Dl ys H' (fresh_back ev w1) (ev.trans w2) w3 w4
end
end K49
namespace K49
open PySem PySem.Spec PySem.W PyProof.Rows L2 Evl
/-! plain facts of all sets -/
theorem atI_last {α : Type} {l : List α} {x : α} (h : l.getLast? = some x) : atI l (-1) = some x := by
  cases l with
  | nil => cases h
  | cons a r =>
    unfold atI ixN
    rw [if_neg (by decide), if_pos (by simp only [List.length_cons]; omega)]
    show (a :: r)[((-1 : Int) + ((a :: r).length : Int)).toNat]? = some x
    rw [List.getLast?_eq_getElem?] at h
    rw [← h]
    congr 1
    simp only [List.length_cons]
    omega
theorem rows_ok : ∀ n < 5, ∀ k < 6, (rowsAt n k).length ≤ 16 ∧ (setsTo n k).length ≤ 100 ∧ ∀ r ∈ rowsAt n k, 0 ≤ low r ∧ low r ≤ 4 ∧ r.length ≤ 5 := by decide +kernel
theorem all_ok : ∀ m < 5, (allSets m).length ≤ 16 ∧ ∀ p ∈ allSets m, p.length ≤ 4 ∧ ∀ x ∈ p, 0 ≤ x ∧ x < (m : Int) := by decide +kernel
section
variable {K : PySem.W.Frag} {σ : L2.St} {H : Hp} {ta te : TE} {D : Ends} {ds es : List PyData}
/-- xs.extend(ys) -/
theorem s_ext {l r : Addr} {xs ys : List V} (hl : H l = some (.lst xs)) (ha : Ev ta σ H (.ref l)) (hr : H r = some (.lst ys)) (hb : Ev te σ H (.ref r)) (hz : xs.length + ys.length ≤ 100000) (k : ∀ H1, Ex H H1 → D.nx σ (upd H1 l (.lst (xs ++ ys)))) :
    tDrop (tBM K "list" rExtend ta (tCons te tNil)) D σ H := ha H (Ex.refl H) _ fun H1 e1 =>
  ⟨Or.inl ⟨rfl, xs, sq_of (e1 l _ hl)⟩, hb H1 e1 _ fun H2 e2 => ⟨l, r, xs, ys, rfl, rfl, e2 l _ (e1 l _ hl), e2 r _ (e1 r _ hr), sz_of hz, k H2 (e1.trans e2)⟩⟩
theorem EvN.go2 {K : PySem.W.Frag} {σ : L2.St} {H : Hp} {ta tb : TE} {ds es : List PyData} {i j : Nat} {D : Ends} {tz : TS} (ha : EvN K ta σ H ds) (hb : EvN K tb σ H es)
    (k : ∀ p1 p2 xs ys H1, H p1 = none → H p2 = none → p1 ≠ p2 → Ex H H1 → H1 p1 = some (.lst xs) → H1 p2 = some (.lst ys) → DpAll K H1 xs ds → DpAll K H1 ys es → tz D ((σ.set i (some (.ref p1))).set j (some (.ref p2))) H1) :
    tSeq (tPar i j (tCons ta (tCons tb tNil))) tz D σ H := ha H (Ex.refl H) _ fun p1 xs H1 hp1 e1 hx1 hd1 => hb H1 e1 _ fun p2 ys H2 hp2 e2 hx2 hd2 =>
  ⟨_, _, rfl, k p1 p2 xs ys H2 hp1 (fresh_back e1 hp2) (ne_of_none hx1 hp2) (e1.trans e2) (e2 _ _ hx1) hx2 (dpAll_mono e2 hd1) hd2⟩
/-- xs.extend(a new list) -/
theorem s_extN {l : Addr} {xs : List V} (hl : H l = some (.lst xs)) (ha : Ev ta σ H (.ref l)) (hb : EvN K te σ H es) (hz : xs.length + es.length ≤ 100000) (k : ∀ r ys H1, H r = none → Ex H H1 → H1 r = some (.lst ys) → DpAll K H1 ys es → D.nx σ (upd H1 l (.lst (xs ++ ys)))) :
    tDrop (tBM K "list" rExtend ta (tCons te tNil)) D σ H := ha H (Ex.refl H) _ fun H1 e1 =>
  ⟨Or.inl ⟨rfl, xs, sq_of (e1 l _ hl)⟩, hb H1 e1 _ fun r ys H2 hr e2 hr2 hy => ⟨l, r, xs, ys, rfl, rfl, e2 l _ (e1 l _ hl), hr2, sz_of (by rw [dpAll_len hy]; exact hz), k r ys H2 (fresh_back e1 hr) (e1.trans e2) hr2 hy⟩⟩
end
section
variable {P : Program} {w : World} {K : PySem.W.Frag} {mg : Str → Option Value} {base : Heap} {C T : Addr}
/-! all_sets -/
def rAll : Hp → List AS → PyData → Prop := fun _ as d => ∃ n : Nat, as = [.inr (.int n)] ∧ n ≤ 4 ∧ d = .tuple ((allSets n).map eS)
theorem ok_all {f : Addr} {fd : FuncData} {k : Nat} (F : Fun K "all_sets" "all_sets" sAll f fd) (T' : Txt mg) : FnOk P w K mg base CX0 (k + 1) f fd ["offers"] (spA K rAll) := by
  refine F.ok scAll (fun vs H Q E h => ?_) (fun cdv A outer s H vs Q E hr h => ?_)
  · obtain ⟨as, d, h, ⟨n, rfl, _⟩, _⟩ := h
    exact h.len
  · obtain ⟨as, d, h, ⟨n, rfl, hn, rfl⟩, q⟩ := h
    obtain ⟨v1, vs, rfl, h1, h⟩ := h.hd
    obtain rfl := h.nilv
    have hu := hu_64 hr
    refine ⟨_, pss_cons (ps_par (i := 1) (j := 2) rfl scAll.nd rfl rfl (by decide) rfl rfl (pa_cons (pe_lst (pa_cons (pe_tup pa_nil) pa_nil)) (pa_cons (pe_lst (pa_cons (pe_tup pa_nil) pa_nil)) pa_nil)) (by rfl))
      (pss_cons (ps_for PassesOwn.never rfl (pi_range1 (by rfl) T'.range (pa_cons (pv 0) pa_nil)) (pg_name (i := 3) scAll.nd rfl (.inl rfl))
        (pss_cons (ps_setLc2 (i := 2) (own := [("row", 4), ("one", 5)]) (vs1 := [5]) (g := gName 4) (g1 := gName 5) (tt := tYes) (tt1 := tYes) rfl scAll.nd rfl rfl (sw_true rfl rfl rfl (by decide +kernel)) (pi_list (pv 2)) (blkOk_by (N := ["offers", "found", "rows", "size", "row", "one"]) (sc := defScope sAll) (by decide +kernel)) (by decide)
            (fun _ _ _ _ _ => pg_name (i := 4) scAll.nd rfl (.inl rfl)) (fun _ _ _ _ _ => pts_nil)
            (fun _ _ _ _ _ => pi_range2 (by rfl) T'.range (pa_cons (pe_ifExp (pt_cmpR (r := rNeD K) (op_neD hu) (pv 4) (pe_tup pa_nil) (nomark _)) (pe_op op_add (pe_ix (r := rIxT K) ix_tup (pv 4) (pe_un un_neg pe_int) (fun _ _ => rfl)) pe_int) pe_int) (pa_cons (pv 0) pa_nil)))
            (fun _ _ _ _ _ => pg_name (i := 5) scAll.nd rfl (.inl rfl)) (fun _ _ _ _ _ => pts_nil) (fun _ _ _ _ _ => pe_op (r := rCatA K) op_catA (pv 4) (pe_tup (pa_cons (pv 5) pa_nil))))
        (pss_one (ps_expr (pe_bm PySem.F.plainAttrs_list PySem.F.slot_list_extend PySem.F.type_list_extend mt_extend (pv 1) (pa_cons (pv 2) pa_nil))))))
      (pss_one (ps_ret (pe_callTy call_tuple_of (by rfl) T'.tuple boot_tup' (pa_cons (pv 1) pa_nil))))), ?_⟩
    have hR := rows_ok n (by omega)
    -- found, rows = [()], [()]
    refine EvN.go2 (K := K) (ds := [eS []]) (es := [eS []]) (en_lst (eds_cons ed_nilT eds_nil) (by show 1 ≤ 100000; decide)) (en_lst (eds_cons ed_nilT eds_nil) (by show 1 ≤ 100000; decide)) fun p1 p2 xs ys H1 hp1 hp2 hne e1 hx1 hx2 hd1 hd2 => ?_
    refine q_forR1 (n := (n : Int)) (ea_cons (EvD.int (ed_var rfl (dp_mono e1 h1))) ea_nil) ⟨by omega, by omega⟩
      (fun k σ' H' => ∃ pr x y z xs ys, σ' = [some v1, some (.ref p1), some (.ref pr), x, y, z] ∧ Ex H H' ∧ H' p1 = some (.lst xs) ∧ DpAll K H' xs ((setsTo n k).map eS) ∧ H' pr = some (.lst ys) ∧ DpAll K H' ys ((rowsAt n k).map eS) ∧ pr ≠ p1)
      (fun H2 e2 => ⟨p2, none, none, none, xs, ys, rfl, e1.trans e2, e2 _ _ hx1, dpAll_mono e2 hd1, e2 _ _ hx2, dpAll_mono e2 hd2, hne.symm⟩) (fun i σ' H' hi pw => ?_) fun σ' H' pw => ?_
    · obtain ⟨pr, x, y, z, zs, ws, rfl, e3, hz, dz, hw, dw, hpr⟩ := pw
      have hi' : i < n := by omega
      obtain ⟨r1, r2, r3⟩ := hR i (by omega)
      obtain ⟨r4, r5, r6⟩ := hR (i + 1) (by omega)
      have hh1 := dp_mono e3 h1
      refine q_asgN (ds := (rowsAt n (i + 1)).map eS) (en_lc2R (K := K) (as := rowsAt n i) (e1 := eS) (e2 := eS) low (fun _ => (n : Int)) (fun r x => r ++ [x]) (ed_var rfl (.lst (sq_of hw) dw)) ?_ flat_S (fun a ha => ?_) (fun x => rfl) (fun x y => rfl) (fun a ha x H2 e2 hx => ?_) (fun a ha x H2 e2 hx j hj => ?_)) fun pn us H2 hpn e2 hus hdu => ?_
      · show (rowsAt n (i + 1)).length ≤ 40000
        omega
      · have := r3 a ha
        omega
      · refine ea_cons (ev_is (ev_if (b := decide (a ≠ [])) (v := .int (low a)) (et_is (et_test (ev_neD (K := K) (ed_var rfl hx) ed_nilT (shaped_S _) (shaped_S _))) ?_) (fun hb => ?_) (fun hb => ?_)) rfl) (ea_cons (EvD.int (ed_var rfl (dp_mono e2 hh1))) ea_nil)
        · rw [eqv_S]
          by_cases e : a = [] <;> simp [e]
        · have hb' : a ≠ [] := of_decide_eq_true hb
          obtain ⟨u, hu⟩ : ∃ u, a.getLast? = some u := ⟨_, List.getLast?_eq_some_getLast hb'⟩
          refine ev_is (ev_op (x := .int u) (EvD.int (ed_ixT (i := -1) (ed_var rfl hx) (ev_un ev_c ru_neg) (atI_last ?_))) ev_c rv_I0) ?_
          · rw [List.getLast?_map, hu]
            rfl
          · show V.int (u + 1) = V.int (low a)
            unfold low
            rw [hu]
        · have hb' : a = [] := by simpa using hb
          subst hb'
          exact ev_c
      · have h3 := (r3 a ha).2.2
        refine ed_is (ed_catT (ed_var rfl hx) (ed_one (ed_var rfl (.int _))) ?_) ?_
        · rw [List.length_map, List.length_map]
          show a.length + 1 ≤ 100000
          omega
        · show PyData.tuple (a.map PyData.int ++ [PyData.int _]) = eS (a ++ [_])
          unfold eS
          rw [List.map_append]
          rfl
      · have hz2 := e2 _ _ hz
        have hne2 : pn ≠ p1 := fun e => by rw [e, hz] at hpn; cases hpn
        refine s_ext hz2 (ev_var rfl) hus (ev_var rfl) ?_ fun H3 e4 => ?_
        · rw [dpAll_len dz, dpAll_len hdu, List.length_map, List.length_map]
          omega
        · have hz3 := e4 _ _ hz2
          have t : Tx H3 (upd H3 p1 (.lst (zs ++ us))) := Tx.upd hz3 trivial
          refine ⟨pn, some (.int (i : Int)), y, z, zs ++ us, us, rfl, Ex.mut ((e3.trans e2).trans e4) hp1, upd_same, ?_, ?_, ?_, hne2⟩
          · show DpAll K _ _ ((setsTo n i ++ rowsAt n (i + 1)).map eS)
            rw [List.map_append]
            exact dpAll_append (dpAll_tx t (flatTs_map flat_S _) (dpAll_mono (e2.trans e4) dz)) (dpAll_tx t (flatTs_map flat_S _) (dpAll_mono e4 hdu))
          · rw [upd_ne hne2]
            exact e4 _ _ hus
          · exact dpAll_tx t (flatTs_map flat_S _) (dpAll_mono e4 hdu)
    · obtain ⟨pr, x, y, z, zs, ws, rfl, e3, hz, dz, hw, dw, hpr⟩ := pw
      have : ((n : Int)).toNat = n := by omega
      rw [this] at dz
      exact s_retD (ed_tupOf (ed_var rfl (.lst (sq_of hz) dz))) fun v H5 e5 hd => q v H5 (e3.trans e5) hd
/-! subsets_of -/
def scOuter : Scope := { kind := .function, names := [(".0", .local), ("places", .local), ("tuple", .globalImplicit), ("some", .cell)], isGenerator := false, isCoroutine := false }
def rSubs : Hp → List AS → List PyData → Prop := fun _ as ds => ∃ s : List Int, as = [.inr (eS s)] ∧ s.length ≤ 4 ∧ ds = (subs s).map eS
theorem ok_subs {f fA : Addr} {fd fdA : FuncData} {k : Nat} (F : Fun K "subsets_of" "subsets_of" sSubs f fd) (DA : Df K mg "all_sets" sAll ["offers"] fA fdA) (GA : FnOk P w K mg base CX0 k fA fdA ["offers"] (spA K rAll)) (T' : Txt mg) : FnOk P w K mg base CX0 (k + 1) f fd ["some"] (spN K rSubs) := by
  refine F.ok scSubs (fun vs H Q E h => ?_) (fun cdv A outer s H vs Q E hr h => ?_)
  · obtain ⟨as, d, h, ⟨n, rfl, _⟩, _⟩ := h
    exact h.len
  · obtain ⟨as, d, h, ⟨st, rfl, hn, rfl⟩, q⟩ := h
    obtain ⟨v1, vs, rfl, h1, h⟩ := h.hd
    obtain rfl := h.nilv
    refine ⟨_, pss_one (ps_ret (pe_lc (own := [("places", 1)]) (g := gName 1) (tt := tYes) rfl scSubs.nd (pi_tup (pe_df DA GA hr (pa_cons (pe_callB call_len_seq (by rfl) T'.len PySem.boot_len (pa_cons (pv 0) pa_nil)) pa_nil)))
      (blkOk_by (N := ["some", "places", "place"]) (sc := defScope sSubs) (by decide +kernel)) (fun _ _ _ _ _ => pg_name (i := 1) scSubs.nd rfl (.inl rfl)) (fun _ _ _ _ _ => pts_nil)
      (fun _ _ _ _ _ => pe_callTy (r := rTupD K) call_tuple_of (by rfl) T'.tuple boot_tup' (pa_cons (pe_lc (own := [("place", 2)]) (g := gName 2) (tt := tYes) (te := tOp (rIxT K) (tVar 0) (tVar 2)) (wi := iTup K (tVar 1)) rfl scSubs.nd (pi_tup (pv 1)) (blkOk_by (N := ["some", "places", "place"]) (sc := scOuter) (by decide +kernel))
        (fun _ _ _ _ _ => pg_name (i := 2) scSubs.nd rfl (.inl rfl)) (fun _ _ _ _ _ => pts_nil) (fun _ _ _ _ _ => pe_ix ix_tup (pv 0) (pv 2) (fun _ _ => rfl))) pa_nil)))), ?_⟩
    have hA := all_ok st.length (by omega)
    refine s_retN (en_is (en_lcT (K := K) (as := allSets st.length) (e1 := eS) (e2 := eS) (Tg := fun a => TgN K _ 1 (eS a)) (fun _ => true) (pickAt st) (ed_call (ar_d (ed_int ?_) ar_nil) fun _ _ => ⟨st.length, rfl, hn, rfl⟩) (by omega) flat_S
      (fun a ha x H1 e1 hx Q q => tg_name hx (fun _ => rfl) Q q) (fun a ha σ2 H1 e1 hT => ev_yes) (fun a ha σ2 H1 H2 e1 hT e2 _ => ?_)) ?_) q
    · refine ev_is (ev_lenT (ed_var rfl h1)) ?_
      rw [List.length_map]
    · obtain ⟨x, rfl, hx⟩ := hT
      obtain ⟨hal, hai⟩ := hA.2 a ha
      refine ed_tupOf (EvN.toD (en_is (en_lcT (K := K) (as := a) (e1 := PyData.int) (e2 := PyData.int) (Tg := fun a => TgN K _ 2 (.int a)) (fun _ => true) (fun p => st.getD p.toNat 0) (ed_var rfl (dp_mono e2 hx)) (by omega) flat_int
        (fun i hi y H3 e3 hy Q q => tg_name hy (fun _ => rfl) Q q) (fun i hi σ3 H3 e3 hT3 => ev_yes) (fun i hi σ3 H3 H4 e3 hT3 e4 _ => ?_)) ?_))
      · obtain ⟨y, rfl, hy⟩ := hT3
        obtain ⟨i0, i1⟩ := hai i hi
        refine ed_ixT (i := i) (ed_var rfl (dp_mono (((e1.trans e2).trans e3).trans e4) h1)) (EvD.int (ed_var rfl (dp_mono e4 hy))) (atI_nn i0 ?_)
        rw [List.getElem?_map]
        have : st[i.toNat]? = some (st.getD i.toNat 0) := by
          rw [List.getD_eq_getElem?_getD, List.getElem?_eq_getElem (by omega)]
          rfl
        rw [this]
        rfl
      · unfold lcRes pickAt
        rw [List.filter_eq_self.mpr fun _ _ => rfl]
    · unfold lcRes subs
      rw [List.filter_eq_self.mpr fun _ _ => rfl]
end
end K49
namespace K49
open PySem PySem.Spec PySem.W PyProof.Rows L2 Evl
theorem lcRes_id {α : Type} {en : α → PyData} (f : α → Bool) (as : List α) : lcRes f id en as = (as.filter f).map en := by
  unfold lcRes
  rw [List.map_id]
theorem lcRes_all {α β : Type} {en : β → PyData} (g : α → β) (as : List α) : lcRes (fun _ => true) g en as = (as.map g).map en := by
  unfold lcRes
  rw [List.filter_eq_self.mpr fun _ _ => rfl]
section
variable {P : Program} {w : World} {K : PySem.W.Frag} {mg : Str → Option Value} {base : Heap} {C T : Addr}
/-! settled_among -/
def rSett (K : PySem.W.Frag) (P : Program) (w : World) (C : Addr) : Hp → List AS → PyData → Prop := fun H as d => ∃ (a b : V) (n : Nat) (L1 L2 : List (List Int)) (st : List Int), as = [.inl a, .inl b, .inr (eS st)] ∧ Chz K P w C n L1 H a ∧ Chz K P w C n L2 H b ∧ 1 ≤ n ∧ n ≤ 4 ∧ Asc n st ∧
  d = .tuple (((subs st).filter (settled L1 L2 st)).map eS)
theorem ok_sett {f fS fB : Addr} {fd fdS fdB : FuncData} {k : Nat} (F : Fun K "settled_among" "settled_among" sSett f fd) (DB : Df K mg "subsets_of" sSubs ["some"] fB fdB) (GB : FnOk P w K mg base CX0 k fB fdB ["some"] (spN K rSubs))
    (DS : Df K mg "side_settled" sSide ["near", "far", "standing", "part"] fS fdS) (GS : FnOk P w K mg base CX0 k fS fdS ["near", "far", "standing", "part"] (spA K (rSide K P w C))) (T' : Txt mg) : FnOk P w K mg base CX0 (k + 1) f fd ["near", "far", "standing"] (spA K (rSett K P w C)) := by
  refine F.ok scSett (fun vs H Q E h => ?_) (fun cdv A outer s H vs Q E hr h => ?_)
  · obtain ⟨as, d, h, ⟨a, b, n, L1, L2, st, rfl, _⟩, _⟩ := h
    exact h.len
  · obtain ⟨as, d, h, ⟨a, b, n, L1, L2, st, rfl, ca, cb, n1, n4, ast, rfl⟩, q⟩ := h
    obtain ⟨vs, rfl, _, h⟩ := h.hv
    obtain ⟨vs, rfl, _, h⟩ := h.hv
    obtain ⟨v3, vs, rfl, h3, h⟩ := h.hd
    obtain rfl := h.nilv
    refine ⟨_, pss_one (ps_ret (pe_callTy call_tuple_of (by rfl) T'.tuple boot_tup' (pa_cons (pe_lc (own := [("part", 3)]) (g := gName 3) rfl scSett.nd (pi_list (pe_df DB GB hr (pa_cons (pv 2) pa_nil)))
      (blkOk_by (N := ["near", "far", "standing", "part"]) (sc := defScope sSett) (by decide +kernel)) (fun _ _ _ _ _ => pg_name (i := 3) scSett.nd rfl (.inl rfl)) (fun _ _ _ _ _ => pts_one (pt_val (pe_df DS GS hr (pa_cons (pv 0) (pa_cons (pv 1) (pa_cons (pv 2) (pa_cons (pv 3) pa_nil)))))))
      (fun _ _ _ _ _ => pv 3)) pa_nil))), ?_⟩
    refine s_retD (ed_tupOf (EvN.toD (en_is (en_lcL (K := K) (as := subs st) (e1 := eS) (e2 := eS) (Tg := fun a => TgN K _ 3 (eS a)) (settled L1 L2 st) id (EvN.toD (en_call (ar_d (ed_var rfl h3) ar_nil) fun _ _ => ⟨st, rfl, asc_len4 n1 n4 ast, rfl⟩)) ?_ flat_S
      (fun a ha x H1 e1 hx Q q => tg_name hx (fun _ => rfl) Q q) (fun p hp σ2 H1 e1 hT => ?_) (fun p hp σ2 H1 H2 e1 hT e2 _ => ?_)) ?_))) q
    · have := subs_len n1 n4 ast
      omega
    · obtain ⟨x, rfl, hx⟩ := hT
      have hp' := ((mem_subs n1 n4 ast).mp hp).1
      exact et_B (EvD.bl (ed_call (ar_v (ev_var rfl) (ar_v (ev_var rfl) (ar_d (ed_var rfl (dp_mono e1 h3)) (ar_d (ed_var rfl hx) ar_nil)))) fun _ e => ⟨a, b, n, L1, L2, st, p, rfl, ca.mono (e1.trans e), cb.mono (e1.trans e), n1, n4, ast, hp', rfl⟩))
    · obtain ⟨x, rfl, hx⟩ := hT
      exact ed_var rfl (dp_mono e2 hx)
    · exact lcRes_id _ _
/-! trade_lives_fit -/
def rFit : Hp → List AS → PyData → Prop := fun _ as d => ∃ l : List Int, as = [.inr (eS l)] ∧ 1 ≤ l.length ∧ l.length ≤ 9 ∧ (∀ x ∈ l, 1 ≤ x ∧ x ≤ 99) ∧ d = .bool true
theorem ok_fit {f fW : Addr} {fd fdW : FuncData} {k : Nat} {t1 t2 : Tok} (F : Fun K "trade_lives_fit" "trade_lives_fit" sFit f fd) (DW : Df K mg "is_whole" sWhole ["thing"] fW fdW) (GW : FnOk P w K mg base CX0 k fW fdW ["thing"] (spA K rWhole)) (T' : Txt mg)
    (g1 : mg "TRADE_MOST_OFFERS" = some (.int 9 t1)) (g2 : mg "TRADE_MOST_LIFE" = some (.int 99 t2)) : FnOk P w K mg base CX0 (k + 1) f fd ["lives"] (spA K rFit) := by
  refine F.ok scFit (fun vs H Q E h => ?_) (fun cdv A outer s H vs Q E hr h => ?_)
  · obtain ⟨as, d, h, ⟨l, rfl, _⟩, _⟩ := h
    exact h.len
  · obtain ⟨as, d, h, ⟨l, rfl, l1, l9, hl, rfl⟩, q⟩ := h
    obtain ⟨v1, vs, rfl, h1, h⟩ := h.hd
    obtain rfl := h.nilv
    refine ⟨_, pss_cons (ps_if (PW.pt (pw_or (pt_not (pt_val (pe_callB call_isi (by rfl) T'.isi boot_isi (pa_cons (pv 0) (pa_cons (pe_bltn (by rfl) T'.tuple boot_tup' (v := .ty "tuple") rfl) pa_nil)))))
        (pw_or1 (pt_not (pt_chain op_le op_le pe_int (pe_callB call_len_seq (by rfl) T'.len PySem.boot_len (pa_cons (pv 0) pa_nil)) (pe_glob (by rfl) g1 (v := .int 9) ⟨_, rfl⟩)))))) (pss_one (ps_ret pe_bl)) pss_nil)
      (pss_cons (ps_for PassesOwn.never rfl (pi_tup (pv 0)) (pg_name (i := 1) scFit.nd rfl (.inl rfl))
        (pss_one (ps_if (PW.pt (pw_or (pt_not (pt_val (pe_df DW GW hr (pa_cons (pv 1) pa_nil)))) (pw_or1 (pt_not (pt_chain op_le op_le pe_int (pv 1) (pe_glob (by rfl) g2 (v := .int 99) ⟨_, rfl⟩)))))) (pss_one (ps_ret pe_bl)) pss_nil)))
      (pss_one (ps_ret pe_bl))), ?_⟩
    refine q_when (et_or (et_not (et_B (ev_isiT (K := K) (ed_var rfl h1) kit_tt))) fun _ => et_not (et_test (ev_chain ev_c (ev_lenT (ed_var rfl h1)) rv_I0 ev_c rv_I0))) (fun z => ?_) fun _ H1 e1 => ?_
    · rw [List.length_map, decide_eq_true (by omega : (1 : Int) ≤ (l.length : Int)), decide_eq_true (by omega : (l.length : Int) ≤ 9)] at z
      cases z
    refine q_forT (e1 := PyData.int) (as := l) (ed_var rfl (dp_mono e1 h1)) flat_int (fun H3 l σ H' => Ex H3 H' ∧ ∃ x, σ = [some v1, x]) (fun H3 _ => ⟨Ex.refl _, _, rfl⟩) (fun H3 l σ H' _ p => Tx.of p.1) (fun H3 u a r e3 hs x σ H' p hx => ?_) fun H3 σ H' e3 p => ?_
    · obtain ⟨e4, y, rfl⟩ := p
      obtain ⟨b1, b2⟩ := hl a (by rw [hs]; simp)
      refine s_when (et_or (et_not (et_B (EvD.bl (ed_call (ar_d (ed_var rfl hx) ar_nil) fun _ _ => ⟨a, rfl, rfl⟩)))) fun _ => et_not (et_test (ev_chain ev_c (EvD.int (ed_var rfl hx)) rv_I0 ev_c rv_I0))) (fun z => ?_) fun _ H5 e5 => ⟨e4.trans e5, some x, rfl⟩
      rw [decide_eq_true b1, decide_eq_true b2] at z
      cases z
    · exact s_retD (ed_bl ev_c) fun v H5 e5 hd => q v H5 (((e1.trans e3).trans p.1).trans e5) hd
/-! offers_of -/
def rOffs : Hp → List AS → PyData → Prop := fun _ as d => ∃ l : Dt, as = [.inr (eD l)] ∧ l.length ≤ 100 ∧ d = eS (offs l)
theorem ok_offs {f : Addr} {fd : FuncData} {k : Nat} (F : Fun K "offers_of" "offers_of" sOffs f fd) (T' : Txt mg) : FnOk P w K mg base CX0 (k + 1) f fd ["dated"] (spA K rOffs) := by
  refine F.ok scOffs (fun vs H Q E h => ?_) (fun cdv A outer s H vs Q E hr h => ?_)
  · obtain ⟨as, d, h, ⟨l, rfl, _⟩, _⟩ := h
    exact h.len
  · obtain ⟨as, d, h, ⟨l, rfl, l1, rfl⟩, q⟩ := h
    obtain ⟨v1, vs, rfl, h1, h⟩ := h.hd
    obtain rfl := h.nilv
    refine ⟨_, pss_one (ps_ret (pe_callTy call_tuple_of (by rfl) T'.tuple boot_tup' (pa_cons (pe_lc (own := [("pair", 1)]) (g := gName 1) (tt := tYes) (te := tOp (rIxT K) (tVar 1) (tC (.int 0))) rfl scOffs.nd (pi_tup (pv 0))
      (blkOk_by (N := ["dated", "pair"]) (sc := defScope sOffs) (by decide +kernel)) (fun _ _ _ _ _ => pg_name (i := 1) scOffs.nd rfl (.inl rfl)) (fun _ _ _ _ _ => pts_nil)
      (fun _ _ _ _ _ => pe_ix ix_tup (pv 1) pe_int (fun _ _ => rfl))) pa_nil))), ?_⟩
    refine s_retD (ed_tupOf (EvN.toD (en_is (en_lcT (K := K) (as := l) (e1 := eI) (e2 := PyData.int) (Tg := fun a => TgN K _ 1 (eI a)) (fun _ => true) (fun p => p.1) (ed_var rfl h1) (by omega) flat_int
      (fun a ha x H1 e1 hx Q q => tg_name hx (fun _ => rfl) Q q) (fun p hp σ2 H1 e1 hT => ev_yes) (fun p hp σ2 H1 H2 e1 hT e2 _ => ?_)) (lcRes_all _ _)))) q
    obtain ⟨x, rfl, hx⟩ := hT
    exact ed_ixT (i := 0) (ed_var rfl (dp_mono e2 hx)) ev_c rfl
/-! broken_by -/
def brokenP (p m : Pos) : List Int := p.2.filter fun o => decide (o ∈ offs m.1) && !decide (o ∈ m.2)
def rBrok : Hp → List AS → PyData → Prop := fun _ as d => ∃ p m : Pos, as = [.inr (eP p), .inr (eP m)] ∧ p.2.length ≤ 100 ∧ m.1.length ≤ 100 ∧ d = eS (brokenP p m)
theorem ok_brok {f fO : Addr} {fd fdO : FuncData} {k : Nat} (F : Fun K "broken_by" "broken_by" sBrok f fd) (DO : Df K mg "offers_of" sOffs ["dated"] fO fdO) (GO : FnOk P w K mg base CX0 k fO fdO ["dated"] (spA K rOffs)) (T' : Txt mg) : FnOk P w K mg base CX0 (k + 1) f fd ["position", "following"] (spA K rBrok) := by
  refine F.ok scBrok (fun vs H Q E h => ?_) (fun cdv A outer s H vs Q E hr h => ?_)
  · obtain ⟨as, d, h, ⟨l, m, rfl, _⟩, _⟩ := h
    exact h.len
  · obtain ⟨as, d, h, ⟨p, m, rfl, l1, l2, rfl⟩, q⟩ := h
    obtain ⟨v1, vs, rfl, h1, h⟩ := h.hd
    obtain ⟨v2, vs, rfl, h2, h⟩ := h.hd
    obtain rfl := h.nilv
    refine ⟨_, pss_cons (ps_set (i := 2) scBrok.nd rfl (.inr rfl) (pe_df DO GO hr (pa_cons (pe_ix ix_tup (pv 1) pe_int (fun _ _ => rfl)) pa_nil)))
      (pss_one (ps_ret (pe_callTy call_tuple_of (by rfl) T'.tuple boot_tup' (pa_cons (pe_lc (own := [("offer", 3)]) (g := gName 3) (tt := tAnd (tTest (tOp (rIn K false) (tVar 3) (tVar 2))) (tTest (tOp (rIn K true) (tVar 3) (tOp (rIxT K) (tVar 1) (tC (.int 1)))))) rfl scBrok.nd (pi_tup (pe_ix ix_tup (pv 0) pe_int (fun _ _ => rfl)))
      (blkOk_by (N := ["position", "following", "standing", "offer"]) (sc := defScope sBrok) (by decide +kernel)) (fun _ _ _ _ _ => pg_name (i := 3) scBrok.nd rfl (.inl rfl))
      (fun _ _ _ _ _ => pts_one (PW.pt (pw_and (pt_cmpR op_in_seq (pv 3) (pv 2) (by with_unfolding_all rfl)) (pw_and1 (pt_cmpR op_notIn_seq (pv 3) (pe_ix ix_tup (pv 1) pe_int (fun _ _ => rfl)) (by with_unfolding_all rfl))))))
      (fun _ _ _ _ _ => pv 3)) pa_nil)))), ?_⟩
    refine q_asgD (d := eS (offs m.1)) (ed_call (ar_d (d := eD m.1) (ed_ixT (i := 0) (ed_var rfl h2) ev_c rfl) ar_nil) fun _ _ => ⟨m.1, rfl, l2, rfl⟩) fun v H1 e1 hv => ?_
    refine s_retD (ed_tupOf (EvN.toD (en_is (en_lcT (K := K) (as := p.2) (e1 := PyData.int) (e2 := PyData.int) (Tg := fun a => TgN K _ 3 (.int a)) (fun o => decide (o ∈ offs m.1) && !decide (o ∈ m.2)) id (ed_ixT (i := 1) (ed_var rfl (dp_mono e1 h1)) ev_c rfl) (by omega) flat_int
      (fun a ha x H1 e1 hx Q q => tg_name hx (fun _ => rfl) Q q) (fun x hx σ2 H2 e2 hT => ?_) (fun x hp σ2 H2 H3 e2 hT e3 _ => ?_)) (lcRes_id _ _)))) fun v H2 e2 hd => q v H2 (e1.trans e2) hd
    · obtain ⟨y, rfl, hy⟩ := hT
      exact et_and (et_test (ev_inS (ed_var rfl hy) (ed_var rfl (dp_mono e2 hv)))) fun _ => et_test (ev_niS (ed_var rfl hy) (ed_ixT (i := 1) (ed_var rfl (dp_mono (e1.trans e2) h2)) ev_c rfl))
    · obtain ⟨y, rfl, hy⟩ := hT
      exact ed_var rfl (dp_mono e3 hy)
end
end K49
namespace K49
open PySem PySem.Spec PySem.W PyProof.Rows L2 Evl
/-! ## for i, x in enumerate(a tuple); pairs as targets; sorted -/
section
variable {K : PySem.W.Frag} {σ : L2.St} {H : Hp} {tl te : TE} {α : Type} {as : List α} {e1 en : α → PyData} {g : TG} {tu tz : TS} {D : Ends}
theorem for_enumT {a : Addr} {xs : List V} (Pv : Nat → L2.St → Hp → Prop) (h0 : Pv 0 σ H) (hl : ∀ i σ H, i ≤ xs.length → Pv i σ H → SqT K H a xs)
    (hs : ∀ i x σ H T, xs[i]? = some x → Pv i σ H → H T = none → g (.ref T) σ (upd H T (.tup [.int (i : Nat), x])) fun σ2 H2 => tu { D with nx := Pv (i + 1), ct := Pv (i + 1), bk := D.nx } σ2 H2) (hd : ∀ σ H, Pv xs.length σ H → D.nx σ H) :
    ∃ W : Nat → Nat → L2.St → Hp → Prop, (∃ m, W 0 m σ H) ∧ ∀ i m σ H, W i m σ H →
      ((IteT K a).stop i H ∧ D.nx σ H) ∨ ((IteT K a).go i H ∧ ∃ N : L2.St → Hp → Prop, (∀ σ' H', N σ' H' → ∃ m', m' < m ∧ W (i + 1) m' σ' H') ∧ ∀ x H', (IteT K a).yld i H x H' → g x σ H' fun σ2 H2 => tu { D with nx := N, ct := N, bk := D.nx } σ2 H2) := by
  refine ⟨fun i m σ H => m = xs.length - i ∧ i ≤ xs.length ∧ Pv i σ H, ⟨xs.length, by simp, Nat.zero_le _, h0⟩, ?_⟩
  rintro i m σ H ⟨rfl, hi, p⟩
  have q := hl i σ H hi p
  by_cases hlt : i < xs.length
  · refine .inr ⟨⟨xs, xs[i], q, by simp [hlt]⟩, Pv (i + 1), fun σ' H' p' => ⟨xs.length - (i + 1), by omega, rfl, hlt, p'⟩, fun x H' y => ?_⟩
    obtain ⟨T, z, rfl, hT, rfl, hz⟩ := y
    exact hs i z σ H T (hz xs q) p hT
  · obtain rfl : i = xs.length := by omega
    exact .inl ⟨⟨xs, q, Nat.le_refl _⟩, hd σ H p⟩
theorem s_forE (h : EvD K tl σ H (.tuple (as.map e1))) (fl : ∀ a, flatT (e1 a) = true) (Pv : Hp → List α → L2.St → Hp → Prop) (h0 : ∀ H1, Ex H H1 → Pv H1 [] σ H1) (hk : ∀ H1 l σ' H', Ex H H1 → Pv H1 l σ' H' → Tx H1 H')
    (hg : ∀ H1 l a r, Ex H H1 → as = l ++ a :: r → ∀ x σ' H' H2, Pv H1 l σ' H' → Ex H' H2 → Dp K H2 x (.tuple [.int (l.length : Int), e1 a]) → g x σ' H2 fun σ2 H2 => tu { D with nx := Pv H1 (l ++ [a]), ct := Pv H1 (l ++ [a]), bk := D.nx } σ2 H2) (hd : ∀ H1 σ' H', Ex H H1 → Pv H1 as σ' H' → D.nx σ' H') : tFor (iEnumT K (tCons tl tNil)) g tu D σ H :=
  h H (Ex.refl H) _ fun v H1 ev hv => by
    obtain ⟨a, xs, rfl, hs, hx⟩ := dp_tup hv
    have hlen : xs.length = as.length := by rw [dpAll_len hx, List.length_map]
    refine ⟨a, xs, rfl, hs, for_enumT (xs := xs) (fun i σ' H' => Pv H1 (as.take i) σ' H') (h0 H1 ev) (fun i σ' H' _ w => tx_t (hk H1 _ _ _ ev w) hs) (fun i x σ' H' T hi w hT => ?_) fun σ' H' w => ?_⟩
    · obtain ⟨d, hd', hxd⟩ := dpAll_at hx hi
      rw [List.getElem?_map] at hd'
      obtain ⟨b, hb, rfl⟩ := Option.map_eq_some_iff.mp hd'
      rw [take_snoc hb]
      have e2 : Ex H' (upd H' T (.tup [.int (i : Nat), x])) := Ex.new hT
      have hle : (as.take i).length = i := by
        rw [List.length_take]
        have := (List.getElem?_eq_some_iff.mp hb).1
        omega
      refine hg H1 _ b _ ev (split_at hb) (.ref T) σ' H' _ w e2 ?_
      rw [hle]
      exact .tup (st_of upd_same) (.cons (.int _) (.cons (dp_mono e2 (dp_tx (hk H1 _ _ _ ev w) (fl b) hxd)) .nil))
    · rw [hlen, List.take_length] at w
      exact hd H1 σ' H' ev w
theorem q_forE (h : EvD K tl σ H (.tuple (as.map e1))) (fl : ∀ a, flatT (e1 a) = true) (Pv : Hp → List α → L2.St → Hp → Prop) (h0 : ∀ H1, Ex H H1 → Pv H1 [] σ H1) (hk : ∀ H1 l σ' H', Ex H H1 → Pv H1 l σ' H' → Tx H1 H')
    (hg : ∀ H1 l a r, Ex H H1 → as = l ++ a :: r → ∀ x σ' H' H2, Pv H1 l σ' H' → Ex H' H2 → Dp K H2 x (.tuple [.int (l.length : Int), e1 a]) → g x σ' H2 fun σ2 H2 => tu { D with nx := Pv H1 (l ++ [a]), ct := Pv H1 (l ++ [a]), bk := tz D } σ2 H2) (hd : ∀ H1 σ' H', Ex H H1 → Pv H1 as σ' H' → tz D σ' H') : tSeq (tFor (iEnumT K (tCons tl tNil)) g tu) tz D σ H :=
  s_forE (D := { D with nx := tz D }) h fl Pv h0 hk hg hd
/-- a pair goes to two names -/
theorem g_pair {i j : Nat} {x : V} {d e : PyData} {Q : L2.St → Hp → Prop} (hx : Dp K H x (.tuple [d, e])) (q : ∀ x y, Dp K H x d → Dp K H y e → Q ((σ.set i (some x)).set j (some y)) H) : gTup K 2 (gCons (gName i) (gCons (gName j) gNil)) x σ H Q := by
  obtain ⟨a, xs, rfl, hs, hx⟩ := dp_tup hx
  cases hx with
  | cons h1 t1 =>
    cases t1 with
    | cons h2 t2 =>
      cases t2
      exact ⟨a, _, rfl, hs, rfl, _, _, rfl, _, _, rfl, rfl, q _ _ h1 h2⟩
theorem q_asgPair {i j : Nat} {d e : PyData} (h : EvD K te σ H (.tuple [d, e])) (k : ∀ x y H1, Ex H H1 → Dp K H1 x d → Dp K H1 y e → tz D ((σ.set i (some x)).set j (some y)) H1) : tSeq (tAsg te (gTup K 2 (gCons (gName i) (gCons (gName j) gNil)))) tz D σ H :=
  h H (Ex.refl H) _ fun v H1 ev hv => g_pair hv fun x y hx hy => k x y H1 ev hx hy
theorem EvD.strv {n : Str} (h : EvD K te σ H (.str n)) : Ev te σ H (.str n) := fun H1 a Q q => h H1 a Q fun v H2 e2 hd => by rw [dp_str hd]; exact q H2 e2
/-- sorted(a list, a tuple) -/
theorem en_sorted (h : EvD K te σ H (.list (as.map en))) (al : ∀ a b, alike (en a) (en b) = true) (hs : (∀ a, ∃ xs, en a = .tuple xs) ∨ ∀ a, en a ≠ .none ∧ ∀ xs, en a ≠ .tuple xs) (hd : ∀ a, (en a).depth ≤ 50) (hl : as.length ≤ 100000) :
    EvN K (tCB (rSortD K (cSeq K)) (tCons te tNil)) σ H ((as.mergeSort (dataLe false en)).map en) := fun H1 e Q q =>
  h H1 e _ fun x H2 e2 dx => by
    obtain ⟨p, xs, rfl, hp, hx⟩ := dp_lst dx
    refine ⟨_, rfl, p, xs, rfl, .inl hp, α, en, as, hx, ?_, ?_, fun a _ => hd a, hl, fun r zs hr hz => ?_⟩
    · intro d1 h1 d2 h2
      obtain ⟨a, _, rfl⟩ := List.mem_map.mp h1
      obtain ⟨b, _, rfl⟩ := List.mem_map.mp h2
      exact al a b
    · rcases hs with hs | hs
      · refine .inl fun d hd => ?_
        obtain ⟨a, _, rfl⟩ := List.mem_map.mp hd
        exact hs a
      · refine .inr fun d hd => ?_
        obtain ⟨a, _, rfl⟩ := List.mem_map.mp hd
        exact hs a
    · have e3 : Ex H2 (upd H2 r (.lst zs)) := Ex.new hr
      exact q r zs _ (fresh_back e2 hr) (e2.trans e3) upd_same (dpAll_mono e3 hz)
theorem en_sortedT (h : EvD K te σ H (.tuple (as.map en))) (al : ∀ a b, alike (en a) (en b) = true) (hs : (∀ a, ∃ xs, en a = .tuple xs) ∨ ∀ a, en a ≠ .none ∧ ∀ xs, en a ≠ .tuple xs) (hd : ∀ a, (en a).depth ≤ 50) (hl : as.length ≤ 100000) :
    EvN K (tCB (rSortD K (cSeq K)) (tCons te tNil)) σ H ((as.mergeSort (dataLe false en)).map en) := fun H1 e Q q =>
  h H1 e _ fun x H2 e2 dx => by
    obtain ⟨p, xs, rfl, hp, hx⟩ := dp_tup dx
    refine ⟨_, rfl, p, xs, rfl, .inr hp, α, en, as, hx, ?_, ?_, fun a _ => hd a, hl, fun r zs hr hz => ?_⟩
    · intro d1 h1 d2 h2
      obtain ⟨a, _, rfl⟩ := List.mem_map.mp h1
      obtain ⟨b, _, rfl⟩ := List.mem_map.mp h2
      exact al a b
    · rcases hs with hs | hs
      · refine .inl fun d hd => ?_
        obtain ⟨a, _, rfl⟩ := List.mem_map.mp hd
        exact hs a
      · refine .inr fun d hd => ?_
        obtain ⟨a, _, rfl⟩ := List.mem_map.mp hd
        exact hs a
    · have e3 : Ex H2 (upd H2 r (.lst zs)) := Ex.new hr
      exact q r zs _ (fresh_back e2 hr) (e2.trans e3) upd_same (dpAll_mono e3 hz)
end
def eDeed : Deed → PyData
  | .day => .tuple [.str "day"]
  | .come o => .tuple [.str "come", .int o]
  | .gone o => .tuple [.str "gone", .int o]
theorem flat_str (n : Str) : flatT (.str n) = true := by rw [flatT] <;> intro _ h <;> cases h
theorem flat_deed (d : Deed) : flatT (eDeed d) = true := by
  cases d <;> simp [eDeed, flatT, flatTs]
end K49
namespace K49
open PySem PySem.Spec PySem.W PyProof.Rows L2 Evl
theorem wi_last {lives : List Int} {n : Nat} {s l r : Dt} {a : Int × Int} (h : Wi lives n s) (e : s = l ++ a :: r) : (offs l).getLast?.getD (-1) < a.1 ∧ a.1 < (n : Int) ∧ 0 ≤ a.1 ∧ 1 ≤ a.2 ∧ a.2 ≤ lives.getD a.1.toNat 0 := by
  have ha := h.2 a (by rw [e]; simp)
  have h2 := asc_last h.asc (s := offs s) (l := offs l) (r := offs r) (a := a.1) (by rw [e]; unfold offs; rw [List.map_append, List.map_cons])
  exact ⟨h2.1, ha.2.1, ha.1, ha.2.2.1, ha.2.2.2⟩
theorem offs_snoc (l : Dt) (a : Int × Int) : (offs (l ++ [a])).getLast?.getD (-1) = a.1 := by
  unfold offs
  rw [List.map_append]
  simp
theorem atI_lives {lives : List Int} {o : Int} (h0 : 0 ≤ o) (h1 : o < (lives.length : Int)) : atI (lives.map PyData.int) o = some (.int (lives.getD o.toNat 0)) := by
  refine atI_nn h0 ?_
  rw [List.getElem?_map, List.getElem?_eq_getElem (by omega), List.getD_eq_getElem?_getD, List.getElem?_eq_getElem (by omega)]
  rfl
section
variable {P : Program} {w : World} {K : PySem.W.Frag} {mg : Str → Option Value} {base : Heap} {C T : Addr}
/-! is_dated_of -/
def rDated (K : PySem.W.Frag) (T : Addr) : Hp → List AS → PyData → Prop := fun H as d => ∃ (t : V) (lives loose : List Int) (s : Dt), as = [.inl t, .inr (eD s)] ∧ Trd K T lives loose H t ∧ Wi lives lives.length s ∧ d = .bool true
theorem ok_dated {f fW : Addr} {fd fdW : FuncData} {k : Nat} (F : Fun K "is_dated_of" "is_dated_of" sDated f fd) (DW : Df K mg "is_whole" sWhole ["thing"] fW fdW) (GW : FnOk P w K mg base CX0 k fW fdW ["thing"] (spA K rWhole)) (T' : Txt mg) (Z : Clz K C T) :
    FnOk P w K mg base CX0 (k + 1) f fd ["trade", "thing"] (spA K (rDated K T)) := by
  refine F.ok scDated (fun vs H Q E h => ?_) (fun cdv A outer s H vs Q E hr h => ?_)
  · obtain ⟨as, d, h, ⟨t, lives, loose, st, rfl, _⟩, _⟩ := h
    exact h.len
  · obtain ⟨as, d, h, ⟨t, lives, loose, st, rfl, ht, hw, rfl⟩, q⟩ := h
    obtain ⟨vs, rfl, _, h⟩ := h.hv
    obtain ⟨v2, vs, rfl, h2, h⟩ := h.hd
    obtain rfl := h.nilv
    refine ⟨_, pss_cons (ps_if (pt_not (pt_val (pe_callB call_isi (by rfl) T'.isi boot_isi (pa_cons (pv 1) (pa_cons (pe_bltn (by rfl) T'.tuple boot_tup' (v := .ty "tuple") rfl) pa_nil))))) (pss_one (ps_ret pe_bl)) pss_nil)
      (pss_cons (ps_set (i := 2) scDated.nd rfl (.inl rfl) (pe_un un_neg pe_int))
      (pss_cons (ps_for PassesOwn.never rfl (pi_tup (pv 1)) (pg_name (i := 3) scDated.nd rfl (.inl rfl))
        (pss_cons (ps_if (PW.pt (pw_or (pt_not (pt_val (pe_callB call_isi (by rfl) T'.isi boot_isi (pa_cons (pv 3) (pa_cons (pe_bltn (by rfl) T'.tuple boot_tup' (v := .ty "tuple") rfl) pa_nil)))))
          (pw_or1 (pt_cmpR op_ne (pe_callB call_len_seq (by rfl) T'.len PySem.boot_len (pa_cons (pv 3) pa_nil)) pe_int (nomark _))))) (pss_one (ps_ret pe_bl)) pss_nil)
        (pss_cons (ps_asg (pv 3) (pg_tup rfl (pgs_cons (pg_name (i := 4) scDated.nd rfl (.inl rfl)) (pgs_cons (pg_name (i := 5) scDated.nd rfl (.inl rfl)) pgs_nil))))
        (pss_cons (ps_if (PW.pt (pw_or (pt_not (pt_val (pe_df DW GW hr (pa_cons (pv 4) pa_nil)))) (pw_or1 (pt_not (pt_val (pe_df DW GW hr (pa_cons (pv 5) pa_nil))))))) (pss_one (ps_ret pe_bl)) pss_nil)
        (pss_cons (ps_if (PW.pt (pw_or (pt_not (pt_chain op_lt op_lt (pv 2) (pv 4) (pe_callB call_len_seq (by rfl) T'.len PySem.boot_len (pa_cons (pe_fld (pv 0) rfl) pa_nil))))
          (pw_or1 (pt_not (pt_chain op_le op_le pe_int (pv 5) (pe_ix ix_tup (pe_fld (pv 0) rfl) (pv 4) (fun _ _ => rfl))))))) (pss_one (ps_ret pe_bl)) pss_nil)
        (pss_one (ps_set (i := 2) scDated.nd rfl (.inl rfl) (pv 4))))))))
      (pss_one (ps_ret pe_bl)))), ?_⟩
    refine q_when (et_not (et_B (ev_isiT (K := K) (ed_var rfl h2) kit_tt))) (fun z => by cases z) fun _ H1 e1 => ?_
    refine q_asg (v := .int (-1)) (ev_un ev_c ru_neg) fun H2 e2 => ?_
    refine q_forT (e1 := eI) (as := st) (ed_var rfl (dp_mono (e1.trans e2) h2)) flat_I (fun H3 l σ H' => Ex H3 H' ∧ ∃ x y z, σ = [some t, some v2, some (.int ((offs l).getLast?.getD (-1))), x, y, z])
      (fun H3 _ => ⟨Ex.refl _, _, _, _, rfl⟩) (fun H3 l σ H' _ p => Tx.of p.1) (fun H3 l a r e3 hs x σ H' p hx => ?_) fun H3 σ H' e3 p => ?_
    · obtain ⟨e4, y3, y4, y5, rfl⟩ := p
      obtain ⟨b1, b2, b3, b4, b5⟩ := wi_last hw hs
      have eH := ((e1.trans e2).trans e3).trans e4
      refine q_when (et_or (et_not (et_B (ev_isiT (K := K) (ed_var rfl hx) kit_tt))) fun _ => et_test (ev_op (ev_lenT (K := K) (ed_var rfl hx)) ev_c (rv_ne rfl))) (fun z => ?_) fun _ H5 e5 => ?_
      · exact absurd z (by simp)
      refine q_asgPair (d := .int a.1) (e := .int a.2) (ed_var rfl (dp_mono e5 hx)) fun x1 x2 H6 e6 h61 h62 => ?_
      rw [dp_int h61, dp_int h62]
      refine q_when (et_or (et_not (et_B (EvD.bl (ed_call (ar_d (ed_var rfl (.int a.1)) ar_nil) fun _ _ => ⟨a.1, rfl, rfl⟩)))) fun _ => et_not (et_B (EvD.bl (ed_call (ar_d (ed_var rfl (.int a.2)) ar_nil) fun _ _ => ⟨a.2, rfl, rfl⟩)))) (fun z => by cases z) fun _ H7 e7 => ?_
      have eH7 := ((eH.trans e5).trans e6).trans e7
      refine q_when (et_or (et_not (et_test (ev_chain (ev_var rfl) (ev_var rfl) rv_I0 (ev_lenT (K := K) (ed_lives Z (ev_var rfl) (ht.mono eH7))) rv_I0)))
        fun _ => et_not (et_test (ev_chain ev_c (ev_var rfl) rv_I0 (EvD.int (ed_ixT (i := a.1) (ed_lives Z (ev_var rfl) (ht.mono eH7)) (ev_var rfl) (atI_lives b3 b2))) rv_I0))) (fun z => ?_) fun _ H8 e8 => ?_
      · rw [List.length_map, decide_eq_true b1, decide_eq_true b2, decide_eq_true b4, decide_eq_true b5] at z
        cases z
      · refine s_asg (ev_var rfl) fun H9 e9 => ⟨((((e4.trans e5).trans e6).trans e7).trans e8).trans e9, some x, some (.int a.1), some (.int a.2), ?_⟩
        rw [offs_snoc]
        rfl
    · exact s_retD (ed_bl ev_c) fun v H5 e5 hd => q v H5 ((((e1.trans e2).trans e3).trans p.1).trans e5) hd
/-! is_deed -/
def rDeed (K : PySem.W.Frag) (T : Addr) : Hp → List AS → PyData → Prop := fun H as d => ∃ (t : V) (lives loose : List Int) (dd : Deed), as = [.inl t, .inr (eDeed dd)] ∧ Trd K T lives loose H t ∧ DeedOk lives.length loose dd ∧ d = .bool true
theorem ok_deed {f fW : Addr} {fd fdW : FuncData} {k : Nat} (F : Fun K "is_deed" "is_deed" sDeed f fd) (DW : Df K mg "is_whole" sWhole ["thing"] fW fdW) (GW : FnOk P w K mg base CX0 k fW fdW ["thing"] (spA K rWhole)) (T' : Txt mg) (Z : Clz K C T) :
    FnOk P w K mg base CX0 (k + 1) f fd ["trade", "thing"] (spA K (rDeed K T)) := by
  refine F.ok scDeed (fun vs H Q E h => ?_) (fun cdv A outer s H vs Q E hr h => ?_)
  · obtain ⟨as, d, h, ⟨t, lives, loose, st, rfl, _⟩, _⟩ := h
    exact h.len
  · obtain ⟨as, d, h, ⟨t, lives, loose, dd, rfl, ht, hw, rfl⟩, q⟩ := h
    obtain ⟨vs, rfl, _, h⟩ := h.hv
    obtain ⟨v2, vs, rfl, h2, h⟩ := h.hd
    obtain rfl := h.nilv
    refine ⟨_, pss_cons (ps_if (PW.pt (pw_or (pt_not (pt_val (pe_callB call_isi (by rfl) T'.isi boot_isi (pa_cons (pv 1) (pa_cons (pe_bltn (by rfl) T'.tuple boot_tup' (v := .ty "tuple") rfl) pa_nil)))))
          (pw_or1 (pt_not (pt_chain op_le op_le pe_int (pe_callB call_len_seq (by rfl) T'.len PySem.boot_len (pa_cons (pv 1) pa_nil)) pe_int))))) (pss_one (ps_ret pe_bl)) pss_nil)
      (pss_cons (ps_if (pt_cmpR op_eq (pe_callB call_len_seq (by rfl) T'.len PySem.boot_len (pa_cons (pv 1) pa_nil)) pe_int (nomark _)) (pss_one (ps_ret (pe_cmpR op_eq (pe_ix ix_tup (pv 1) pe_int (fun _ _ => rfl)) pe_str (nomark _)))) pss_nil)
      (pss_cons (ps_asg (pv 1) (pg_tup rfl (pgs_cons (pg_name (i := 2) scDeed.nd rfl (.inl rfl)) (pgs_cons (pg_name (i := 3) scDeed.nd rfl (.inl rfl)) pgs_nil))))
      (pss_cons (ps_if (PW.pt (pw_or (pt_not (pt_val (pe_df DW GW hr (pa_cons (pv 3) pa_nil)))) (pw_or1 (pt_not (pt_chain op_le op_lt pe_int (pv 3) (pe_callB call_len_seq (by rfl) T'.len PySem.boot_len (pa_cons (pe_fld (pv 0) rfl) pa_nil))))))) (pss_one (ps_ret pe_bl)) pss_nil)
      (pss_one (ps_ret (pe_or (pe_cmpR op_eq (pv 2) pe_str (nomark _)) (pe_one (pe_and (pe_cmpR op_eq (pv 2) pe_str (nomark _)) (pe_one (pe_cmpR op_in_seq (pv 3) (pe_fld (pv 0) rfl) (by with_unfolding_all rfl))))))))))), ?_⟩
    have hcase : (dd = .day) ∨ ∃ (wd : Str) (o : Int), eDeed dd = .tuple [.str wd, .int o] ∧ 0 ≤ o ∧ o < (lives.length : Int) ∧ (decide (V.str wd = V.str "come") || (decide (V.str wd = V.str "gone") && decide (o ∈ loose))) = true := by
      cases dd with
      | day => exact .inl rfl
      | come o => exact .inr ⟨"come", o, rfl, hw.1, hw.2, by rw [decide_eq_true rfl]; rfl⟩
      | gone o => exact .inr ⟨"gone", o, rfl, hw.1.1, hw.1.2, by rw [decide_eq_true (rfl : V.str "gone" = V.str "gone"), decide_eq_true hw.2, Bool.and_self, Bool.or_true]⟩
    rcases hcase with rfl | ⟨wd, o, hdd, ho0, ho1, hok⟩
    · refine q_when (et_or (et_not (et_B (ev_isiT (K := K) (ed_var rfl h2) kit_tt))) fun _ => et_not (et_test (ev_chain ev_c (ev_lenT (K := K) (ed_var rfl h2)) rv_I0 ev_c rv_I0))) (fun z => by cases z) fun _ H1 e1 => ?_
      refine q_when (et_test (ev_op (ev_lenT (K := K) (ed_var rfl (dp_mono e1 h2))) ev_c (rv_eq rfl))) (fun _ H2 e2 => ?_) fun z => (by exact absurd z (by simp))
      refine s_retD (D := { nx := fun _ _ => _, rt := Q }) (d := .bool true) (ed_bl (ev_is (ev_op (EvD.strv (ed_ixT (i := 0) (ed_var rfl (dp_mono (e1.trans e2) h2)) ev_c rfl)) ev_c (rv_eq rfl)) (by rw [decide_eq_true rfl]))) fun v H3 e3 hd => q v H3 ((e1.trans e2).trans e3) hd
    · rw [hdd] at h2
      refine q_when (et_or (et_not (et_B (ev_isiT (K := K) (ed_var rfl h2) kit_tt))) fun _ => et_not (et_test (ev_chain ev_c (ev_lenT (K := K) (ed_var rfl h2)) rv_I0 ev_c rv_I0))) (fun z => by cases z) fun _ H1 e1 => ?_
      refine q_when (et_test (ev_op (ev_lenT (K := K) (ed_var rfl (dp_mono e1 h2))) ev_c (rv_eq rfl))) (fun z => (by exact absurd z (by simp))) fun _ H2 e2 => ?_
      refine q_asgPair (d := .str wd) (e := .int o) (ed_var rfl (dp_mono (e1.trans e2) h2)) fun x1 x2 H3 e3 h31 h32 => ?_
      rw [dp_str h31, dp_int h32]
      have eH := (e1.trans e2).trans e3
      refine q_when (et_or (et_not (et_B (EvD.bl (ed_call (ar_d (ed_var rfl (.int o)) ar_nil) fun _ _ => ⟨o, rfl, rfl⟩)))) fun _ => et_not (et_test (ev_chain ev_c (ev_var rfl) rv_I0 (ev_lenT (K := K) (ed_lives Z (ev_var rfl) (ht.mono eH))) rv_I0))) (fun z => ?_) fun _ H4 e4 => ?_
      · rw [List.length_map, decide_eq_true ho0, decide_eq_true ho1] at z
        cases z
      · refine s_retD (ed_bl (ev_is (ev_orV (ev_op (ev_var rfl) ev_c (rv_eq rfl)) fun _ => ev_andV (ev_op (ev_var rfl) ev_c (rv_eq rfl)) fun _ => ev_inS (K := K) (ed_var rfl (.int o)) (ed_loose Z (ev_var rfl) (ht.mono (eH.trans e4)))) (by rw [hok]))) fun v H5 e5 hd => q v H5 ((eH.trans e4).trans e5) hd
end
end K49
namespace K49
open PySem PySem.Spec PySem.W PyProof.Rows L2 Evl
theorem sne1 : ¬ (("come" : Str) = "day") := by decide +kernel
theorem sne2 : ¬ (("gone" : Str) = "day") := by decide +kernel
theorem sne3 : ¬ (("gone" : Str) = "come") := by decide +kernel
theorem dec_vint (a b : Int) : decide (V.int a = V.int b) = decide (a = b) := by
  by_cases e : a = b
  · rw [e, decide_eq_true rfl, decide_eq_true rfl]
  · rw [decide_eq_false e, decide_eq_false fun z => e (by injection z)]
section
variable {P : Program} {w : World} {K : PySem.W.Frag} {mg : Str → Option Value} {base : Heap} {C T : Addr}
/-! behind -/
def rBeh (K : PySem.W.Frag) (T : Addr) : Hp → List AS → PyData → Prop := fun H as d => ∃ (t : V) (lives loose : List Int) (s : Dt) (dd : Deed), as = [.inl t, .inr (eD s), .inr (eDeed dd)] ∧ Trd K T lives loose H t ∧ DeedOk lives.length loose dd ∧ s.length ≤ 100 ∧ d = eD (K49.behind leI lives s dd)
theorem ok_beh {f : Addr} {fd : FuncData} {k : Nat} (F : Fun K "behind" "behind" sBeh f fd) (T' : Txt mg) (Z : Clz K C T) : FnOk P w K mg base CX0 (k + 1) f fd ["trade", "dated", "deed"] (spA K (rBeh K T)) := by
  refine F.ok scBeh (fun vs H Q E h => ?_) (fun cdv A outer s H vs Q E hr h => ?_)
  · obtain ⟨as, d, h, ⟨t, lives, loose, st, dd, rfl, _⟩, _⟩ := h
    exact h.len
  · obtain ⟨as, d, h, ⟨t, lives, loose, st, dd, rfl, ht, hdd, hl, rfl⟩, q⟩ := h
    obtain ⟨vs, rfl, _, h⟩ := h.hv
    obtain ⟨v2, vs, rfl, h2, h⟩ := h.hd
    obtain ⟨v3, vs, rfl, h3, h⟩ := h.hd
    obtain rfl := h.nilv
    have hu := hu_64 hr
    refine ⟨_, pss_cons (ps_if (pt_cmpR op_eq (pe_ix ix_tup (pv 2) pe_int (fun _ _ => rfl)) pe_str (nomark _))
        (pss_one (ps_ret (pe_callTy call_tuple_of (by rfl) T'.tuple boot_tup' (pa_cons (pe_lc (own := [("offer", 4), ("days", 5)]) (g := gTup K 2 (gCons (gName 4) (gCons (gName 5) gNil))) rfl scBeh.nd (pi_tup (pv 1))
          (blkOk_by (N := ["trade", "dated", "deed", "rest", "offer", "days", "pair"]) (sc := defScope sBeh) (by decide +kernel)) (fun _ _ _ _ _ => pg_tup rfl (pgs_cons (pg_name (i := 4) scBeh.nd rfl (.inl rfl)) (pgs_cons (pg_name (i := 5) scBeh.nd rfl (.inl rfl)) pgs_nil)))
          (fun _ _ _ _ _ => pts_one (pt_cmpR op_gt (pv 5) pe_int (nomark _))) (fun _ _ _ _ _ => pe_tup (pa_cons (pv 4) (pa_cons (pe_op op_sub (pv 5) pe_int) pa_nil)))) pa_nil)))) pss_nil)
      (pss_cons (ps_setLc (i := 3) (own := [("pair", 6)]) (g := gName 6) (tt := tTest (tOp rNe (tOp (rIxT K) (tVar 6) (tC (.int 0))) (tOp (rIxT K) (tVar 2) (tC (.int 1))))) rfl scBeh.nd rfl rfl (sw_true rfl rfl rfl (by decide +kernel)) (pi_tup (pv 1))
          (blkOk_by (N := ["trade", "dated", "deed", "rest", "offer", "days", "pair"]) (sc := defScope sBeh) (by decide +kernel)) (fun _ _ _ _ _ => pg_name (i := 6) scBeh.nd rfl (.inl rfl))
          (fun _ _ _ _ _ => pts_one (pt_cmpR op_ne (pe_ix ix_tup (pv 6) pe_int (fun _ _ => rfl)) (pe_ix ix_tup (pv 2) pe_int (fun _ _ => rfl)) (nomark _))) (fun _ _ _ _ _ => pv 6))
      (pss_cons (ps_if (pt_cmpR op_eq (pe_ix ix_tup (pv 2) pe_int (fun _ _ => rfl)) pe_str (nomark _))
        (pss_one (ps_expr (pe_bm PySem.F.plainAttrs_list PySem.F.slot_list_append PySem.F.type_list_append mt_append (pv 3) (pa_cons (pe_tup (pa_cons (pe_ix ix_tup (pv 2) pe_int (fun _ _ => rfl)) (pa_cons (pe_ix ix_tup (pe_fld (pv 0) rfl) (pe_ix ix_tup (pv 2) pe_int (fun _ _ => rfl)) (fun _ _ => rfl)) pa_nil))) pa_nil)))) pss_nil)
      (pss_one (ps_ret (pe_callTy call_tuple_of (by rfl) T'.tuple boot_tup' (pa_cons (pe_callB (cr_sortD hu cl_seq) (by rfl) T'.sorted boot_sorted (pa_cons (pv 3) pa_nil)) pa_nil)))))), ?_⟩
    -- the rest of the body behind the first if, for a deed of a word and an offer
    rcases dd with _ | o | o
    · -- a day
      refine q_when (et_test (ev_op (EvD.strv (ed_ixT (i := 0) (ed_var rfl h3) ev_c rfl)) ev_c (rv_eq rfl))) (fun _ H1 e1 => ?_) fun z => (by exact absurd z (by simp [sne1, sne2, sne3]))
      refine s_retD (D := { nx := fun _ _ => _, rt := Q }) (ed_tupOf (EvN.toD (en_is (en_lcT (K := K) (as := st) (e1 := eI) (e2 := eI) (Tg := fun a => TgP K _ 4 5 (.int a.1) (.int a.2)) (fun p => decide (1 < p.2)) (fun p => (p.1, p.2 - 1)) (ed_var rfl (dp_mono e1 h2)) (by omega) flat_I
        (fun a ha x H2 e2 hx Q q => tg_pair hx (fun _ _ => rfl) Q q) (fun p hp σ2 H2 e2 hT => ?_) (fun p hp σ2 H2 H3 e2 hT e3 _ => ?_)) rfl))) fun v H2 e2 hd => q v H2 (e1.trans e2) hd
      · obtain ⟨x, y, rfl, hx, hy⟩ := hT
        exact et_test (ev_op (EvD.int (ed_var rfl hy)) ev_c rv_I0)
      · obtain ⟨x, y, rfl, hx, hy⟩ := hT
        exact ed_I (p := (p.1, p.2 - 1)) (ed_var rfl (dp_mono e3 hx)) (ed_int (ev_op (EvD.int (ed_var rfl (dp_mono e3 hy))) ev_c rv_I0))
    · -- come
      refine q_when (et_test (ev_op (EvD.strv (ed_ixT (i := 0) (ed_var rfl h3) ev_c rfl)) ev_c (rv_eq rfl))) (fun z => (by exact absurd z (by simp [sne1, sne2, sne3]))) fun _ H1 e1 => ?_
      refine q_asgN (ds := (drop1 st o).map eI) (en_is (en_lcT (K := K) (as := st) (e1 := eI) (e2 := eI) (Tg := fun a => TgN K _ 6 (eI a)) (fun p => !decide (p.1 = o)) id (ed_var rfl (dp_mono e1 h2)) (by omega) flat_I
        (fun a ha x H2 e2 hx Q q => tg_name hx (fun _ => rfl) Q q) (fun p hp σ2 H2 e2 hT => ?_) (fun p hp σ2 H2 H3 e2 hT e3 _ => ?_)) (lcRes_id _ _)) fun r xs H2 hr2 e2 hx hd => ?_
      · obtain ⟨x, rfl, hx⟩ := hT
        refine et_is (et_test (ev_op (EvD.int (ed_ixT (i := 0) (ed_var rfl hx) ev_c rfl)) (EvD.int (ed_ixT (i := 1) (ed_var rfl (dp_mono (e1.trans e2) h3)) ev_c rfl)) (rv_ne rfl))) ?_
        rw [dec_vint]
      · obtain ⟨x, rfl, hx⟩ := hT
        exact ed_var rfl (dp_mono e3 hx)
      have h33 := dp_mono (e1.trans e2) h3
      have hlen : (drop1 st o).length ≤ 100 := Nat.le_trans (List.length_filter_le _ _) hl
      refine q_when (et_test (ev_op (EvD.strv (ed_ixT (i := 0) (ed_var rfl h33) ev_c rfl)) ev_c (rv_eq rfl))) (fun _ H3 e3 => ?_) fun z => (by exact absurd z (by simp [sne1, sne2, sne3]))
      have e13 := (e1.trans e2).trans e3
      refine s_appD (D := { nx := _, rt := Q }) (d := eI (o, lives.getD o.toNat 0)) (e3 _ _ hx) (ev_var rfl) (ed_I (p := (o, lives.getD o.toNat 0)) (ed_ixT (i := 1) (ed_var rfl (dp_mono e3 h33)) ev_c rfl) (ed_ixT (i := o) (ed_lives Z (ev_var rfl) (ht.mono e13)) (EvD.int (ed_ixT (i := 1) (ed_var rfl (dp_mono e3 h33)) ev_c rfl)) (atI_lives hdd.1 hdd.2))) ?_ fun v H4 e4 hv => ?_
      · rw [dpAll_len hd, List.length_map]
        omega
      · have hz := e4 _ _ (e3 _ _ hx)
        obtain ⟨q1, q2⟩ := after_app hz (dpAll_mono (e3.trans e4) hd) hv (flatTs_map flat_I _) (flat_I _)
        refine s_retD (ed_tupOf (EvN.toD (en_sorted (as := drop1 st o ++ [(o, lives.getD o.toNat 0)]) (en := eI) (ed_var rfl (.lst (sq_of q1) (by rw [List.map_append]; exact q2))) alike_I (.inl fun a => ⟨_, rfl⟩) (fun a => Nat.le_trans (depth_I a) (by decide)) ?_))) fun v H5 e5 hd => q v H5 ((Ex.mut (e13.trans e4) ?_).trans e5) hd
        · rw [List.length_append]
          show (drop1 st o).length + 1 ≤ 100000
          omega
        · exact fresh_back e1 hr2
    · -- gone
      refine q_when (et_test (ev_op (EvD.strv (ed_ixT (i := 0) (ed_var rfl h3) ev_c rfl)) ev_c (rv_eq rfl))) (fun z => (by exact absurd z (by simp [sne1, sne2, sne3]))) fun _ H1 e1 => ?_
      refine q_asgN (ds := (drop1 st o).map eI) (en_is (en_lcT (K := K) (as := st) (e1 := eI) (e2 := eI) (Tg := fun a => TgN K _ 6 (eI a)) (fun p => !decide (p.1 = o)) id (ed_var rfl (dp_mono e1 h2)) (by omega) flat_I
        (fun a ha x H2 e2 hx Q q => tg_name hx (fun _ => rfl) Q q) (fun p hp σ2 H2 e2 hT => ?_) (fun p hp σ2 H2 H3 e2 hT e3 _ => ?_)) (lcRes_id _ _)) fun r xs H2 hr2 e2 hx hd => ?_
      · obtain ⟨x, rfl, hx⟩ := hT
        refine et_is (et_test (ev_op (EvD.int (ed_ixT (i := 0) (ed_var rfl hx) ev_c rfl)) (EvD.int (ed_ixT (i := 1) (ed_var rfl (dp_mono (e1.trans e2) h3)) ev_c rfl)) (rv_ne rfl))) ?_
        rw [dec_vint]
      · obtain ⟨x, rfl, hx⟩ := hT
        exact ed_var rfl (dp_mono e3 hx)
      have h33 := dp_mono (e1.trans e2) h3
      have hlen : (drop1 st o).length ≤ 100 := Nat.le_trans (List.length_filter_le _ _) hl
      refine q_when (et_test (ev_op (EvD.strv (ed_ixT (i := 0) (ed_var rfl h33) ev_c rfl)) ev_c (rv_eq rfl))) (fun z => (by exact absurd z (by simp [sne1, sne2, sne3]))) fun _ H3 e3 => ?_
      refine s_retD (ed_tupOf (EvN.toD (en_sorted (as := drop1 st o) (en := eI) (ed_var rfl (.lst (sq_of (e3 _ _ hx)) (dpAll_mono e3 hd))) alike_I (.inl fun a => ⟨_, rfl⟩) (fun a => Nat.le_trans (depth_I a) (by decide)) (by omega)))) fun v H5 e5 hd => q v H5 (((e1.trans e2).trans e3).trans e5) hd
end
end K49
namespace K49
open PySem PySem.Spec PySem.W PyProof.Rows L2 Evl
section
variable {K : PySem.W.Frag} {σ : L2.St} {H : Hp} {tl : TE} {α : Type} {as : List α} {e1 : α → PyData} {g : TG} {tu tz : TS} {D : Ends}
/-- over a tracked list that the loop leaves, of data without lists; other lists may change -/
theorem s_forP {p : Addr} {xs : List V} (h : Ev tl σ H (.ref p)) (hp : H p = some (.lst xs)) (hx : DpAll K H xs (as.map e1)) (fl : ∀ a, flatT (e1 a) = true) (Pv : Hp → List α → L2.St → Hp → Prop) (h0 : ∀ H1, Ex H H1 → Pv H1 [] σ H1)
    (hk : ∀ H1 l σ' H', Ex H H1 → Pv H1 l σ' H' → Tx H1 H' ∧ H' p = some (.lst xs))
    (hg : ∀ H1 l a r, Ex H H1 → as = l ++ a :: r → ∀ x σ' H', Pv H1 l σ' H' → Dp K H' x (e1 a) → g x σ' H' fun σ2 H2 => tu { D with nx := Pv H1 (l ++ [a]), ct := Pv H1 (l ++ [a]), bk := D.nx } σ2 H2)
    (hd : ∀ H1 σ' H', Ex H H1 → Pv H1 as σ' H' → D.nx σ' H') : tFor (iList K tl) g tu D σ H :=
  h H (Ex.refl H) _ fun H1 ev => by
    have hx1 := dpAll_mono ev hx
    have hlen : xs.length = as.length := by rw [dpAll_len hx, List.length_map]
    refine ⟨p, rfl, ⟨xs, sq_of (ev _ _ hp)⟩, for_list (xs := xs) (fun i σ' H' => Pv H1 (as.take i) σ' H') (h0 H1 ev) (fun i σ' H' _ w => sq_of (hk H1 _ _ _ ev w).2) (fun i x σ' H' hi w => ?_) fun σ' H' w => ?_⟩
    · obtain ⟨d, hd', hxd⟩ := dpAll_at hx1 hi
      rw [List.getElem?_map] at hd'
      obtain ⟨b, hb, rfl⟩ := Option.map_eq_some_iff.mp hd'
      rw [take_snoc hb]
      exact hg H1 _ b _ ev (split_at hb) x σ' H' w (dp_tx (hk H1 _ _ _ ev w).1 (fl b) hxd)
    · rw [hlen, List.take_length] at w
      exact hd H1 σ' H' ev w
theorem q_forP {p : Addr} {xs : List V} (h : Ev tl σ H (.ref p)) (hp : H p = some (.lst xs)) (hx : DpAll K H xs (as.map e1)) (fl : ∀ a, flatT (e1 a) = true) (Pv : Hp → List α → L2.St → Hp → Prop) (h0 : ∀ H1, Ex H H1 → Pv H1 [] σ H1)
    (hk : ∀ H1 l σ' H', Ex H H1 → Pv H1 l σ' H' → Tx H1 H' ∧ H' p = some (.lst xs))
    (hg : ∀ H1 l a r, Ex H H1 → as = l ++ a :: r → ∀ x σ' H', Pv H1 l σ' H' → Dp K H' x (e1 a) → g x σ' H' fun σ2 H2 => tu { D with nx := Pv H1 (l ++ [a]), ct := Pv H1 (l ++ [a]), bk := tz D } σ2 H2)
    (hd : ∀ H1 σ' H', Ex H H1 → Pv H1 as σ' H' → tz D σ' H') : tSeq (tFor (iList K tl) g tu) tz D σ H :=
  s_forP (D := { D with nx := tz D }) h hp hx fl Pv h0 hk hg hd
end
/-! plain facts -/
theorem datsP_len {lives : List Int} (h : ∀ x ∈ lives, x ≤ 3) : ∀ k, (datsP lives k).length ≤ 4 ^ k
  | 0 => Nat.le_refl _
  | k + 1 => by
    have ih := datsP_len h k
    have hk : (lives.getD k 0).toNat ≤ 3 := by
      rw [List.getD_eq_getElem?_getD]
      cases e : lives[k]? with
      | none => decide
      | some x =>
        have := h x (List.mem_of_getElem? e)
        show x.toNat ≤ 3
        omega
    have h2 : ∀ l : List Dt, (l.flatMap fun r => r :: (List.range (lives.getD k 0).toNat).map fun (i : Nat) => r ++ [((k : Int), 1 + (i : Int))]).length ≤ 4 * l.length := by
      intro l
      induction l with
      | nil => exact Nat.le_refl _
      | cons a l ih =>
        rw [List.flatMap_cons, List.length_append, List.length_cons, List.length_map, List.length_range, List.length_cons]
        omega
    have h3 := h2 (datsP lives k)
    show (List.flatMap _ (datsP lives k)).length ≤ 4 ^ (k + 1)
    rw [Nat.pow_succ]
    exact Nat.le_trans h3 (by omega)
theorem getD_at {lives l r : List Int} {a : Int} (e : lives = l ++ a :: r) : lives.getD l.length 0 = a := by
  rw [e, List.getD_eq_getElem?_getD, List.getElem?_append_right (Nat.le_refl _), Nat.sub_self]
  rfl
theorem dats_small {lives : List Int} {n : Nat} (h : ∀ x ∈ lives, x ≤ 3) (hn : n ≤ 4) : (datsP lives n).length ≤ 256 := by
  have h1 := datsP_len h n
  have h2 : 4 ^ n ≤ 4 ^ 4 := Nat.pow_le_pow_right (by decide) hn
  have h3 : (4 : Nat) ^ 4 = 256 := by decide
  omega
theorem datsP_wi {lives : List Int} {n : Nat} {d : Dt} (h : d ∈ datsP lives n) : d.length ≤ n := by
  have h1 := (mem_datsP lives n d).mp h
  have h2 := h1.asc
  have h3 : (offs d).length ≤ n := by
    have hn := asc_nodup h2.1
    have := nodup_len (l := offs d) (m := (List.range n).map fun (i : Nat) => (i : Int)) hn fun x hx => by
      have h4 := h2.2 x hx
      exact List.mem_map.mpr ⟨x.toNat, List.mem_range.mpr (by omega), by omega⟩
    rw [List.length_map, List.length_range] at this
    exact this
  unfold offs at h3
  rw [List.length_map] at h3
  exact h3
def rowX (k : Nat) (n : Nat) (r : Dt) : List Dt := r :: (List.range n).map fun (i : Nat) => r ++ [((k : Int), 1 + (i : Int))]
theorem rowX_len (k n : Nat) (l : List Dt) : (l.flatMap (rowX k n)).length = l.length * (n + 1) := by
  induction l with
  | nil => simp
  | cons a l ih =>
    rw [List.flatMap_cons, List.length_append, ih, List.length_cons]
    unfold rowX
    rw [List.length_cons, List.length_map, List.length_range, Nat.add_mul]
    omega
section
variable {P : Program} {w : World} {K : PySem.W.Frag} {mg : Str → Option Value} {base : Heap} {C T : Addr}
/-! all_dated -/
def rAllD (K : PySem.W.Frag) (T : Addr) : Hp → List AS → List PyData → Prop := fun H as ds => ∃ (t : V) (lives loose : List Int), as = [.inl t] ∧ Trd K T lives loose H t ∧ lives.length ≤ 4 ∧ (∀ x ∈ lives, 1 ≤ x ∧ x ≤ 3) ∧ ds = ((datsP lives lives.length).mergeSort leD).map eD
theorem ok_alld {f : Addr} {fd : FuncData} {k : Nat} (F : Fun K "all_dated" "all_dated" sAllD f fd) (T' : Txt mg) (Z : Clz K C T) : FnOk P w K mg base CX0 (k + 1) f fd ["trade"] (spN K (rAllD K T)) := by
  refine F.ok scAllD (fun vs H Q E h => ?_) (fun cdv A outer s H vs Q E hr h => ?_)
  · obtain ⟨as, d, h, ⟨t, lives, loose, rfl, _⟩, _⟩ := h
    exact h.len
  · obtain ⟨as, d, h, ⟨t, lives, loose, rfl, ht, hl4, hl3, rfl⟩, q⟩ := h
    obtain ⟨vs, rfl, _, h⟩ := h.hv
    obtain rfl := h.nilv
    have hu := hu_64 hr
    have hl3' : ∀ x ∈ lives, x ≤ 3 := fun x hx => (hl3 x hx).2
    refine ⟨_, pss_cons (ps_set (i := 1) scAllD.nd rfl (.inl rfl) (pe_lst (pa_cons (pe_tup pa_nil) pa_nil)))
      (pss_cons (ps_for PassesOwn.never rfl (pi_enumT (by rfl) T'.enum (pa_cons (pe_fld (pv 0) rfl) pa_nil)) (pg_tup rfl (pgs_cons (pg_name (i := 2) scAllD.nd rfl (.inl rfl)) (pgs_cons (pg_name (i := 3) scAllD.nd rfl (.inl rfl)) pgs_nil)))
        (pss_cons (ps_set (i := 4) scAllD.nd rfl (.inl rfl) (pe_lst pa_nil))
        (pss_cons (ps_for PassesOwn.never rfl (pi_list (pv 1)) (pg_name (i := 5) scAllD.nd rfl (.inl rfl))
          (pss_cons (ps_expr (pe_bm PySem.F.plainAttrs_list PySem.F.slot_list_append PySem.F.type_list_append mt_append (pv 4) (pa_cons (pv 5) pa_nil)))
          (pss_one (ps_for PassesOwn.never rfl (pi_range2 (by rfl) T'.range (pa_cons pe_int (pa_cons (pe_op op_add (pv 3) pe_int) pa_nil))) (pg_name (i := 6) scAllD.nd rfl (.inl rfl))
            (pss_one (ps_expr (pe_bm PySem.F.plainAttrs_list PySem.F.slot_list_append PySem.F.type_list_append mt_append (pv 4) (pa_cons (pe_op op_catA (pv 5) (pe_tup (pa_cons (pe_tup (pa_cons (pv 2) (pa_cons (pv 6) pa_nil))) pa_nil))) pa_nil))))))))
        (pss_one (ps_set (i := 1) scAllD.nd rfl (.inl rfl) (pv 4))))))
      (pss_one (ps_ret (pe_callB (cr_sortD hu cl_seq) (by rfl) T'.sorted boot_sorted (pa_cons (pv 1) pa_nil))))), ?_⟩
    refine q_asgN (K := K) (ds := [eS []]) (en_lst (eds_cons ed_nilT eds_nil) (by show 1 ≤ 100000; decide)) fun p0 xs0 H1 hp0 e1 hx0 hd0 => ?_
    refine q_forE (e1 := PyData.int) (as := lives) (ed_lives Z (ev_var rfl) (ht.mono e1)) flat_int (fun H3 l σ H' => Ex H H' ∧ Tx H3 H' ∧ ∃ pr xs x2 x3 x4 x5 x6, σ = [some t, some (.ref pr), x2, x3, x4, x5, x6] ∧ H pr = none ∧ H' pr = some (.lst xs) ∧ DpAll K H' xs ((datsP lives l.length).map eD))
      (fun H3 e3 => ⟨e1.trans e3, Tx.refl _, p0, xs0, _, _, _, _, _, rfl, hp0, e3 _ _ hx0, dpAll_mono e3 hd0⟩) (fun H3 l σ H' _ p => p.2.1) (fun H3 l a r e3 hsp y σ H' H4 pw e4 hy => ?_) fun H3 σ H' e3 pw => ?_
    · obtain ⟨e5, t5, pr, xs, x2, x3, x4, x5, x6, rfl, hpr, hxs, hds⟩ := pw
      refine g_pair hy fun z2 z3 hz2 hz3 => ?_
      rw [dp_int hz2, dp_int hz3]
      have ha := hl3 a (by rw [hsp]; simp)
      have hk4 : l.length < lives.length := by rw [hsp, List.length_append, List.length_cons]; omega
      have hga := getD_at hsp
      have hsm := dats_small hl3' (Nat.le_of_lt (Nat.lt_of_lt_of_le hk4 hl4))
      refine q_asgN (K := K) (ds := []) (en_lst eds_nil (Nat.zero_le _)) fun pm ys H5 hpm e6 hys hdy => ?_
      cases hdy
      have e05 : Ex H H5 := (e5.trans e4).trans e6
      have hpmH : H pm = none := fresh_back (e5.trans e4) hpm
      have hxs5 := e6 _ _ (e4 _ _ hxs)
      have hds5 := dpAll_mono (e4.trans e6) hds
      have hne : pr ≠ pm := ne_of_none (e4 _ _ hxs) hpm
      -- what the loop over rows holds
      refine q_forP (e1 := eD) (as := datsP lives l.length) (ev_var rfl) hxs5 hds5 flat_D
        (fun H6 rs σ H' => Ex H H' ∧ Tx H6 H' ∧ H' pr = some (.lst xs) ∧ ∃ ws y5 y6, σ = [some t, some (.ref pr), some (.int (l.length : Int)), some (.int a), some (.ref pm), y5, y6] ∧ H' pm = some (.lst ws) ∧ DpAll K H' ws ((rs.flatMap (rowX l.length a.toNat)).map eD))
        (fun H6 e7 => ⟨e05.trans e7, Tx.refl _, e7 _ _ hxs5, [], _, _, rfl, e7 _ _ hys, .nil⟩) (fun H6 rs σ H' _ p => ⟨p.2.1, p.2.2.1⟩) (fun H6 rs b rr e7 hsp2 z σ H' pw hz => ?_) fun H6 σ H' e7 pw => ?_
      · obtain ⟨e8, t8, hxs8, ws, y5, y6, rfl, hws, hdw⟩ := pw
        have hwl : ws.length + 10 < 100000 := by
          rw [dpAll_len hdw, List.length_map, rowX_len]
          have h1 := congrArg List.length hsp2
          rw [List.length_append, List.length_cons] at h1
          have h2 : rs.length ≤ 256 := by omega
          have h3 : a.toNat + 1 ≤ 4 := by omega
          have h4 := Nat.mul_le_mul h2 h3
          omega
        have hbl : b.length ≤ 4 := by
          have := datsP_wi (show b ∈ datsP lives l.length by rw [hsp2]; simp)
          omega
        refine q_appD (K := K) hws (ev_var rfl) (ed_var rfl hz) (by omega) fun v9 H9 e9 hv9 => ?_
        have hws9 := e9 _ _ hws
        obtain ⟨q1, q2⟩ := after_app hws9 (dpAll_mono e9 hdw) hv9 (flatTs_map flat_D _) (flat_D _)
        have t9 : Tx H9 (upd H9 pm (.lst (ws ++ [v9]))) := Tx.upd hws9 trivial
        have ex9 : Ex H (upd H9 pm (.lst (ws ++ [v9]))) := Ex.mut (e8.trans e9) hpmH
        refine s_forR2 (lo := 1) (n := a + 1) (ea_cons ev_c (ea_cons (ev_op (ev_var rfl) ev_c rv_I0) ea_nil)) ⟨by omega, by omega, by omega, by omega⟩
          (fun i σ H' => Ex H H' ∧ Tx H6 H' ∧ H' pr = some (.lst xs) ∧ Dp K H' z (eD b) ∧ ∃ us y6, σ = [some t, some (.ref pr), some (.int (l.length : Int)), some (.int a), some (.ref pm), some z, y6] ∧ us.length ≤ ws.length + 1 + i ∧ H' pm = some (.lst us) ∧ DpAll K H' us ((rs.flatMap (rowX l.length a.toNat) ++ (b :: (List.range i).map fun (i : Nat) => b ++ [((l.length : Int), 1 + (i : Int))])).map eD))
          (fun Ha ea => ⟨ex9.trans ea, ((t8.trans (Tx.of e9)).trans t9).trans (Tx.of ea), ea _ _ (by rw [upd_ne hne]; exact e9 _ _ hxs8), dp_mono ea (dp_tx t9 (flat_D _) (dp_mono e9 hz)), _, _, rfl, by rw [List.length_append]; show ws.length + 1 ≤ _; omega, ea _ _ q1, ?_⟩) (fun i σ H' hi pw => ?_) fun σ H' pw => ?_
        · rw [List.map_append]
          exact dpAll_mono ea q2
        · obtain ⟨f1, f2, f3, f4, us, y6', rfl, f5, f6, f7⟩ := pw
          refine s_appD (d := eD (b ++ [((l.length : Int), 1 + (i : Int))])) f6 (ev_var rfl) (ed_is (ed_catT (ds := b.map eI) (es := [eI ((l.length : Int), 1 + (i : Int))]) (ed_var rfl f4) (ed_tup (eds_cons (ed_I (p := ((l.length : Int), 1 + (i : Int))) (ed_int (ev_var rfl)) (ed_int (ev_var rfl))) eds_nil) (by show 1 ≤ 100000; decide)) ?_) ?_) ?_ fun vb Hb eb hvb => ?_
          · rw [List.length_map]
            show b.length + 1 ≤ 100000
            omega
          · unfold eD
            rw [List.map_append]
            rfl
          · have : i < 4 := by omega
            omega
          · have hub := eb _ _ f6
            obtain ⟨r1, r2⟩ := after_app hub (dpAll_mono eb f7) hvb (flatTs_map flat_D _) (flat_D _)
            have tb : Tx Hb (upd Hb pm (.lst (us ++ [vb]))) := Tx.upd hub trivial
            refine ⟨Ex.mut (f1.trans eb) hpmH, (f2.trans (Tx.of eb)).trans tb, by rw [upd_ne hne]; exact eb _ _ f3, dp_tx tb (flat_D _) (dp_mono eb f4), _, _, rfl, ?_, r1, ?_⟩
            · rw [List.length_append]
              show us.length + 1 ≤ _
              omega
            · have er : (b :: (List.range (i + 1)).map fun (i : Nat) => b ++ [((l.length : Int), 1 + (i : Int))]) = (b :: (List.range i).map fun (i : Nat) => b ++ [((l.length : Int), 1 + (i : Int))]) ++ [b ++ [((l.length : Int), 1 + (i : Int))]] := by
                rw [List.range_succ, List.map_append]
                rfl
              rw [er, ← List.append_assoc, List.map_append]
              exact r2
        · obtain ⟨f1, f2, f3, f4, us, y6', rfl, f5, f6, f7⟩ := pw
          refine ⟨f1, f2, f3, us, _, _, rfl, f6, ?_⟩
          rw [List.flatMap_append, List.flatMap_cons, List.flatMap_nil, List.append_nil]
          rw [show (a + 1 - 1 : Int).toNat = a.toNat by omega] at f7
          exact f7
      · obtain ⟨e8, t8, hxs8, ws, y5, y6, rfl, hws, hdw⟩ := pw
        refine s_asg (ev_var rfl) fun H9 e9 => ⟨e8.trans e9, ((((t5.trans (Tx.of e4)).trans (Tx.of e6)).trans (Tx.of e7)).trans t8).trans (Tx.of e9), pm, ws, _, _, _, _, _, rfl, hpmH, e9 _ _ hws, ?_⟩
        rw [List.length_append]
        show DpAll K H9 ws (((datsP lives l.length).flatMap fun r => r :: (List.range (lives.getD l.length 0).toNat).map fun (i : Nat) => r ++ [((l.length : Int), 1 + (i : Int))]).map eD)
        rw [hga]
        exact dpAll_mono e9 hdw
    · obtain ⟨e5, t5, pr, xs, x2, x3, x4, x5, x6, rfl, hpr, hxs, hds⟩ := pw
      have hsm := dats_small hl3' hl4
      refine s_retN (en_sorted (as := datsP lives lives.length) (en := eD) (ed_var rfl (.lst (sq_of hxs) hds)) alike_D (.inl fun a => ⟨_, rfl⟩) (fun a => Nat.le_trans (depth_D a) (by decide)) (by omega)) fun p zs H6 hp e6 h6 hz => q p zs H6 (fresh_back e5 hp) (e5.trans e6) h6 hz
end
end K49
namespace K49
open PySem PySem.Spec PySem.W PyProof.Rows L2 Evl
/-! ## how many offers an object is of -/
structure Ln (K : PySem.W.Frag) (C : Addr) (q : Str) (st : Stmt) (f : Addr) (fd : FuncData) : Prop where
  F : Fun K "__len__" q st f fd
  b : Binds K fd ["self"] []
  hs : PySem.W.findIn K (.ref C) "__len__" = some (some (.ref f))
  hf : PySem.W.isFn K (.ref f) = true
def rLC (K : PySem.W.Frag) (P : Program) (w : World) (C : Addr) : Hp → List AS → PyData → Prop := fun H as d => ∃ (v : V) (n : Nat) (L : List (List Int)), as = [.inl v] ∧ Chz K P w C n L H v ∧ d = .int n
def rLT (K : PySem.W.Frag) (T : Addr) : Hp → List AS → PyData → Prop := fun H as d => ∃ (v : V) (lives loose : List Int), as = [.inl v] ∧ Trd K T lives loose H v ∧ d = .int lives.length
def rLen2 (K : PySem.W.Frag) (P : Program) (w : World) (C T : Addr) : List V → Hp → VK → Prop := fun xs H Q => rLenI C (spA K (rLC K P w C)) xs H Q ∨ rLenI T (spA K (rLT K T)) xs H Q
theorem CallR.or' {X : Cx} {fn : Value} {r r' : List V → Hp → VK → Prop} (h : CallR X fn r) (h' : CallR X fn r') : CallR X fn (fun xs H Q => r xs H Q ∨ r' xs H Q) := fun pins s σ H xs us Q I rx q =>
  q.elim (h pins s σ H xs us Q I rx) (h' pins s σ H xs us Q I rx)
section
variable {P : Program} {w : World} {K : PySem.W.Frag} {mg : Str → Option Value} {base : Heap} {C T : Addr} {σ : L2.St} {H : Hp} {ta : TE} {v : V}
theorem ok_lenC {f : Addr} {fd : FuncData} {k : Nat} (F : Fun K "__len__" "Chooser.__len__" sCLen f fd) (T' : Txt mg) (Z : Clz K C T) : FnOk P w K mg base CX0 (k + 1) f fd ["self"] (spA K (rLC K P w C)) := by
  refine F.ok scCLen (fun vs H Q E h => ?_) (fun cdv A outer s H vs Q E hr h => ?_)
  · obtain ⟨as, d, h, ⟨v, n, L, rfl, _⟩, _⟩ := h
    exact h.len
  · obtain ⟨as, d, h, ⟨v, n, L, rfl, hc, rfl⟩, q⟩ := h
    obtain ⟨vs, rfl, _, h⟩ := h.hv
    obtain rfl := h.nilv
    refine ⟨_, pss_one (ps_ret (pe_callB call_len_seq (by rfl) T'.len PySem.boot_len (pa_cons (pe_fld (pv 0) rfl) pa_nil))), ?_⟩
    obtain ⟨a, dx, fs, t, pl, rfl, h2, h3, h4, h5, l, hl, h6⟩ := hc
    refine s_retD (ed_int (ev_is (ev_lenT (ed_of (ev_fld (ev_var rfl) h2 Z.cC Z.nPl h4) h6)) ?_)) q
    rw [List.length_map, hl]
theorem ok_lenT {f : Addr} {fd : FuncData} {k : Nat} (F : Fun K "__len__" "Trade.__len__" sTLen f fd) (T' : Txt mg) (Z : Clz K C T) : FnOk P w K mg base CX0 (k + 1) f fd ["self"] (spA K (rLT K T)) := by
  refine F.ok scTLen (fun vs H Q E h => ?_) (fun cdv A outer s H vs Q E hr h => ?_)
  · obtain ⟨as, d, h, ⟨v, n, L, rfl, _⟩, _⟩ := h
    exact h.len
  · obtain ⟨as, d, h, ⟨v, lives, loose, rfl, hc, rfl⟩, q⟩ := h
    obtain ⟨vs, rfl, _, h⟩ := h.hv
    obtain rfl := h.nilv
    refine ⟨_, pss_one (ps_ret (pe_callB call_len_seq (by rfl) T'.len PySem.boot_len (pa_cons (pe_fld (pv 0) rfl) pa_nil))), ?_⟩
    refine s_retD (ed_int (ev_is (ev_lenT (ed_lives Z (ev_var rfl) hc)) ?_)) q
    rw [List.length_map]
theorem ev_lenC {n : Nat} {L : List (List Int)} (ha : Ev ta σ H v) (h : Chz K P w C n L H v) (hn : n ≤ 1000) : Ev (tCB (rLen2 K P w C T) (tCons ta tNil)) σ H (.int n) := fun H1 e Q q =>
  ha H1 e _ fun H2 e2 => by
    have h2 := h.mono (e.trans e2)
    obtain ⟨a, dx, fs, t, pl, rfl, hh, _⟩ := id h2
    refine .inl ⟨a, dx, fs, rfl, hh, [.inl (.ref a)], .int n, ⟨rfl, trivial⟩, ⟨_, n, L, rfl, h2, rfl⟩, fun v' H3 e3 hd => ?_⟩
    exact ⟨n, dp_int hd, by omega, q H3 (e2.trans e3)⟩
theorem ev_lenTr {lives loose : List Int} (ha : Ev ta σ H v) (h : Trd K T lives loose H v) (hn : lives.length ≤ 1000) : Ev (tCB (rLen2 K P w C T) (tCons ta tNil)) σ H (.int lives.length) := fun H1 e Q q =>
  ha H1 e _ fun H2 e2 => by
    have h2 := h.mono (e.trans e2)
    obtain ⟨a, dx, fs, x, y, rfl, hh, _⟩ := id h2
    refine .inr ⟨a, dx, fs, rfl, hh, [.inl (.ref a)], .int lives.length, ⟨rfl, trivial⟩, ⟨_, lives, loose, rfl, h2, rfl⟩, fun v' H3 e3 hd => ?_⟩
    exact ⟨lives.length, dp_int hd, by omega, q H3 (e2.trans e3)⟩
/-- the rule for len of such an object -/
theorem cr_len2 {X : Cx} {fC fT : Addr} {fdC fdT : FuncData} {k : Nat} (DC : Ln X.K C "Chooser.__len__" sCLen fC fdC) (DT : Ln X.K T "Trade.__len__" sTLen fT fdT) (T' : Txt X.mg) (Z : Clz X.K C T) (hr : Room (k + 2) X.A) : CallR X (.builtin "len") (rLen2 X.K X.prog X.w C T) :=
  CallR.or' (cr_lenI (k := k + 1) (ok_lenC (k := k) DC.F T' Z) hr DC.hs DC.hf DC.b) (cr_lenI (k := k + 1) (ok_lenT (k := k) DT.F T' Z) hr DT.hs DT.hf DT.b)
/-- two choosers and a trade of n offers -/
structure Tri (K : PySem.W.Frag) (P : Program) (w : World) (C T : Addr) (n : Nat) (L1 L2 : List (List Int)) (lives loose : List Int) (H : Hp) (a b t : V) : Prop where
  ca : Chz K P w C n L1 H a
  cb : Chz K P w C n L2 H b
  ct : Trd K T lives loose H t
  n1 : 1 ≤ n
  n4 : n ≤ 4
  ln : lives.length = n
  li : ∀ x ∈ lives, 1 ≤ x ∧ x ≤ 3
theorem Tri.mono {n : Nat} {L1 L2 : List (List Int)} {lives loose : List Int} {H H' : Hp} {a b t : V} (e : Ex H H') (h : Tri K P w C T n L1 L2 lives loose H a b t) : Tri K P w C T n L1 L2 lives loose H' a b t := ⟨h.ca.mono e, h.cb.mono e, h.ct.mono e, h.n1, h.n4, h.ln, h.li⟩
theorem Tri.at_len {n : Nat} {L1 L2 : List (List Int)} {lives loose : List Int} {H : Hp} {a b t x : V} (h : Tri K P w C T n L1 L2 lives loose H a b t) {i : Nat} (hi : [a, b, t][i]? = some x) (ha : Ev ta σ H x) : Ev (tCB (rLen2 K P w C T) (tCons ta tNil)) σ H (.int n) := by
  match i, hi with
  | 0, hi =>
    cases hi
    exact ev_lenC ha h.ca (by have := h.n4; omega)
  | 1, hi =>
    cases hi
    exact ev_lenC ha h.cb (by have := h.n4; omega)
  | 2, hi =>
    cases hi
    exact ev_is (ev_lenTr ha h.ct (by have := h.n4; have := h.ln; omega)) (by rw [h.ln])
  | i + 3, hi => simp at hi
/-! same_offers -/
def spSame (K : PySem.W.Frag) (P : Program) (w : World) (C T : Addr) : Sp := fun vs H Q _ => ∃ (p : Addr) (a b t : V) (n : Nat) (L1 L2 : List (List Int)) (lives loose : List Int), vs = [.ref p] ∧ H p = some (.lst [a, b, t]) ∧ Tri K P w C T n L1 L2 lives loose H a b t ∧ ∀ H', Ex H H' → Q .non H'
theorem ok_same {f fC fT : Addr} {fd fdC fdT : FuncData} {k : Nat} (F : Fun K "same_offers" "same_offers" sSame f fd) (DC : Ln K C "Chooser.__len__" sCLen fC fdC) (DT : Ln K T "Trade.__len__" sTLen fT fdT) (T' : Txt mg) (Z : Clz K C T) :
    FnOk P w K mg base CX0 (k + 3) f fd ["things"] (spSame K P w C T) := by
  refine F.ok scSame (fun vs H Q E h => ?_) (fun cdv A outer s H vs Q E hr h => ?_)
  · obtain ⟨p, a, b, t, n, L1, L2, lives, loose, rfl, _⟩ := h
    rfl
  · obtain ⟨p, a, b, t, n, L1, L2, lives, loose, rfl, hp, tr, q⟩ := h
    refine ⟨_, pss_one (ps_for PassesOwn.never rfl (pi_list (pv 0)) (pg_name (i := 1) scSame.nd rfl (.inl rfl))
      (pss_one (ps_if (pt_cmpR op_ne (pe_callB (cr_len2 (k := k) DC DT T' Z hr) (by rfl) T'.len PySem.boot_len (pa_cons (pv 1) pa_nil)) (pe_callB (cr_len2 (k := k) DC DT T' Z hr) (by rfl) T'.len PySem.boot_len (pa_cons (pe_ix ix_list (pv 0) pe_int (fun _ _ => rfl)) pa_nil)) (nomark _)) pss_never pss_nil))), ?_⟩
    refine s_forL (a := p) (xs := [a, b, t]) (ev_var rfl) (sq_of hp) (fun i σ H' => Ex H H' ∧ ∃ x, σ = [some (.ref p), x]) (fun H1 e1 => ⟨e1, none, rfl⟩) (fun i σ H' _ pw => ex_l pw.1 (sq_of hp)) (fun i x σ H' hi pw => ?_) fun σ H' pw => q H' pw.1
    obtain ⟨e1, y, rfl⟩ := pw
    have tr1 := tr.mono e1
    refine s_when (et_test (ev_op (tr1.at_len hi (ev_var rfl)) (tr1.at_len (i := 0) rfl (ev_op (ev_var rfl) ev_c (rv_ixL (ex_l e1 (sq_of hp)) (v := a) rfl))) (rv_ne rfl))) (fun z => ?_) fun _ H2 e2 => ⟨e1.trans e2, some x, rfl⟩
    exact absurd z (by simp)
end
end K49
namespace K49
open PySem PySem.Spec PySem.W PyProof.Rows L2 Evl
/-- all but what stands at d is as it was -/
def Bt (d : Addr) (H H' : Hp) : Prop := ∀ a o, a ≠ d → H a = some o → H' a = some o
theorem Bt.ex {d : Addr} {G H H' : Hp} (e : Ex G H) (h : G d = none) (b : Bt d H H') : Ex G H' := fun a o ha => b a o (ne_of_none ha h) (e a o ha)
theorem Bt.of {d : Addr} {H H' : Hp} (e : Ex H H') : Bt d H H' := fun a o _ h => e a o h
theorem Bt.trans {d : Addr} {H H1 H2 : Hp} (a : Bt d H H1) (b : Bt d H1 H2) : Bt d H H2 := fun x o h q => b x o h (a x o h q)
theorem Bt.upd {d : Addr} {H : Hp} {o : HO} : Bt d H (upd H d o) := fun a u h q => by rw [upd_ne h]; exact q
theorem Bt.tx {d : Addr} {H H' : Hp} {u : HO} (b : Bt d H H') (h : H d = some u) (n : NoSeq u) : Sx H H' := fun a xs => by
  have h1 : ∀ y : HO, (∀ q, y ≠ u ∧ HO.frz q y ≠ u) → Rd H a y → Rd H' a y := fun y hy r => by
    have hne : a ≠ d := by
      rintro rfl
      rcases r with r | ⟨q, r⟩
      · rw [h] at r
        cases r
        exact (hy default).1 rfl
      · rw [h] at r
        cases r
        exact (hy q).2 rfl
    rcases r with r | ⟨q, r⟩
    · exact .inl (b a _ hne r)
    · exact .inr ⟨q, b a _ hne r⟩
  refine ⟨h1 _ fun q => ⟨fun e => ?_, fun e => ?_⟩, h1 _ fun q => ⟨fun e => ?_, fun e => ?_⟩⟩ <;> (subst e; exact n)
theorem Sx.tx {H H' : Hp} (s : Sx H H') : Tx H H' := fun a xs => (s a xs).1
theorem of_dec {p : Prop} {i : Decidable p} (h : @decide p i = true) : p := of_decide_eq_true h
theorem dec_iff {p : Prop} {i : Decidable p} : @decide p i = true ↔ p := decide_eq_true_iff
theorem q_dec {Q : VK} {H : Hp} {b c : Bool} (h : b = true ↔ c = true) (z : Q (.bl b) H) : Q (.bl c) H := by
  have : b = c := by cases b <;> cases c <;> simp_all
  rwa [← this]
/-- the settled sets as a list -/
def kl (L1 L2 : List (List Int)) (s : List Int) : PyData := .list ((kept leS L1 L2 s).map eS)
section
variable {P : Program} {w : World} {K : PySem.W.Frag} {mg : Str → Option Value} {base : Heap} {C T : Addr}
abbrev Tbl (K : PySem.W.Frag) (P : Program) (w : World) (L1 L2 : List (List Int)) (ok : V → Prop) (H : Hp) (d : Addr) (ks : List (List Int)) : Prop := TabD K P w nkS eS (kl L1 L2) ok H d ks
theorem TabD.obj {α : Type} {nk : α → NestedKey} {en g : α → PyData} {ok : V → Prop} {H : Hp} {d : Addr} {as : List α} (T : TabD K P w nk en g ok H d as) : ∃ u, H d = some u ∧ NoSeq u := by
  obtain ⟨o, m, _, h, _⟩ := T.ex
  exact ⟨_, h, trivial⟩
/-- a list of data without lists stays while another list changes -/
theorem dpL_upd {H : Hp} {pf : Addr} {xs ys : List V} {v : V} {ds : List PyData} (hp : H pf = some (.lst xs)) (hv : v ≠ .ref pf) (h : Dp K H v (.list ds)) (fl : flatTs ds = true) : Dp K (upd H pf (.lst ys)) v (.list ds) := by
  obtain ⟨a, zs, rfl, hs, hx⟩ := dp_lst h
  have hne : a ≠ pf := fun e => hv (by rw [e])
  refine .lst ?_ (dpAll_tx (Tx.upd hp trivial) fl hx)
  rcases hs with (hs | ⟨q, hs⟩) | hs
  · exact .inl (.inl (by rw [upd_ne hne]; exact hs))
  · exact .inl (.inr ⟨q, by rw [upd_ne hne]; exact hs⟩)
  · exact .inr hs
theorem tbl_upd {L1 L2 : List (List Int)} {H : Hp} {d pf : Addr} {ks : List (List Int)} {xs ys : List V} (t : Tbl K P w L1 L2 (fun v => v ≠ .ref pf) H d ks) (hp : H pf = some (.lst xs)) (hd : d ≠ pf) : Tbl K P w L1 L2 (fun v => v ≠ .ref pf) (upd H pf (.lst ys)) d ks := by
  obtain ⟨o, m, h1, h2, h3⟩ := t.ex
  exact ⟨o, m, h1, by rw [upd_ne hd]; exact h2, fun x hx => ⟨dp_tx (Tx.upd hp trivial) (flat_S _) (h3 x hx).1, dpL_upd hp (h3 x hx).2.2 (h3 x hx).2.1 (flatTs_map flat_S _), (h3 x hx).2.2⟩⟩
/-! positions_settled -/
def spPSet (K : PySem.W.Frag) (P : Program) (w : World) (C : Addr) : Sp := fun vs H Q _ => ∃ (G : Hp) (a b v : V) (kd : Addr) (n : Nat) (L1 L2 : List (List Int)) (st : List Int) (ks : List (List Int)) (ok : V → Prop), vs = [a, b, v, .ref kd] ∧ Ex G H ∧ G kd = none ∧ Chz K P w C n L1 G a ∧ Chz K P w C n L2 G b ∧ 1 ≤ n ∧ n ≤ 4 ∧ Asc n st ∧
  Dp K H v (eS st) ∧ Tbl K P w L1 L2 ok H kd ks ∧ ks.length < 900 ∧ (∀ q, H q = none → ok (.ref q)) ∧ ∀ r H' ks', Bt kd H H' → Tbl K P w L1 L2 ok H' kd ks' → ks'.length ≤ ks.length + 1 → Dp K H' r (kl L1 L2 st) → ok r → Q r H'
theorem ok_pset {f fS : Addr} {fd fdS : FuncData} {k : Nat} (F : Fun K "positions_settled" "positions_settled" sPSet f fd) (DS : Df K mg "settled_among" sSett ["near", "far", "standing"] fS fdS) (GS : FnOk P w K mg base CX0 k fS fdS ["near", "far", "standing"] (spA K (rSett K P w C))) (T' : Txt mg) :
    FnOk P w K mg base CX0 (k + 1) f fd ["near", "far", "some", "known"] (spPSet K P w C) := by
  refine F.ok scPSet (fun vs H Q E h => ?_) (fun cdv A outer s H vs Q E hr h => ?_)
  · obtain ⟨G, a, b, v, kd, n, L1, L2, st, ks, ok, rfl, _⟩ := h
    rfl
  · obtain ⟨G, a, b, v, kd, n, L1, L2, st, ks, ok, rfl, eG, gk, ca, cb, n1, n4, ast, hv, ht, hkl, hok, q⟩ := h
    have hu := hu_64 hr
    refine ⟨_, pss_cons (ps_if (pt_cmp (pc_nnotin hu (pv 2) (pv 3))) (pss_one (ps_nput hu (pv 3) (pv 2) (pe_callB (cr_sortD hu cl_seq) (by rfl) T'.sorted boot_sorted (pa_cons (pe_df DS GS hr (pa_cons (pv 0) (pa_cons (pv 1) (pa_cons (pv 2) pa_nil)))) pa_nil)) rfl)) pss_nil)
      (pss_one (ps_ret (pe_nget hu (pv 3) (pv 2) (fun _ _ => rfl)))), ?_⟩
    refine q_when (et_B (ev_tin (neg := true) keyS (ev_var rfl) (ed_var rfl hv) (tupS st) ht)) (fun hb H1 e1 => ?_) fun hb H1 e1 => ?_
    · have hno : st ∉ ks := by
        rw [if_pos rfl, Bool.not_eq_true', decide_eq_false_iff_not] at hb
        exact hb
      refine s_tputN (g := kl L1 L2) (a := st) (ds := (kept leS L1 L2 st).map eS) rfl keyS (en_sortedT (as := (subs st).filter (settled L1 L2 st)) (en := eS) (ed_call (ar_v (ev_var rfl) (ar_v (ev_var rfl) (ar_d (ed_var rfl (dp_mono e1 hv)) ar_nil))) fun _ e => ⟨a, b, n, L1, L2, st, rfl, ca.mono ((eG.trans e1).trans e), cb.mono ((eG.trans e1).trans e), n1, n4, ast, rfl⟩) alike_S (.inl fun a => ⟨_, rfl⟩) (fun a => Nat.le_trans (depth_S a) (by decide)) ?_)
        (ev_var rfl) (ed_var rfl (dp_mono e1 hv)) (tupS st) (ht.mono e1) hno (by omega) (fun p hp => hok p (fresh_back e1 hp)) fun H2 u o' e2 hu2 hn ht2 => ?_
      · have h1 := subs_len n1 n4 ast
        have h2 := List.length_filter_le (settled L1 L2 st) (subs st)
        omega
      · have b2 : Bt kd H (upd H2 kd o') := (Bt.of (e1.trans e2)).trans Bt.upd
        have sx : Sx H (upd H2 kd o') := (Sx.of (e1.trans e2)).trans (Sx.upd hu2 hn)
        refine tget_ok keyS (ev_var rfl) (ed_var rfl (dp_sx sx hv)) (tupS st) ht2 (by simp) fun r H3 e3 hr3 hok3 => q r H3 _ (b2.trans (Bt.of e3)) (ht2.mono e3) (by rw [List.length_append]; exact Nat.le_refl _) hr3 hok3
    · have hin : st ∈ ks := by
        rw [if_pos rfl, Bool.not_eq_false'] at hb
        exact of_dec hb
      refine tget_ok keyS (ev_var rfl) (ed_var rfl (dp_mono e1 hv)) (tupS st) (ht.mono e1) hin fun r H3 e3 hr3 hok3 => q r H3 _ (Bt.of (e1.trans e3)) (ht.mono (e1.trans e3)) (by omega) hr3 hok3
/-! positions_is_one -/
def keptOf (L1 L2 : List (List Int)) (d : Dt) : List (List Int) := kept leS L1 L2 (offs d)
def spOne (K : PySem.W.Frag) (P : Program) (w : World) (C T : Addr) : Sp := fun vs H Q _ => ∃ (G : Hp) (a b t v : V) (kd : Addr) (n : Nat) (L1 L2 : List (List Int)) (lives loose : List Int) (p : Pos) (ks : List (List Int)) (ok : V → Prop), vs = [a, b, t, v, .ref kd] ∧ Ex G H ∧ G kd = none ∧ Tri K P w C T n L1 L2 lives loose G a b t ∧
  Wi lives n p.1 ∧ Asc n p.2 ∧ Dp K H v (eP p) ∧ Tbl K P w L1 L2 ok H kd ks ∧ ks.length < 900 ∧ (∀ q, H q = none → ok (.ref q)) ∧ ∀ H' ks', Bt kd H H' → Tbl K P w L1 L2 ok H' kd ks' → ks'.length ≤ ks.length + 1 → Q (.bl (decide (p.2 ∈ keptOf L1 L2 p.1))) H'
theorem ok_one {f fD fI fC fT fP fO : Addr} {fd fdD fdI fdC fdT fdP fdO : FuncData} {k : Nat} (F : Fun K "positions_is_one" "positions_is_one" sPOne f fd) (DD : Df K mg "is_dated_of" sDated ["trade", "thing"] fD fdD) (GD : FnOk P w K mg base CX0 (k + 2) fD fdD ["trade", "thing"] (spA K (rDated K T)))
    (DI : Df K mg "is_set" sIsSet ["offers", "thing"] fI fdI) (GI : FnOk P w K mg base CX0 (k + 2) fI fdI ["offers", "thing"] (spA K rIsSet)) (DC : Ln K C "Chooser.__len__" sCLen fC fdC) (DT : Ln K T "Trade.__len__" sTLen fT fdT)
    (DP : Df K mg "positions_settled" sPSet ["near", "far", "some", "known"] fP fdP) (GP : FnOk P w K mg base CX0 (k + 2) fP fdP ["near", "far", "some", "known"] (spPSet K P w C)) (DO : Df K mg "offers_of" sOffs ["dated"] fO fdO) (GO : FnOk P w K mg base CX0 (k + 2) fO fdO ["dated"] (spA K rOffs))
    (T' : Txt mg) (Z : Clz K C T) : FnOk P w K mg base CX0 (k + 3) f fd ["near", "far", "trade", "thing", "known"] (spOne K P w C T) := by
  refine F.ok scPOne (fun vs H Q E h => ?_) (fun cdv A outer s H vs Q E hr h => ?_)
  · obtain ⟨G, a, b, t, v, kd, n, L1, L2, lives, loose, p, ks, ok, rfl, _⟩ := h
    rfl
  · obtain ⟨G, a, b, t, v, kd, n, L1, L2, lives, loose, p, ks, ok, rfl, eG, gk, tr, hw, ha, hv, ht, hkl, hok, q⟩ := h
    refine ⟨_, pss_cons (ps_if (PW.pt (pw_or (pt_not (pt_val (pe_callB call_isi (by rfl) T'.isi boot_isi (pa_cons (pv 3) (pa_cons (pe_bltn (by rfl) T'.tuple boot_tup' (v := .ty "tuple") rfl) pa_nil)))))
          (pw_or1 (pt_cmpR op_ne (pe_callB call_len_seq (by rfl) T'.len PySem.boot_len (pa_cons (pv 3) pa_nil)) pe_int (nomark _))))) (pss_one (ps_ret pe_bl)) pss_nil)
      (pss_cons (ps_asg (pv 3) (pg_tup rfl (pgs_cons (pg_name (i := 5) scPOne.nd rfl (.inl rfl)) (pgs_cons (pg_name (i := 6) scPOne.nd rfl (.inl rfl)) pgs_nil))))
      (pss_cons (ps_if (PW.pt (pw_or (pt_not (pt_val (pe_df DD GD hr (pa_cons (pv 2) (pa_cons (pv 5) pa_nil))))) (pw_or1 (pt_not (pt_val (pe_df DI GI hr (pa_cons (pe_callB (cr_len2 (k := k) DC DT T' Z hr) (by rfl) T'.len PySem.boot_len (pa_cons (pv 2) pa_nil)) (pa_cons (pv 6) pa_nil)))))))) (pss_one (ps_ret pe_bl)) pss_nil)
      (pss_one (ps_ret (pe_cmpR (op_inD (hu_65 hr)) (pv 6) (pe_df DP GP hr (pa_cons (pv 0) (pa_cons (pv 1) (pa_cons (pe_df DO GO hr (pa_cons (pv 5) pa_nil)) (pa_cons (pv 4) pa_nil))))) (by with_unfolding_all rfl)))))), ?_⟩
    refine q_when (et_or (et_not (et_B (ev_isiT (K := K) (ed_var rfl hv) kit_tt))) fun _ => et_test (ev_op (ev_lenT (K := K) (ed_var rfl hv)) ev_c (rv_ne rfl))) (fun z => (by exact absurd z (by simp))) fun _ H1 e1 => ?_
    refine q_asgPair (d := eD p.1) (e := eS p.2) (ed_var rfl (dp_mono e1 hv)) fun x5 x6 H2 e2 h5 h6 => ?_
    have eG2 := (eG.trans e1).trans e2
    have tr2 := tr.mono eG2
    have hwl : Wi lives lives.length p.1 := by rw [tr.ln]; exact hw
    refine q_when (et_or (et_not (et_B (EvD.bl (ed_call (ar_v (ev_var rfl) (ar_d (ed_var rfl h5) ar_nil)) fun _ e => ⟨t, lives, loose, p.1, rfl, tr2.ct.mono e, hwl, rfl⟩)))) fun _ => et_not (et_B (EvD.bl (ed_call (ar_d (ed_int (tr2.at_len (i := 2) (C := C) rfl (ev_var rfl))) (ar_d (ed_var rfl h6) ar_nil)) fun _ e => ⟨n, p.2, rfl, ha, rfl⟩)))) (fun z => by cases z) fun _ H3 e3 => ?_
    have hpl : p.1.length ≤ 100 := by
      have h1 := datsP_wi ((mem_datsP lives n p.1).mpr hw)
      have := tr.n4
      omega
    refine ⟨x6, rfl, ?_⟩
    refine (ar_v (ev_var rfl) (ar_v (ev_var rfl) (ar_d (d := eS (offs p.1)) (ed_call (ar_d (ed_var rfl (dp_mono e3 h5)) ar_nil) fun _ e => ⟨p.1, rfl, hpl, rfl⟩) (ar_v (ev_var rfl) ar_nil)))) H3 (Ex.refl _) _ fun us H4 e4 hu4 => ?_
    obtain ⟨us, rfl, _, hu4⟩ := hu4.hv
    obtain ⟨us, rfl, _, hu4⟩ := hu4.hv
    obtain ⟨v7, us, rfl, h7, hu4⟩ := hu4.hd
    obtain ⟨us, rfl, _, hu4⟩ := hu4.hv
    obtain rfl := hu4.nilv
    have e04 := ((e1.trans e2).trans e3).trans e4
    have eG4 := eG.trans e04
    refine ⟨G, a, b, v7, kd, n, L1, L2, offs p.1, ks, ok, rfl, eG4, gk, tr.ca, tr.cb, tr.n1, tr.n4, hw.asc, h7, ht.mono e04, hkl, fun y hy => hok y (fresh_back e04 hy), fun r H' ks' hb ht' hl' hr' _ => ?_⟩
    obtain ⟨u, hu1, hu2⟩ := (ht.mono e04).obj
    refine ⟨eS p.2, _, dp_sx (hb.tx hu1 hu2) (dp_mono (e3.trans e4) h6), hr', shaped_S _, shaped_list lay_S depth_S (by decide) _, ?_⟩
    rw [any_eqv eqv_S]
    have z := q H' ks' ((Bt.of e04).trans hb) ht' hl'
    exact q_dec (by rw [dec_iff, dec_iff]; exact Iff.rfl) z
end
end K49
namespace K49
open PySem PySem.Spec PySem.W PyProof.Rows L2 Evl
section
variable {K : PySem.W.Frag} {σ : L2.St} {H : Hp} {α : Type} {as : List α} {e1 : α → PyData} {g : TG} {tu : TS} {D : Ends} {v : V}
/-- over a list that a value is, of data without lists; other lists may change -/
theorem s_forX (hv : Dp K H v (.list (as.map e1))) (fl : ∀ a, flatT (e1 a) = true) (Pv : List α → L2.St → Hp → Prop) (h0 : Pv [] σ H) (hk : ∀ l σ' H', Pv l σ' H' → Tx H H' ∧ ∀ a xs, v = .ref a → SqL K H a xs → SqL K H' a xs)
    (hg : ∀ l a r, as = l ++ a :: r → ∀ x σ' H', Pv l σ' H' → Dp K H' x (e1 a) → g x σ' H' fun σ2 H2 => tu { D with nx := Pv (l ++ [a]), ct := Pv (l ++ [a]), bk := D.nx } σ2 H2)
    (hd : ∀ σ' H', Pv as σ' H' → D.nx σ' H') : tFor (iList K (tC v)) g tu D σ H := by
  obtain ⟨p, xs, rfl, hs, hx⟩ := dp_lst hv
  have hlen : xs.length = as.length := by rw [dpAll_len hx, List.length_map]
  refine ⟨p, rfl, ⟨xs, hs⟩, for_list (xs := xs) (fun i σ' H' => Pv (as.take i) σ' H') h0 (fun i σ' H' _ w => (hk _ _ _ w).2 p xs rfl hs) (fun i x σ' H' hi w => ?_) fun σ' H' w => ?_⟩
  · obtain ⟨d, hd', hxd⟩ := dpAll_at hx hi
    rw [List.getElem?_map] at hd'
    obtain ⟨b, hb, rfl⟩ := Option.map_eq_some_iff.mp hd'
    rw [take_snoc hb]
    exact hg _ b _ (split_at hb) x σ' H' w (dp_tx (hk _ _ _ w).1 (fl b) hxd)
  · rw [hlen, List.take_length] at w
    exact hd σ' H' w
theorem q_parLD {K : PySem.W.Frag} {P : Program} {w : World} {i j : Nat} {tz : TS} {ta : TE} (ha : EvN K ta σ H []) (k : ∀ pf kd o H1, H pf = none → Ex H H1 → H1 pf = some (.lst []) → H1 kd = none → tz D ((σ.set i (some (.ref pf))).set j (some (.ref kd))) (upd H1 kd (DictN P w kd o []))) :
    tSeq (tPar i j (tCons ta (tCons (tDNewN P w) tNil))) tz D σ H := ha H (Ex.refl H) _ fun pf xs0 H1 hpf e1 hx0 hd0 => by
  cases hd0
  intro kd o hkd
  exact ⟨_, _, rfl, k pf kd o H1 hpf e1 hx0 hkd⟩
/-- a loop over what a call gives -/
theorem s_forCall {sp : Sp} {E : XK} {ta : TA} {bs : List AS} (ha : EvAr K ta σ H bs) (k : ∀ us H4, Ex H H4 → ArOk K H4 us bs → sp (us ++ []) H4 (fun r H5 => tFor (iList K (tC r)) g tu D σ H5) E) : tFor (iList K (tCall sp [] E ta)) g tu D σ H :=
  ha H (Ex.refl H) _ fun us H4 e h => k us H4 e h
def rNotN : R2 := fun x y H Q => y = .non ∧ Q (.bl (!decide (x = .non))) H
theorem rv_notI {n : Int} : RV rNotN (.int n) .non H (.bl true) := fun H1 _ Q q => ⟨rfl, by
  rw [decide_eq_false (by simp)]
  exact q H1 (Ex.refl H1)⟩
theorem sql_upd {a pf : Addr} {xs ys : List V} {o : HO} (h : SqL K H a xs) (hne : a ≠ pf) : SqL K (upd H pf o) a xs := by
  rcases h with (h | ⟨q, h⟩) | h
  · exact .inl (.inl (by rw [upd_ne hne]; exact h))
  · exact .inl (.inr ⟨q, by rw [upd_ne hne]; exact h⟩)
  · exact .inr h
end
theorem pairs_app (f : Dt → List (List Int)) (l m : List Dt) : pairs f (l ++ m) = pairs f l ++ pairs f m := by
  unfold pairs
  rw [List.flatMap_append]
theorem pairs_cons (f : Dt → List (List Int)) (d : Dt) (m : List Dt) : pairs f (d :: m) = (f d).map (fun k => (d, k)) ++ pairs f m := by
  unfold pairs
  rw [List.flatMap_cons]
section
variable {P : Program} {w : World} {K : PySem.W.Frag} {mg : Str → Option Value} {base : Heap} {C T : Addr}
/-- all dated sets, sorted -/
def datS (lives : List Int) (n : Nat) : List Dt := (datsP lives n).mergeSort leD
/-! positions_listed -/
def rList (K : PySem.W.Frag) (P : Program) (w : World) (C T : Addr) : Hp → List AS → List PyData → Prop := fun H as ds => ∃ (a b t : V) (n : Nat) (L1 L2 : List (List Int)) (lives loose : List Int) (m : Int), as = [.inl a, .inl b, .inl t, .inr (.int m)] ∧ Tri K P w C T n L1 L2 lives loose H a b t ∧
  ((pairs (keptOf L1 L2) (datS lives n)).length : Int) ≤ m ∧ m ≤ 90000 ∧ ds = (pairs (keptOf L1 L2) (datS lives n)).map eP
theorem ok_list {f fD fP fO : Addr} {fd fdD fdP fdO : FuncData} {k : Nat} (F : Fun K "positions_listed" "positions_listed" sPList f fd) (DD : Df K mg "all_dated" sAllD ["trade"] fD fdD) (GD : FnOk P w K mg base CX0 k fD fdD ["trade"] (spN K (rAllD K T)))
    (DP : Df K mg "positions_settled" sPSet ["near", "far", "some", "known"] fP fdP) (GP : FnOk P w K mg base CX0 k fP fdP ["near", "far", "some", "known"] (spPSet K P w C)) (DO : Df K mg "offers_of" sOffs ["dated"] fO fdO) (GO : FnOk P w K mg base CX0 k fO fdO ["dated"] (spA K rOffs))
    (T' : Txt mg) : FnOk P w K mg base CX0 (k + 1) f fd ["near", "far", "trade", "most"] (spN K (rList K P w C T)) := by
  refine F.ok scPList (fun vs H Q E h => ?_) (fun cdv A outer s H vs Q E hr h => ?_)
  · obtain ⟨as, ds, h, ⟨a, b, t, n, L1, L2, lives, loose, m, rfl, _⟩, _⟩ := h
    exact h.len
  · obtain ⟨as, ds, h, ⟨a, b, t, n, L1, L2, lives, loose, m, rfl, tr, hm, hm2, rfl⟩, q⟩ := h
    obtain ⟨vs, rfl, _, h⟩ := h.hv
    obtain ⟨vs, rfl, _, h⟩ := h.hv
    obtain ⟨vs, rfl, _, h⟩ := h.hv
    obtain ⟨v4, vs, rfl, h4, h⟩ := h.hd
    obtain rfl := h.nilv
    obtain rfl := dp_int h4
    refine ⟨_, pss_cons (ps_par (i := 4) (j := 5) rfl scPList.nd rfl rfl (by decide) rfl rfl (pa_cons (pe_lst pa_nil) (pa_cons pe_dnewN pa_nil)) (by rfl))
      (pss_cons (ps_for PassesOwn.never rfl (pi_list (pe_df DD GD hr (pa_cons (pv 2) pa_nil))) (pg_name (i := 6) scPList.nd rfl (.inl rfl))
        (pss_one (ps_for PassesOwn.never rfl (pi_list (pe_df DP GP hr (pa_cons (pv 0) (pa_cons (pv 1) (pa_cons (pe_df DO GO hr (pa_cons (pv 6) pa_nil)) (pa_cons (pv 5) pa_nil)))))) (pg_name (i := 7) scPList.nd rfl (.inl rfl))
          (pss_cons (ps_expr (pe_bm PySem.F.plainAttrs_list PySem.F.slot_list_append PySem.F.type_list_append mt_append (pv 4) (pa_cons (pe_tup (pa_cons (pv 6) (pa_cons (pv 7) pa_nil))) pa_nil)))
          (pss_one (ps_if (PW.pt (pw_and (pt_cmpR op_notN (pv 3) pe_non (nomark _)) (pw_and1 (pt_cmpR op_gt (pe_callB call_len_seq (by rfl) T'.len PySem.boot_len (pa_cons (pv 4) pa_nil)) (pv 3) (nomark _))))) pss_never pss_nil))))))
      (pss_one (ps_ret (pv 4)))), ?_⟩
    have hlen : (datS lives n).length ≤ 256 := by
      unfold datS
      rw [List.length_mergeSort]
      exact dats_small (fun x hx => (tr.li x hx).2) tr.n4
    refine q_parLD (K := K) (en_lst eds_nil (Nat.zero_le _)) fun pf kd o H1 hpf e1 hx0 hkd => ?_
    have hpk : kd ≠ pf := (ne_of_none hx0 hkd).symm
    have e2 : Ex H1 (upd H1 kd (DictN P w kd o [])) := Ex.new hkd
    have hkdH : H kd = none := fresh_back e1 hkd
    refine q_forN (K := K) (as := datS lives n) (e1 := eD) (en_call (ar_v (ev_var rfl) ar_nil) fun _ e => ⟨t, lives, loose, rfl, (tr.ct.mono ((e1.trans e2).trans e)), by rw [tr.ln]; exact tr.n4, tr.li, by rw [tr.ln]; rfl⟩) flat_D
      (fun H3 p xs l σ H' => Ex H H' ∧ Tx H3 H' ∧ H' p = some (.lst xs) ∧ p ≠ pf ∧ p ≠ kd ∧ ∃ x6 x7 ks fs, σ = [some a, some b, some t, some (.int m), some (.ref pf), some (.ref kd), x6, x7] ∧ H' pf = some (.lst fs) ∧ DpAll K H' fs ((pairs (keptOf L1 L2) l).map eP) ∧ Tbl K P w L1 L2 (fun v => v ≠ .ref pf) H' kd ks ∧ ks.length ≤ l.length)
      (fun H3 p xs e3 hp hxs => ⟨(e1.trans e2).trans e3, Tx.refl _, hxs, ?_, ?_, none, none, [], [], rfl, e3 _ _ (e2 _ _ hx0), .nil, tab_new.mono e3, Nat.le_refl _⟩) (fun H3 p xs l σ H' _ _ _ pw => ⟨pw.2.1, pw.2.2.1⟩) (fun H3 p xs l d r e3 hp hxs hsp y σ H' pw hy => ?_) fun H3 p xs σ H' e3 hp hxs pw => ?_
    · exact (ne_of_none (e2 _ _ hx0) hp).symm
    · exact (ne_of_none upd_same hp).symm
    · obtain ⟨e5, t5, hp5, np, nk, x6, x7, ks, fs, rfl, hfs, dfs, htb, hks⟩ := pw
      have hll : l.length < 256 := by
        have := congrArg List.length hsp
        rw [List.length_append, List.length_cons] at this
        omega
      have hdw : Wi lives n d := by
        have : d ∈ datS lives n := by rw [hsp]; simp
        exact (mem_datsP lives n d).mp (mem_msort.mp this)
      have hdl : d.length ≤ 100 := by
        have h1 := datsP_wi ((mem_datsP lives n d).mpr hdw)
        have := tr.n4
        omega
      refine s_forCall (ar_v (K := K) (ev_var rfl) (ar_v (ev_var rfl) (ar_d (d := eS (offs d)) (ed_call (ar_d (ed_var rfl hy) ar_nil) fun _ e => ⟨d, rfl, hdl, rfl⟩) (ar_v (ev_var rfl) ar_nil)))) fun us H4 e4 hu4 => ?_
      obtain ⟨us, rfl, _, hu4⟩ := hu4.hv
      obtain ⟨us, rfl, _, hu4⟩ := hu4.hv
      obtain ⟨v7, us, rfl, h7, hu4⟩ := hu4.hd
      obtain ⟨us, rfl, _, hu4⟩ := hu4.hv
      obtain rfl := hu4.nilv
      have hfs4 := e4 _ _ hfs
      refine ⟨H, a, b, v7, kd, n, L1, L2, offs d, ks, _, rfl, e5.trans e4, hkdH, tr.ca, tr.cb, tr.n1, tr.n4, hdw.asc, h7, htb.mono e4, by omega, fun z hz ez => ?_, fun rr H5 ks' hb htb' hl' hr' hok' => ?_⟩
      · rw [V.ref.inj ez, hfs4] at hz
        cases hz
      obtain ⟨u, hu1, hu2⟩ := (htb.mono e4).obj
      have sx5 : Sx H4 H5 := hb.tx hu1 hu2
      have e05 : Ex H H5 := hb.ex (e5.trans e4) hkdH
      have hfs5 : H5 pf = some (.lst fs) := hb _ _ hpk.symm hfs4
      have dfs5 := dpAll_sx sx5 (dpAll_mono e4 dfs)
      refine (s_forX (K := K) (as := keptOf L1 L2 d) (e1 := eS) hr' flat_S (fun l2 σ H' => Ex H H' ∧ Tx H5 H' ∧ H' p = some (.lst xs) ∧ (∀ a xs, rr = .ref a → SqL K H5 a xs → SqL K H' a xs) ∧ Dp K H' y (eD d) ∧ ∃ x7 fs', σ = [some a, some b, some t, some (.int m), some (.ref pf), some (.ref kd), some y, x7] ∧ H' pf = some (.lst fs') ∧
          DpAll K H' fs' ((pairs (keptOf L1 L2) l ++ l2.map fun k => (d, k)).map eP) ∧ Tbl K P w L1 L2 (fun v => v ≠ .ref pf) H' kd ks')
        ⟨e05, Tx.refl _, hb _ _ nk (e4 _ _ hp5), fun _ _ _ h => h, dp_sx sx5 (dp_mono e4 hy), x7, fs, rfl, hfs5, by rw [List.map_nil, List.append_nil]; exact dfs5, htb'⟩ (fun l2 σ H' pw => ⟨pw.2.1, pw.2.2.2.1⟩) (fun l2 kk r2 hsp2 z σ H' pw hz => ?_) fun σ H' pw => ?_)
      · obtain ⟨f1, f2, f3, f4, f5, x7', fs', rfl, f6, f7, f8⟩ := pw
        have hlt : (pairs (keptOf L1 L2) l).length + l2.length + 1 ≤ (pairs (keptOf L1 L2) (datS lives n)).length := by
          rw [hsp, pairs_app, pairs_cons, hsp2]
          simp only [List.length_append, List.length_map, List.length_cons]
          omega
        refine q_appD (d := eP (d, kk)) f6 (ev_var rfl) (ed_P (p := (d, kk)) (ed_var rfl f5) (ed_var rfl hz)) ?_ fun v8 H8 e8 h8 => ?_
        · rw [dpAll_len f7, List.length_map, List.length_append, List.length_map]
          omega
        have hf8 := e8 _ _ f6
        obtain ⟨q1, q2⟩ := after_app hf8 (dpAll_mono e8 f7) h8 (flatTs_map flat_P _) (flat_P _)
        have t8 : Tx H8 (upd H8 pf (.lst (fs' ++ [v8]))) := Tx.upd hf8 trivial
        have dfin : DpAll K (upd H8 pf (.lst (fs' ++ [v8]))) (fs' ++ [v8]) ((pairs (keptOf L1 L2) l ++ (l2 ++ [kk]).map fun k => (d, k)).map eP) := by
          rw [show (l2 ++ [kk]).map (fun k => (d, k)) = l2.map (fun k => (d, k)) ++ [(d, kk)] by rw [List.map_append]; rfl, ← List.append_assoc, List.map_append]
          exact q2
        refine s_when (b := false) (et_is (et_and (et_test (ev_op (ev_var rfl) ev_c rv_notI)) fun _ => et_test (ev_op (ev_lenL (K := K) (ed_var rfl (.lst (sq_of q1) dfin))) (ev_var rfl) rv_I0)) ?_) (fun z => by cases z) fun _ H9 e9 => ⟨(Ex.mut (f1.trans e8) hpf).trans e9, ((f2.trans (Tx.of e8)).trans t8).trans (Tx.of e9), e9 _ _ (by rw [upd_ne np]; exact e8 _ _ f3), fun a' xs' ea hq => ?_, dp_mono e9 (dp_tx t8 (flat_D _) (dp_mono e8 f5)), some z, _, rfl, e9 _ _ q1, dpAll_mono e9 dfin, (tbl_upd (f8.mono e8) hf8 hpk).mono e9⟩
        · rw [decide_eq_false]
          · rfl
          · simp only [List.length_append, List.length_map, List.length_cons, List.length_nil]
            omega
        · have hne : a' ≠ pf := fun e => hok' (by rw [ea, e])
          exact ex_l e9 (sql_upd (ys := []) (ex_l e8 (f4 a' xs' ea hq)) hne)
      · obtain ⟨f1, f2, f3, f4, f5, x7', fs', rfl, f6, f7, f8⟩ := pw
        refine ⟨f1, ((t5.trans (Tx.of e4)).trans sx5.tx).trans f2, f3, np, nk, _, _, ks', fs', rfl, f6, ?_, f8, by rw [List.length_append]; show ks'.length ≤ l.length + 1; omega⟩
        rw [pairs_app, pairs_cons]
        show DpAll K H' fs' ((pairs (keptOf L1 L2) l ++ ((keptOf L1 L2 d).map (fun k => (d, k)) ++ [])).map eP)
        rw [List.append_nil]
        exact f7
    · obtain ⟨e5, t5, hp5, np, nk, x6, x7, ks, fs, rfl, hfs, dfs, htb, hks⟩ := pw
      exact ⟨.ref pf, rfl, q pf fs H' hpf e5 hfs dfs⟩
end
end K49
namespace K49
open PySem PySem.Spec PySem.W PyProof.Rows L2 Evl
/-! ## f(k = v, ..): all by keywords -/
structure Kw0 (K : PySem.W.Frag) (fd : FuncData) (ps ks : List Str) (g : {α : Type} → List α → List α) : Prop where
  to : ∀ (s : Shared) (ws : List Value), K.In s.heap → ws.length = ks.length → BindsTo s fd ⟨[], ks.zip ws⟩ (ps.zip (g ws))
  rel : ∀ {zs : List V} {ws : List Value}, zs.length = ks.length → Vals zs ws → Vals (g zs) (g ws)
def tCallK0 (m : Nat) (sp : Sp) (g : List V → List V) (E : XK) (tk : TA) : TE := fun σ H Q => tk σ H fun zs H1 => zs.length = m ∧ sp (g zs) H1 Q E
section
variable {X : Cx} {k : Nat} {f : Addr} {fd : FuncData} {ps ks : List Str} {sp : Sp} {x : Str} {p pos : PySem.Pos} {kws : List Keyword} {tk : TA} {g : {α : Type} → List α → List α}
theorem pe_callK0 (F : FnOk X.prog X.w X.K X.mg X.base CX0 k f fd ps sp) (hr : Room k X.A) (hg : Gl X x) (hm : X.mg x = some (.ref f)) (hk : PySem.W.keepIn X.K (.ref f) = true) (hb : Kw0 X.K fd ps ks g)
    (hkw : PK X kws tk) (hall : (backToKw pos (keywordEach kws X.env)).all (·.1.isSome) = true := by rfl) (hks : (backToKw pos (keywordEach kws X.env)).filterMap (·.1) = ks := by rfl)
    (hdb : (x == ("__debug__" : Str)) = false := by decide) (hpl : ((backTo pos (starEach [] X.env)).any (·.1) || (backToKw pos (keywordEach kws X.env)).any (·.1.isNone)) = false := by rfl) :
    PE X (.Call (.Name x p) [] kws pos) (tCallK0 ks.length sp g E0 tk) := by
  refine ⟨fun pins s σ H Q I h => ?_⟩
  refine wpAny_Call_Name_kw (ld_glob I hg hm ?_ hdb)
  refine PySem.W.callWith_KW0 (h₀ := X.base) I.ok.mod.kin hk hall (thn (hkw.run pos pins s σ H _ I h) fun ws s2 ⟨zs, H2, I2, rz, l2, q2⟩ => ⟨I2.kIn, ?_⟩) hpl
  rw [hks]
  have r2 := hb.rel l2 rz
  refine wpAny_call (codeAny_mono (F.run X.A X.stack s2 H2 ⟨[], ks.zip ws⟩ (g ws) (g zs) Q E0 hr I2.env0 (hb.to s2 ws I2.kIn (rz.length.symm.trans l2)) r2 q2) fun r s' hq => ?_)
  cases r with
  | error e => exact hq.elim
  | ok fl =>
    cases fl with
    | ret u => exact I2.after hq
    | next => exact False.elim hq
    | brk => exact False.elim hq
    | cont => exact False.elim hq
end
section
variable {K : PySem.W.Frag} {σ : L2.St} {H H' : Hp} {ta : TA} {d : PyData} {ds : List PyData} {as : List AS}
/-- the arguments in the parameters' order -/
def ordA (g : {α : Type} → List α → List α) (as : List AS) : List AS := g as
theorem ed_callK {R : Hp → List AS → PyData → Prop} {m : Nat} {g : {α : Type} → List α → List α} {E : XK} (h : EvAr K ta σ H as) (hm : as.length = m) (hg : ∀ vs H1, ArOk K H1 vs as → ArOk K H1 (g vs) (g as)) (hR : ∀ H1, Ex H H1 → R H1 (g as) d) : EvD K (tCallK0 m (spA K R) g E ta) σ H d := fun H1 a Q q =>
  h H1 a _ fun vs H2 e2 ha => ⟨ha.len.trans hm, g as, d, hg vs H2 ha, hR H2 (a.trans e2), fun v H3 e3 hd => q v H3 (e2.trans e3) hd⟩
end
end K49
namespace K49
open PySem PySem.Spec PySem.W PyProof.Rows L2 Evl
section
variable {K : PySem.W.Frag} {P : Program} {w : World} {C T : Addr} {σ : L2.St} {H : Hp} {D : Ends} {tz : TS} {sp : Sp} {E : XK} {ta : TA} {bs : List AS}
/-- same_offers([a, b, t]) -/
theorem q_same {te : TE} {n : Nat} {L1 L2 : List (List Int)} {lives loose : List Int} {a b t : V} (h : EvL te σ H [a, b, t]) (tr : Tri K P w C T n L1 L2 lives loose H a b t) (q : ∀ H1, Ex H H1 → tz D σ H1) :
    tSeq (tDrop (tCall (spSame K P w C T) [] E (tCons te tNil))) tz D σ H :=
  h H (Ex.refl H) _ fun p H1 hp e1 hx => ⟨p, a, b, t, n, L1, L2, lives, loose, rfl, hx, tr.mono e1, fun H2 e2 => q H2 (e1.trans e2)⟩
theorem el_three {a b t : V} {i j k : Nat} (hi : σ[i]? = some (some a)) (hj : σ[j]? = some (some b)) (hk : σ[k]? = some (some t)) : EvL (tLst (tCons (tVar i) (tCons (tVar j) (tCons (tVar k) tNil)))) σ H [a, b, t] :=
  el_lst (ea_cons (ev_var hi) (ea_cons (ev_var hj) (ea_cons (ev_var hk) ea_nil))) (by show 3 ≤ 100000; decide)
theorem q_ifNotCall (ha : EvAr K ta σ H bs) (k : ∀ us H4, Ex H H4 → ArOk K H4 us bs → sp (us ++ []) H4 (fun v H5 => ∃ c, v = .bl c ∧ (if (!c) = true then tNever { D with nx := tz D } σ H5 else tNext { D with nx := tz D } σ H5)) E) :
    tSeq (tIfS (tNot (tB (tCall sp [] E ta))) tNever tNext) tz D σ H := ha H (Ex.refl H) _ fun us H4 e h => k us H4 e h
theorem s_retTupCall {g : TG} {tt : TT} {te : TE} {vs : List Nat} (ha : EvAr K ta σ H bs) (k : ∀ us H4, Ex H H4 → ArOk K H4 us bs → sp (us ++ []) H4 (fun r H5 => tRet (tCB (rTupD K) (tCons (tLc (iList K (tC r)) g tt te vs) tNil)) D σ H5) E) :
    tRet (tCB (rTupD K) (tCons (tLc (iList K (tCall sp [] E ta)) g tt te vs) tNil)) D σ H := ha H (Ex.refl H) _ fun us H4 e h => k us H4 e h
end
section
variable {P : Program} {w : World} {K : PySem.W.Frag} {mg : Str → Option Value} {base : Heap} {C T : Addr}
/-! is_position -/
def rIsPos (K : PySem.W.Frag) (P : Program) (w : World) (C T : Addr) : Hp → List AS → PyData → Prop := fun H as d => ∃ (a b t : V) (n : Nat) (L1 L2 : List (List Int)) (lives loose : List Int) (p : Pos), as = [.inl a, .inl b, .inl t, .inr (eP p)] ∧ Tri K P w C T n L1 L2 lives loose H a b t ∧ Wi lives n p.1 ∧ Asc n p.2 ∧
  d = .bool (decide (p.2 ∈ keptOf L1 L2 p.1))
theorem ok_ispos {f fS fO : Addr} {fd fdS fdO : FuncData} {k : Nat} (F : Fun K "is_position" "is_position" sIsPos f fd) (DS : Df K mg "same_offers" sSame ["things"] fS fdS) (GS : FnOk P w K mg base CX0 k fS fdS ["things"] (spSame K P w C T))
    (DO : Df K mg "positions_is_one" sPOne ["near", "far", "trade", "thing", "known"] fO fdO) (GO : FnOk P w K mg base CX0 k fO fdO ["near", "far", "trade", "thing", "known"] (spOne K P w C T)) : FnOk P w K mg base CX0 (k + 1) f fd ["near", "far", "trade", "thing"] (spA K (rIsPos K P w C T)) := by
  refine F.ok scIsPos (fun vs H Q E h => ?_) (fun cdv A outer s H vs Q E hr h => ?_)
  · obtain ⟨as, d, h, ⟨a, b, t, n, L1, L2, lives, loose, p, rfl, _⟩, _⟩ := h
    exact h.len
  · obtain ⟨as, d, h, ⟨a, b, t, n, L1, L2, lives, loose, p, rfl, tr, hw, ha, rfl⟩, q⟩ := h
    obtain ⟨vs, rfl, _, h⟩ := h.hv
    obtain ⟨vs, rfl, _, h⟩ := h.hv
    obtain ⟨vs, rfl, _, h⟩ := h.hv
    obtain ⟨v4, vs, rfl, h4, h⟩ := h.hd
    obtain rfl := h.nilv
    refine ⟨_, pss_cons (ps_expr (pe_df DS GS hr (pa_cons (pe_lst (pa_cons (pv 0) (pa_cons (pv 1) (pa_cons (pv 2) pa_nil)))) pa_nil)))
      (pss_one (ps_ret (pe_df DO GO hr (pa_cons (pv 0) (pa_cons (pv 1) (pa_cons (pv 2) (pa_cons (pv 3) (pa_cons pe_dnewN pa_nil)))))))), ?_⟩
    refine q_same (el_three rfl rfl rfl) tr fun H1 e1 => ?_
    refine ⟨_, rfl, _, rfl, _, rfl, _, rfl, fun kd o hkd => ?_⟩
    have e2 : Ex H1 (upd H1 kd (DictN P w kd o [])) := Ex.new hkd
    refine ⟨H1, a, b, t, v4, kd, n, L1, L2, lives, loose, p, [], fun _ => True, rfl, e2, hkd, tr.mono e1, hw, ha, dp_mono (e1.trans e2) h4, tab_new, by decide, fun _ _ => trivial, fun H' ks' hb _ _ => ?_⟩
    exact q _ H' (hb.ex (e1.trans e2) (fresh_back e1 hkd)) (.bl _)
/-! positions_of -/
def rPosOf (K : PySem.W.Frag) (P : Program) (w : World) (C T : Addr) : Hp → List AS → PyData → Prop := fun H as d => ∃ (a b t : V) (n : Nat) (L1 L2 : List (List Int)) (lives loose : List Int) (m : Int), as = [.inl a, .inl b, .inl t, .inr (.int m)] ∧ Tri K P w C T n L1 L2 lives loose H a b t ∧
  ((pairs (keptOf L1 L2) (datS lives n)).length : Int) ≤ m ∧ m ≤ 90000 ∧ d = .tuple ((pairs (keptOf L1 L2) (datS lives n)).map eP)
theorem ok_posof {f fS fL : Addr} {fd fdS fdL : FuncData} {k : Nat} {kws : List (Str × V)} (F : FunD K "positions_of" "positions_of" (defArgs sPosOf) (defBody sPosOf) (defScope sPosOf) [] kws f fd) (DS : Df K mg "same_offers" sSame ["things"] fS fdS) (GS : FnOk P w K mg base CX0 k fS fdS ["things"] (spSame K P w C T))
    (DL : Df K mg "positions_listed" sPList ["near", "far", "trade", "most"] fL fdL) (GL : FnOk P w K mg base CX0 k fL fdL ["near", "far", "trade", "most"] (spN K (rList K P w C T))) (T' : Txt mg) : FnOk P w K mg base CX0 (k + 1) f fd ["near", "far", "trade", "most"] (spA K (rPosOf K P w C T)) := by
  refine F.ok scPosOf (fun vs H Q E h => ?_) (fun cdv A outer s H vs Q E hr h => ?_)
  · obtain ⟨as, d, h, ⟨a, b, t, n, L1, L2, lives, loose, p, rfl, _⟩, _⟩ := h
    exact h.len
  · obtain ⟨as, d, h, ⟨a, b, t, n, L1, L2, lives, loose, m, rfl, tr, hm, hm2, rfl⟩, q⟩ := h
    obtain ⟨vs, rfl, _, h⟩ := h.hv
    obtain ⟨vs, rfl, _, h⟩ := h.hv
    obtain ⟨vs, rfl, _, h⟩ := h.hv
    obtain ⟨v4, vs, rfl, h4, h⟩ := h.hd
    obtain rfl := h.nilv
    have key : PSs (cxOf CX0 P w K mg base ["near", "far", "trade", "most"] "positions_of" (defScope sPosOf) f cdv A outer s H E).nox (defBody sPosOf) _ := pss_cons (ps_expr (pe_df DS GS hr (pa_cons (pe_lst (pa_cons (pv 0) (pa_cons (pv 1) (pa_cons (pv 2) pa_nil)))) pa_nil)))
      (pss_one (ps_ret (pe_callTy call_tuple_of (by rfl) T'.tuple boot_tup' (pa_cons (pe_df DL GL hr (pa_cons (pv 0) (pa_cons (pv 1) (pa_cons (pv 2) (pa_cons (pv 3) pa_nil))))) pa_nil))))
    refine ⟨_, key.nox, ?_⟩
    refine q_same (el_three rfl rfl rfl) tr fun H1 e1 => ?_
    refine s_retD (ed_tupOf (EvN.toD (en_call (ar_v (ev_var rfl) (ar_v (ev_var rfl) (ar_v (ev_var rfl) (ar_d (ed_var rfl (dp_mono e1 h4)) ar_nil)))) fun H2 e2 => ⟨a, b, t, n, L1, L2, lives, loose, m, rfl, tr.mono (e1.trans e2), hm, hm2, rfl⟩))) fun v H2 e2 hd => q v H2 (e1.trans e2) hd
/-! settler_moves -/
def movesOf (L1 L2 : List (List Int)) (lives : List Int) (p : Pos) (dd : Deed) : List Pos := (keptOf L1 L2 (K49.behind leI lives p.1 dd)).map fun k => (K49.behind leI lives p.1 dd, k)
def rMoves (K : PySem.W.Frag) (P : Program) (w : World) (C T : Addr) : Hp → List AS → PyData → Prop := fun H as d => ∃ (a b t : V) (n : Nat) (L1 L2 : List (List Int)) (lives loose : List Int) (p : Pos) (dd : Deed), as = [.inl a, .inl b, .inl t, .inr (eP p), .inr (eDeed dd)] ∧ Tri K P w C T n L1 L2 lives loose H a b t ∧
  Wi lives n p.1 ∧ Asc n p.2 ∧ p.2 ∈ keptOf L1 L2 p.1 ∧ DeedOk lives.length loose dd ∧ d = .tuple ((movesOf L1 L2 lives p dd).map eP)
theorem Tri.one {n : Nat} {L1 L2 : List (List Int)} {lives loose : List Int} {H : Hp} {a b t : V} (tr : Tri K P w C T n L1 L2 lives loose H a b t) (o : Int) (h : 0 ≤ o ∧ o < (n : Int)) : 1 ≤ lives.getD o.toNat 0 := by
  have hl : o.toNat < lives.length := by
    have := tr.ln
    omega
  rw [List.getD_eq_getElem?_getD, List.getElem?_eq_getElem hl]
  exact (tr.li _ (List.getElem_mem hl)).1
theorem ok_moves {f fS fO fD fB fP fF : Addr} {fd fdS fdO fdD fdB fdP fdF : FuncData} {k : Nat} (F : Fun K "settler_moves" "settler_moves" sMoves f fd) (DS : Df K mg "same_offers" sSame ["things"] fS fdS) (GS : FnOk P w K mg base CX0 k fS fdS ["things"] (spSame K P w C T))
    (DO : Df K mg "positions_is_one" sPOne ["near", "far", "trade", "thing", "known"] fO fdO) (GO : FnOk P w K mg base CX0 k fO fdO ["near", "far", "trade", "thing", "known"] (spOne K P w C T))
    (DD : Df K mg "is_deed" sDeed ["trade", "thing"] fD fdD) (GD : FnOk P w K mg base CX0 k fD fdD ["trade", "thing"] (spA K (rDeed K T))) (DB : Df K mg "behind" sBeh ["trade", "dated", "deed"] fB fdB) (GB : FnOk P w K mg base CX0 k fB fdB ["trade", "dated", "deed"] (spA K (rBeh K T)))
    (DP : Df K mg "positions_settled" sPSet ["near", "far", "some", "known"] fP fdP) (GP : FnOk P w K mg base CX0 k fP fdP ["near", "far", "some", "known"] (spPSet K P w C)) (DF : Df K mg "offers_of" sOffs ["dated"] fF fdF) (GF : FnOk P w K mg base CX0 k fF fdF ["dated"] (spA K rOffs)) (T' : Txt mg) :
    FnOk P w K mg base CX0 (k + 1) f fd ["near", "far", "trade", "position", "deed"] (spA K (rMoves K P w C T)) := by
  refine F.ok scMoves (fun vs H Q E h => ?_) (fun cdv A outer s H vs Q E hr h => ?_)
  · obtain ⟨as, d, h, ⟨a, b, t, n, L1, L2, lives, loose, p, dd, rfl, _⟩, _⟩ := h
    exact h.len
  · obtain ⟨as, d, h, ⟨a, b, t, n, L1, L2, lives, loose, p, dd, rfl, tr, hw, ha, hp, hdd, rfl⟩, q⟩ := h
    obtain ⟨vs, rfl, _, h⟩ := h.hv
    obtain ⟨vs, rfl, _, h⟩ := h.hv
    obtain ⟨vs, rfl, _, h⟩ := h.hv
    obtain ⟨v4, vs, rfl, h4, h⟩ := h.hd
    obtain ⟨v5, vs, rfl, h5, h⟩ := h.hd
    obtain rfl := h.nilv
    refine ⟨_, pss_cons (ps_expr (pe_df DS GS hr (pa_cons (pe_lst (pa_cons (pv 0) (pa_cons (pv 1) (pa_cons (pv 2) pa_nil)))) pa_nil)))
      (pss_cons (ps_set (i := 5) scMoves.nd rfl (.inl rfl) pe_dnewN)
      (pss_cons (ps_if (pt_not (pt_val (pe_df DO GO hr (pa_cons (pv 0) (pa_cons (pv 1) (pa_cons (pv 2) (pa_cons (pv 3) (pa_cons (pv 5) pa_nil)))))))) pss_never pss_nil)
      (pss_cons (ps_if (pt_not (pt_val (pe_df DD GD hr (pa_cons (pv 2) (pa_cons (pv 4) pa_nil))))) pss_never pss_nil)
      (pss_cons (ps_set (i := 6) scMoves.nd rfl (.inr rfl) (pe_df DB GB hr (pa_cons (pv 2) (pa_cons (pe_ix ix_tup (pv 3) pe_int (fun _ _ => rfl)) (pa_cons (pv 4) pa_nil)))))
      (pss_one (ps_ret (pe_callTy call_tuple_of (by rfl) T'.tuple boot_tup' (pa_cons (pe_lc (own := [("kept", 7)]) (g := gName 7) (tt := tYes) rfl scMoves.nd (pi_list (pe_df DP GP hr (pa_cons (pv 0) (pa_cons (pv 1) (pa_cons (pe_df DF GF hr (pa_cons (pv 6) pa_nil)) (pa_cons (pv 5) pa_nil))))))
        (blkOk_by (N := ["near", "far", "trade", "position", "deed", "known", "after", "kept"]) (sc := defScope sMoves) (by decide +kernel)) (fun _ _ _ _ _ => pg_name (i := 7) scMoves.nd rfl (.inl rfl)) (fun _ _ _ _ _ => pts_nil) (fun _ _ _ _ _ => pe_tup (pa_cons (pv 6) (pa_cons (pv 7) pa_nil)))) pa_nil)))))))), ?_⟩
    refine q_same (el_three rfl rfl rfl) tr fun H1 e1 => ?_
    intro kd o hkd
    have e2 : Ex H1 (upd H1 kd (DictN P w kd o [])) := Ex.new hkd
    have hkdH := fresh_back e1 hkd
    refine q_ifNotCall (K := K) (ar_v (ev_var rfl) (ar_v (ev_var rfl) (ar_v (ev_var rfl) (ar_d (ed_var rfl (dp_mono (e1.trans e2) h4)) (ar_v (ev_var rfl) ar_nil))))) fun us H3 e3 hu => ?_
    obtain ⟨us, rfl, _, hu⟩ := hu.hv
    obtain ⟨us, rfl, _, hu⟩ := hu.hv
    obtain ⟨us, rfl, _, hu⟩ := hu.hv
    obtain ⟨u4, us, rfl, hu4, hu⟩ := hu.hd
    obtain ⟨us, rfl, _, hu⟩ := hu.hv
    obtain rfl := hu.nilv
    have e03 := (e1.trans e2).trans e3
    refine ⟨H, a, b, t, u4, kd, n, L1, L2, lives, loose, p, [], fun _ => True, rfl, e03, hkdH, tr, hw, ha, hu4, tab_new.mono e3, by decide, fun _ _ => trivial, fun H4 ks' hb htb hkl => ?_⟩
    have e4 : Ex H H4 := hb.ex e03 hkdH
    have tx4 : Tx H3 H4 := (hb.tx (tab_new (nk := nkS) (en := eS) (g := kl L1 L2) (ok := fun _ => True) (K := K) (P := P) (w := w) (H := H1) (p := kd) (o := o) |>.mono e3).obj.choose_spec.1 (tab_new (nk := nkS) (en := eS) (g := kl L1 L2) (ok := fun _ => True) (K := K) (P := P) (w := w) (H := H1) (p := kd) (o := o) |>.mono e3).obj.choose_spec.2).tx
    refine ⟨true, by rw [decide_eq_true hp], ?_⟩
    refine iteF ?_
    have tr4 := tr.mono e4
    refine q_when (et_not (et_B (EvD.bl (ed_call (ar_v (ev_var rfl) (ar_d (ed_var rfl (dp_mono e4 h5)) ar_nil)) fun H5 e5 => ⟨t, lives, loose, dd, rfl, tr4.ct.mono e5, hdd, rfl⟩)))) (fun z => by cases z) fun _ H5 e5 => ?_
    have hlen : p.1.length ≤ 100 := by
      have h1 := datsP_wi ((mem_datsP lives n p.1).mpr hw)
      have := tr.n4
      omega
    refine q_asgD (d := eD (K49.behind leI lives p.1 dd)) (ed_call (ar_v (ev_var rfl) (ar_d (d := eD p.1) (ed_ixT (i := 0) (ed_var rfl (dp_mono (e4.trans e5) h4)) ev_c rfl) (ar_d (ed_var rfl (dp_mono (e4.trans e5) h5)) ar_nil))) fun H6 e6 => ⟨t, lives, loose, p.1, dd, rfl, tr4.ct.mono (e5.trans e6), hdd, hlen, rfl⟩) fun v6 H6 e6 h6 => ?_
    have hbw : Wi lives n (K49.behind leI lives p.1 dd) := behind_wi by_offer tr.one hw (by rw [← tr.ln]; exact hdd)
    have hblen : (K49.behind leI lives p.1 dd).length ≤ 100 := by
      have h1 := datsP_wi ((mem_datsP lives n _).mpr hbw)
      have := tr.n4
      omega
    have e46 := e5.trans e6
    refine s_retTupCall (K := K) (ar_v (ev_var rfl) (ar_v (ev_var rfl) (ar_d (d := eS (offs (K49.behind leI lives p.1 dd))) (ed_call (ar_d (ed_var rfl h6) ar_nil) fun _ e => ⟨_, rfl, hblen, rfl⟩) (ar_v (ev_var rfl) ar_nil)))) fun us H7 e7 hu7 => ?_
    obtain ⟨us, rfl, _, hu7⟩ := hu7.hv
    obtain ⟨us, rfl, _, hu7⟩ := hu7.hv
    obtain ⟨v7, us, rfl, h7, hu7⟩ := hu7.hd
    obtain ⟨us, rfl, _, hu7⟩ := hu7.hv
    obtain rfl := hu7.nilv
    have htb7 := htb.mono (e46.trans e7)
    refine ⟨H, a, b, v7, kd, n, L1, L2, offs (K49.behind leI lives p.1 dd), ks', fun _ => True, rfl, e4.trans (e46.trans e7), hkdH, tr.ca, tr.cb, tr.n1, tr.n4, hbw.asc, h7, htb7, by have : ks'.length ≤ 1 := hkl; omega, fun _ _ => trivial, fun r H8 ks8 hb8 htb8 hl8 hr8 _ => ?_⟩
    obtain ⟨u, hu1, hu2⟩ := htb7.obj
    have sx8 : Sx H7 H8 := hb8.tx hu1 hu2
    have e8 : Ex H H8 := hb8.ex (e4.trans (e46.trans e7)) hkdH
    refine s_retD (ed_tupOf (EvN.toD (en_is (en_lcL (K := K) (as := keptOf L1 L2 (K49.behind leI lives p.1 dd)) (e1 := eS) (e2 := eP) (Tg := fun a => TgN K _ 7 (eS a)) (fun _ => true) (fun kk => (K49.behind leI lives p.1 dd, kk)) (ed_of ev_c hr8) ?_ flat_P
      (fun a ha x H1 e1 hx Q q => tg_name hx (fun _ => rfl) Q q) (fun x hx σ2 H2 e2 hT => ev_yes) (fun kk hkk σ2 H9 H10 e9 hT e10 _ => ?_)) (lcRes_all _ _)))) fun v H9 e9 hd => q v H9 (e8.trans e9) hd
    · have := kept_len leS L1 L2 tr.n1 tr.n4 hbw.asc
      show (kept leS L1 L2 (offs (K49.behind leI lives p.1 dd))).length ≤ 40000
      omega
    · obtain ⟨y, rfl, hy⟩ := hT
      exact ed_P (p := (K49.behind leI lives p.1 dd, kk)) (ed_var rfl (dp_mono (e9.trans e10) (dp_sx sx8 (dp_mono e7 h6)))) (ed_var rfl (dp_mono e10 hy))
end
end K49
namespace K49
open PySem PySem.Spec PySem.W PyProof.Rows L2 Evl
section
variable {K : PySem.W.Frag} {σ : L2.St} {H : Hp} {ta tv : TE} {C a dx : Addr} {fs : List (Str × V)} {f : Str} {y : V} {D : Ends} {tz : TS}
theorem s_fld (hv : Ev tv σ H y) (ha : Ev ta σ H (.ref a)) (h : H a = some (.ins C dx fs)) (c : Cls K C) (n : NoAttr K C f) (hl : fs.length < 1000) (k : ∀ H1, Ex H H1 → D.nx σ (upd H1 a (.ins C dx (putF f y fs)))) : sFld K ta tv f D σ H :=
  hv H (Ex.refl H) _ fun H1 e1 => ha H1 e1 _ fun H2 e2 => ⟨a, C, dx, fs, rfl, (e1.trans e2) _ _ h, c, n, hl, k H2 (e1.trans e2)⟩
theorem q_fld (hv : Ev tv σ H y) (ha : Ev ta σ H (.ref a)) (h : H a = some (.ins C dx fs)) (c : Cls K C) (n : NoAttr K C f) (hl : fs.length < 1000) (k : ∀ H1, Ex H H1 → tz D σ (upd H1 a (.ins C dx (putF f y fs)))) : tSeq (sFld K ta tv f) tz D σ H :=
  s_fld (D := { D with nx := tz D }) hv ha h c n hl k
theorem q_tput {K : PySem.W.Frag} {P : Program} {w : World} {α : Type} [DecidableEq α] {nk : α → NestedKey} {en g : α → PyData} {ok : V → Prop} {d : Addr} {as : List α} {td ty : TE} {a : α} (ko : KeyOf nk en) (hv : EvD K tv σ H (g a)) (hd : Ev td σ H (.ref d)) (hy : EvD K ty σ H (en a)) (hen : ∃ xs, en a = .tuple xs) (T : TabD K P w nk en g ok H d as) (ha : a ∉ as) (hl : as.length < 1000) (hok : ∀ v, ok v)
    (k : ∀ H1 u o', Ex H H1 → H1 d = some u → NoSeq u → TabD K P w nk en g ok (upd H1 d o') d (as ++ [a]) → tz D σ (upd H1 d o')) : tSeq (sNPut K P w td ty tv) tz D σ H := s_tput (D := { D with nx := tz D }) ko hv hd hy hen T ha hl hok k
end
theorem n12 : ¬ (("lives" : Str) = "loose") := by decide +kernel
theorem nT1 : ¬ (("table" : Str) = "places") := by decide +kernel
section
variable {P : Program} {w : World} {K : PySem.W.Frag} {mg : Str → Option Value} {base : Heap} {C T : Addr}
/-! Trade.__init__ -/
def spTI (K : PySem.W.Frag) (T : Addr) : Sp := fun vs H Q _ => ∃ (x dx : Addr) (v1 v2 : V) (lives loose : List Int), vs = [.ref x, v1, v2] ∧ H x = some (.ins T dx []) ∧ Dp K H v1 (eS lives) ∧ Dp K H v2 (eS loose) ∧ 1 ≤ lives.length ∧ lives.length ≤ 9 ∧ (∀ x ∈ lives, 1 ≤ x ∧ x ≤ 99) ∧ Asc lives.length loose ∧
  ∀ H', Bt x H H' → Trd K T lives loose H' (.ref x) → Q .non H'
theorem ok_ti {f fF fI : Addr} {fd fdF fdI : FuncData} {k : Nat} (F : Fun K "__init__" "Trade.__init__" sTInit f fd) (DF : Df K mg "trade_lives_fit" sFit ["lives"] fF fdF) (GF : FnOk P w K mg base CX0 k fF fdF ["lives"] (spA K rFit)) (DI : Df K mg "is_set" sIsSet ["offers", "thing"] fI fdI) (GI : FnOk P w K mg base CX0 k fI fdI ["offers", "thing"] (spA K rIsSet)) (T' : Txt mg) (Z : Clz K C T) :
    FnOk P w K mg base CX0 (k + 1) f fd ["self", "lives", "loose"] (spTI K T) := by
  refine F.ok scTInit (fun vs H Q E h => ?_) (fun cdv A outer s H vs Q E hr h => ?_)
  · obtain ⟨x, dx, v1, v2, lives, loose, rfl, _⟩ := h
    rfl
  · obtain ⟨x, dx, v1, v2, lives, loose, rfl, hx, h1, h2, l1, l9, hl, ha, q⟩ := h
    refine ⟨_, pss_cons (ps_if (pt_not (pt_val (pe_df DF GF hr (pa_cons (pv 1) pa_nil)))) pss_never pss_nil)
      (pss_cons (ps_if (pt_not (pt_val (pe_df DI GI hr (pa_cons (pe_callB call_len_seq (by rfl) T'.len PySem.boot_len (pa_cons (pv 1) pa_nil)) (pa_cons (pv 2) pa_nil))))) pss_never pss_nil)
      (pss_cons (ps_fld (pv 0) (pv 1) rfl) (pss_one (ps_fld (pv 0) (pv 2) rfl)))), ?_⟩
    refine q_when (et_not (et_B (EvD.bl (ed_call (ar_d (ed_var rfl h1) ar_nil) fun _ _ => ⟨lives, rfl, l1, l9, hl, rfl⟩)))) (fun z => by cases z) fun _ H1 e1 => ?_
    refine q_when (et_not (et_B (EvD.bl (ed_call (ar_d (ed_int (ev_is (ev_lenT (ed_var rfl (dp_mono e1 h1))) (by rw [List.length_map]))) (ar_d (ed_var rfl (dp_mono e1 h2)) ar_nil)) fun _ _ => ⟨lives.length, loose, rfl, ha, rfl⟩)))) (fun z => by cases z) fun _ H2 e2 => ?_
    have e12 := e1.trans e2
    refine q_fld (ev_var rfl) (ev_var rfl) (e12 _ _ hx) Z.cT Z.nLi (by decide) fun H3 e3 => ?_
    refine s_fld (D := { nx := fun _ H' => Q .non H', rt := Q }) (ev_var rfl) (ev_var rfl) upd_same Z.cT Z.nLo (by show 1 < 1000; decide) fun H4 e4 => ?_
    have b3 : Bt x H (upd H3 x (.ins T dx (putF "lives" v1 []))) := (Bt.of (e12.trans e3)).trans Bt.upd
    have b4 : Bt x H (upd H4 x (.ins T dx (putF "loose" v2 (putF "lives" v1 [])))) := (b3.trans (Bt.of e4)).trans Bt.upd
    have sx : Sx H (upd H4 x (.ins T dx (putF "loose" v2 (putF "lives" v1 [])))) := b4.tx hx trivial
    refine q _ b4 ⟨x, dx, _, v1, v2, rfl, upd_same, ?_, ?_, dp_sx sx h1, dp_sx sx h2⟩
    · rw [lookup_putF, if_neg n12, lookup_putF, if_pos rfl]
    · rw [lookup_putF, if_pos rfl]
/-! Chooser.__init__ -/
def spCI (K : PySem.W.Frag) (P : Program) (w : World) (C : Addr) : Sp := fun vs H Q _ => ∃ (x dx : Addr) (v2 : V) (n : Nat) (L : List (List Int)), vs = [.ref x, .int n, v2] ∧ H x = some (.ins C dx []) ∧ 1 ≤ n ∧ n ≤ 4 ∧ Dp K H v2 (.tuple ((allSets n).map fun s => eS (taken L s))) ∧
  ∀ H', Bt x H H' → Chz K P w C n L H' (.ref x) → Q .non H'
theorem ok_ci {f fW fA fI fP : Addr} {fd fdW fdA fdI fdP : FuncData} {k : Nat} {t1 : Tok} (F : Fun K "__init__" "Chooser.__init__" sCInit f fd) (DW : Df K mg "is_whole" sWhole ["thing"] fW fdW) (GW : FnOk P w K mg base CX0 k fW fdW ["thing"] (spA K rWhole))
    (DA : Df K mg "all_sets" sAll ["offers"] fA fdA) (GA : FnOk P w K mg base CX0 k fA fdA ["offers"] (spA K rAll)) (DI : Df K mg "is_set" sIsSet ["offers", "thing"] fI fdI) (GI : FnOk P w K mg base CX0 k fI fdI ["offers", "thing"] (spA K rIsSet))
    (DP : Df K mg "chooser_is_part" sPart ["part", "some"] fP fdP) (GP : FnOk P w K mg base CX0 k fP fdP ["part", "some"] (spA K rPart)) (g1 : mg "CHOOSER_MOST" = some (.int 6 t1)) (T' : Txt mg) (Z : Clz K C T) :
    FnOk P w K mg base CX0 (k + 1) f fd ["self", "offers", "picks"] (spCI K P w C) := by
  refine F.ok scCInit (fun vs H Q E h => ?_) (fun cdv A outer s H vs Q E hr h => ?_)
  · obtain ⟨x, dx, v2, n, L, rfl, _⟩ := h
    rfl
  · obtain ⟨x, dx, v2, n, L, rfl, hx, n1, n4, h2, q⟩ := h
    have hu := hu_64 hr
    refine ⟨_, pss_cons (ps_if (PW.pt (pw_or (pt_not (pt_val (pe_df DW GW hr (pa_cons (pv 1) pa_nil)))) (pw_or1 (pt_not (pt_chain op_le op_le pe_int (pv 1) (pe_glob (by rfl) g1 (v := .int 6) ⟨_, rfl⟩)))))) pss_never pss_nil)
      (pss_cons (ps_set (i := 3) scCInit.nd rfl (.inl rfl) (pe_df DA GA hr (pa_cons (pv 1) pa_nil)))
      (pss_cons (ps_if (PW.pt (pw_or (pt_not (pt_val (pe_callB call_isi (by rfl) T'.isi boot_isi (pa_cons (pv 2) (pa_cons (pe_bltn (by rfl) T'.tuple boot_tup' (v := .ty "tuple") rfl) pa_nil)))))
          (pw_or1 (pt_cmpR op_ne (pe_callB call_len_seq (by rfl) T'.len PySem.boot_len (pa_cons (pv 2) pa_nil)) (pe_callB call_len_seq (by rfl) T'.len PySem.boot_len (pa_cons (pv 3) pa_nil)) (nomark _))))) pss_never pss_nil)
      (pss_cons (ps_set (i := 4) scCInit.nd rfl (.inl rfl) pe_dnewN)
      (pss_cons (ps_for PassesOwn.never rfl (pi_enumT (by rfl) T'.enum (pa_cons (pv 3) pa_nil)) (pg_tup rfl (pgs_cons (pg_name (i := 5) scCInit.nd rfl (.inl rfl)) (pgs_cons (pg_name (i := 6) scCInit.nd rfl (.inl rfl)) pgs_nil)))
        (pss_cons (ps_set (i := 7) scCInit.nd rfl (.inl rfl) (pe_ix ix_tup (pv 2) (pv 5) (fun _ _ => rfl)))
        (pss_cons (ps_if (PW.pt (pw_or (pt_not (pt_val (pe_df DI GI hr (pa_cons (pv 1) (pa_cons (pv 7) pa_nil))))) (pw_or1 (pt_not (pt_val (pe_df DP GP hr (pa_cons (pv 7) (pa_cons (pv 6) pa_nil)))))))) pss_never pss_nil)
        (pss_one (ps_nput hu (pv 4) (pv 6) (pv 7) rfl)))))
      (pss_cons (ps_fld (pv 0) (pv 1) rfl) (pss_cons (ps_fld (pv 0) (pv 2) rfl) (pss_cons (ps_fld (pv 0) (pv 4) rfl)
      (pss_one (ps_fld (pv 0) (pe_tupRg rfl (by rfl) T'.tuple (prg_1 (by rfl) T'.range (pv 1))) rfl))))))))), ?_⟩
    refine q_when (et_or (et_not (et_B (EvD.bl (ed_call (ar_d (ed_int (ev_var rfl)) ar_nil) fun _ _ => ⟨n, rfl, rfl⟩)))) fun _ => et_not (et_test (ev_chain ev_c (ev_var rfl) rv_I0 ev_c rv_I0))) (fun z => ?_) fun _ H1 e1 => ?_
    · rw [decide_eq_true (by omega : (1 : Int) ≤ (n : Int)), decide_eq_true (by omega : (n : Int) ≤ 6)] at z
      cases z
    refine q_asgD (d := .tuple ((allSets n).map eS)) (ed_call (ar_d (ed_int (ev_var rfl)) ar_nil) fun _ _ => ⟨n, rfl, n4, rfl⟩) fun v3 H2 e2 h3 => ?_
    have e12 := e1.trans e2
    refine q_when (et_or (et_not (et_B (ev_isiT (K := K) (ed_var rfl (dp_mono e12 h2)) kit_tt))) fun _ => et_test (ev_op (ev_lenT (K := K) (ed_var rfl (dp_mono e12 h2))) (ev_lenT (K := K) (ed_var rfl h3)) (rv_ne rfl))) (fun z => ?_) fun _ H3 e3 => ?_
    · rw [List.length_map, List.length_map] at z
      exact absurd z (by simp)
    intro kd o hkd
    have e4 : Ex H3 (upd H3 kd (DictN P w kd o [])) := Ex.new hkd
    have e03 := e12.trans e3
    have e04 := e03.trans e4
    have hkdH := fresh_back e03 hkd
    have hA := all_ok n (by omega)
    refine q_forE (e1 := eS) (as := allSets n) (ed_var rfl (dp_mono (e3.trans e4) h3)) flat_S (fun H5 l σ H' => Ex H H' ∧ Tx H5 H' ∧ TabD K P w nkS eS (fun s => eS (taken L s)) (fun _ => True) H' kd l ∧ ∃ x5 x6 x7, σ = [some (.ref x), some (.int (n : Int)), some v2, some v3, some (.ref kd), x5, x6, x7])
      (fun H5 e5 => ⟨e04.trans e5, Tx.refl _, tab_new.mono e5, _, _, _, rfl⟩) (fun H5 l σ H' _ p => p.2.1) (fun H5 l a r e5 hsp y σ H' H6 pw e6 hy => ?_) fun H5 σ H' e5 pw => ?_
    · obtain ⟨e7, t7, htb, x5, x6, x7, rfl⟩ := pw
      refine g_pair hy fun z5 z6 hz5 hz6 => ?_
      rw [dp_int hz5]
      have e06 := e7.trans e6
      have haA : a ∈ allSets n := by rw [hsp]; simp
      have hasc := all_asc n1 n4 a haA
      refine q_asgD (d := eS (taken L a)) (ed_ixT (i := (l.length : Int)) (ed_var rfl (dp_mono e06 h2)) (ev_var rfl) ?_) fun v7 H7 e8 h7 => ?_
      · rw [hsp, List.map_append, List.map_cons]
        refine atI_nat ?_
        rw [List.getElem?_append_right (by rw [List.length_map]; exact Nat.le_refl _), List.length_map, Nat.sub_self]
        rfl
      refine q_when (et_or (et_not (et_B (EvD.bl (ed_call (ar_d (ed_int (ev_var rfl)) (ar_d (ed_var rfl h7) ar_nil)) fun _ _ => ⟨n, taken L a, rfl, hasc.sub (taken_sub L a), rfl⟩)))) fun _ => et_not (et_B (EvD.bl (ed_call (ar_d (ed_var rfl h7) (ar_d (ed_var rfl (dp_mono e8 hz6)) ar_nil)) fun _ _ => ⟨taken L a, a, rfl, fun x hx => (mem_taken.mp hx).1, rfl⟩)))) (fun z => by cases z) fun _ H8 e9 => ?_
      have hno : a ∉ l := by
        have hn := all_nodup n1 n4
        rw [hsp] at hn
        intro hin
        exact (List.nodup_append.mp hn).2.2 a hin a List.mem_cons_self rfl
      have hll : l.length < 1000 := by
        have h1 := hA.1
        rw [hsp, List.length_append] at h1
        omega
      have e68 := (e6.trans e8).trans e9
      refine s_tput (g := fun s => eS (taken L s)) keyS (ed_var rfl (dp_mono e9 h7)) (ev_var rfl) (ed_var rfl (dp_mono (e8.trans e9) hz6)) (tupS a) (htb.mono e68) hno hll (fun _ => trivial) fun H9 u o' e10 hu1 hu2 ht9 => ?_
      exact ⟨Ex.mut ((e7.trans e68).trans e10) hkdH, (t7.trans (Tx.of (e68.trans e10))).trans (Sx.upd hu1 hu2).tx, ht9, _, _, _, rfl⟩
    · obtain ⟨e7, t7, htb, x5, x6, x7, rfl⟩ := pw
      refine q_fld (ev_var rfl) (ev_var rfl) (e7 _ _ hx) Z.cC Z.nOf (by decide) fun H6 e6 => ?_
      refine q_fld (ev_var rfl) (ev_var rfl) upd_same Z.cC Z.nPi (by show 1 < 1000; decide) fun H7 e8 => ?_
      refine q_fld (ev_var rfl) (ev_var rfl) upd_same Z.cC Z.nTab (by show 2 < 1000; decide) fun H8 e9 => ?_
      have b6 : Bt x H' (upd H6 x (.ins C dx (putF "offers" (.int (n : Int)) []))) := (Bt.of e6).trans Bt.upd
      have b7 : Bt x H' (upd H7 x (.ins C dx (putF "picks" v2 (putF "offers" (.int (n : Int)) [])))) := (b6.trans (Bt.of e8)).trans Bt.upd
      have b8 : Bt x H' (upd H8 x (.ins C dx (putF "table" (.ref kd) (putF "picks" v2 (putF "offers" (.int (n : Int)) []))))) := (b7.trans (Bt.of e9)).trans Bt.upd
      refine ⟨.int (n : Int), rfl, (n : Int), rfl, RgOk.of_le (by decide) (by omega) (by decide) (by omega), fun pl hpl => ?_⟩
      refine ⟨.ref x, rfl, x, C, dx, _, rfl, by rw [upd_ne (ne_of_none upd_same hpl)]; exact upd_same, Z.cC, Z.nPl, by show 3 < 1000; decide, ?_⟩
      have b9 : Bt x H' (upd (upd (upd H8 x (.ins C dx (putF "table" (.ref kd) (putF "picks" v2 (putF "offers" (.int (n : Int)) []))))) pl (.tup (rgV 0 (n : Int)))) x (.ins C dx (putF "places" (.ref pl) (putF "table" (.ref kd) (putF "picks" v2 (putF "offers" (.int (n : Int)) [])))))) := (b8.trans (Bt.of (Ex.new hpl))).trans Bt.upd
      have sx : Sx H' _ := b9.tx (e7 _ _ hx) trivial
      have hkx : kd ≠ x := by
        obtain ⟨u, hu1, _⟩ := htb.obj
        intro e
        rw [e] at hkdH
        rw [hkdH] at hx
        cases hx
      refine q _ ((Bt.of e7).trans b9) ⟨x, dx, _, kd, .ref pl, rfl, upd_same, ?_, ?_, htb.sx sx ?_, (List.range n).map (fun (i : Nat) => (i : Int)), by rw [List.length_map, List.length_range], ?_⟩
      · rw [lookup_putF, if_neg nT1, lookup_putF, if_pos rfl]
      · rw [lookup_putF, if_pos rfl]
      · obtain ⟨u, hu1, _⟩ := htb.obj
        rw [hu1]
        exact b9 _ _ hkx hu1
      · have hpx : pl ≠ x := (ne_of_none upd_same hpl).symm
        refine S_dp (st_of (by rw [upd_ne hpx, upd_same]; congr 2; unfold rgV; rw [List.map_map]; simp))
end
end K49
namespace K49
open PySem PySem.Spec PySem.W PyProof.Rows L2 Evl LamX
/-! ## sorted(sets, key=lambda some: (len(some), some)) -/
def kLen (s : List Int) : PyData := .tuple [.int s.length, eS s]
/-- the lambda of a statement «return sorted(.., key=lambda ..)» -/
def keyLam : Stmt → Arguments × Expr × Scope × PySem.Pos
  | .Return (some (.Call _ _ [⟨_, .Lambda a b sc p, _⟩] _)) _ => (a, b, sc, p)
  | _ => (default, .Constant .none 0 ⟨0, 0, 0, 0⟩, { kind := .function, names := [], isGenerator := false, isCoroutine := false }, ⟨0, 0, 0, 0⟩)
abbrev lamE (p1 p2 p3 p4 p5 : PySem.Pos) : Expr := .Tuple [.Call (.Name "len" p1) [.Name "_law_some" p2] [] p3, .Name "_law_some" p4] 0 p5
def lamA (p : PySem.Pos) : Arguments := { posonlyargs := [], args := [{ arg := "_law_some", annotation := none, pos := p }], vararg := none, kwonlyargs := [], kw_defaults := [], kwarg := none, defaults := [] }
def lamSc : Scope := { kind := .function, names := [("_law_some", .local), ("len", .globalImplicit)], isGenerator := false, isCoroutine := false, more := [] }
theorem lamSc_nc : ∀ x ∈ lamSc.names, x.2 ≠ .cell := by decide +kernel
theorem lamSc_loc : lamSc.names.lookup ("_law_some" : Str) = some NameKind.local := by decide +kernel
theorem lamSc_len : lamSc.names.lookup ("len" : Str) = some NameKind.globalImplicit := by decide +kernel
theorem reads_ints {h : Heap} : ∀ {ns : List Int} {us : List Value}, IntsAre us ns → ReadsAll h us (ns.map .int) []
  | [], us, e => by
    have := e.length
    cases us with
    | nil => exact .nil
    | cons _ _ => simp at this
  | n :: ns, us, e => by
    cases us with
    | nil => have := e.length; simp at this
    | cons u us =>
      have h0 := PyProof.Rows.IntsAre.int_at e 0 u rfl
      obtain ⟨t, ht⟩ := h0
      have e2 : IntsAre us ns := by
        cases e with
        | cons _ _ r => exact r
      have r := ReadsAll.cons (h := h) (Reads.int n t) (reads_ints e2)
      rw [ht]
      exact r
section
variable {prog : Program} {w : World} {A : Around} {s : Shared} {mg mb : Str → Option Value}
theorem lam_turn {f c' t : Addr} {q : Str} {pm ctv : Value} {ns : List Int} {o : Obj} {its : Array Value} {n : Nat} {p0 p1 p2 p3 p4 p5 : PySem.Pos} (hroom : A.depth < recursionLimit)
    (of : s.heap.get? f = some (PySem.W.kla_obj "<lambda>" q (lamA p0) (lamE p1 p2 p3 p4 p5) lamSc [] pm c' ctv)) (hc : s.heap.CodeRec (.ref c') q)
    (hg : s.heap.Ns mainGlobals mg) (hm : mg "len" = none) (hb : s.heap.Ns builtinsNs mb) (hv : mb "len" = some (.builtin "len")) (hl : s.heap.NoLimit)
    (ht : s.heap.get? t = some o) (hcl : o.cls = .type "tuple") (hd : o.data = .seq its n) (hi : IntsAre its.toList ns) (hz : ns.length ≤ 1000) :
    wpAny (model prog w) A (call (.ref f) [.ref t]) (KeyPure (kLen ns) s) (fun _ _ => False) s := by
  have key : codeAny (model prog w) A (.call (.ref f) ⟨[.ref t], []⟩) (fun r s' => ∃ v, r = .ok (.ret v) ∧ KeyPure (kLen ns) s v s') s := by
    refine PySem.W.kla_callFunE hroom of rfl rfl rfl rfl hc ?_
    have hbind : bindArgs (PySem.W.kla_fn "<lambda>" q (lamA p0) (lamE p1 p2 p3 p4 p5) lamSc [] pm (.ref c') ctv) ⟨[Value.ref t], []⟩ = pure [(("_law_some" : Str), Value.ref t)] := rfl
    rw [hbind]
    refine wpAny_pure (wpAny_newFunctionEnv lamSc_nc (fun x hx => by rw [List.mem_singleton.mp hx]; exact lamSc_loc) (fun h₁ hns hsb => ?_) rfl)
    have kp : ∀ b o, s.heap.get? b = some o → h₁.get? b = some o := fun b o e => hsb.extBut b o (Nat.ne_of_lt (Heap.lt_size e)) (Heap.get?_push_of_some _ e)
    refine ⟨hl.fresh _ hsb, PySem.W.kla_codeExpr ?_⟩
    refine wpAny_Tuple_spliced ?_
    show wpAny _ _ (spliced [(false, eval (.Call (.Name "len" p1) [.Name "_law_some" p2] [] p3) _), (false, eval (.Name "_law_some" p4) _)]) _ _ _
    have hg' := hg.keeps kp
    have hb' := hb.keeps kp
    have loc : ∀ {A' : Around} {E' : Value → Shared → Prop} {Q : Value → Shared → Prop} {tk : Nat} {p : PySem.Pos}, Q (.ref t) { s with heap := h₁, toks := tk } →
        wpAny (model prog w) A' (eval (.Name "_law_some" p) (newEnv lamSc s.heap.objs.size mainGlobals [] (q ++ ".<locals>.") (some f) (.ref c') none builtinsNs)) Q E' { s with heap := h₁, toks := tk } := fun {A' E' Q tk p} hq =>
      wpAny_Name (wpAny_loadName_local (v := .ref t) rfl lamSc_loc hns (by simp) hq) (by decide)
    refine Calls.spliced_cons (wpAny_Call_Name_kw (Calls.Name_function_global rfl lamSc_len (Calls.loadGlobal_builtin hg' hm hb' hv ?_) (by decide)))
    refine PyProof.Rows.callWith_builtin1 (Calls.spliced_cons (loc (Calls.spliced_nil ?_)))
    have hlen : its.size = ns.length := by
      rw [← Array.length_toList, hi.length]
    have ht' := kp t o ht
    refine len_tuple (s := { s with heap := h₁, toks := _ }) ⟨o, ht', hcl, n, hd⟩ (by omega) ?_
    refine Calls.spliced_cons (loc (Calls.spliced_nil ⟨by show 2 ≤ sizeLine; decide, ?_⟩))
    refine ⟨_, rfl, _, _, rfl, fun b u e => Heap.get?_push_of_some _ (kp b u e), ?_⟩
    rw [hlen]
    refine .tuple (as := []) (Heap.get?_push_size _ rfl) rfl rfl ?_
    have r1 : ∀ ob : Obj, Reads (h₁.push ob) (.ref t) (eS ns) [] := fun ob => .tuple (as := []) (Heap.get?_push_of_some ob ht') hcl hd (reads_ints hi)
    exact ReadsAll.cons (as := []) (bs := []) (.int _ _) (ReadsAll.cons (as := []) (bs := []) (r1 _) .nil)
  refine wpAny_call (codeAny_mono key fun r s' hq => ?_)
  obtain ⟨v, rfl, hk⟩ := hq
  exact hk
end
end K49
namespace K49
open PySem PySem.Spec PySem.W PyProof.Rows L2 Evl LamX
theorem extN_rd {H H' : Hp} (e : ExtN H H') {a : Addr} {u : HO} (h : Rd H a u) (n : ∀ ps, u ≠ .tbl ps) : Rd H' a u := by
  rcases h with h | ⟨q, h⟩
  · exact .inl (e _ _ h n)
  · exact .inr ⟨q, e _ _ h fun ps z => nomatch z⟩
theorem extN_sx {H H' : Hp} (e : ExtN H H') : Sx H H' := fun a xs => ⟨fun h => extN_rd e h (fun _ z => by cases z), fun h => extN_rd e h (fun _ z => by cases z)⟩
theorem alike_kLen (a b : List Int) : alike (kLen a) (kLen b) = true := by
  unfold kLen
  simp only [alike, alikeAll, alike_S, Bool.and_self]
theorem depth_kLen (a : List Int) : (kLen a).depth ≤ 2 := by
  unfold kLen
  rw [PyData.depth, PyData.depthAll, PyData.depthAll, PyData.depthAll, depth_int]
  have := depth_S a
  omega
def tSortLam (K : PySem.W.Frag) (T : List (Addr × Str)) (te : TE) : TE := fun σ H Q => te σ H fun v H1 => ∃ (l : Addr) (zs : List V) (as : List (List Int)), v = .ref l ∧ SqL K H1 l zs ∧ DpAll K H1 zs (as.map eS) ∧ as.length ≤ 60 ∧ (∀ a ∈ as, a.length ≤ 60) ∧ Tabs T H1 ∧
  ∀ H2 p ys, ExtN H1 H2 → Tabs T H2 → H2 p = none → DpAll K H2 ys ((as.mergeSort (dataLe false kLen)).map eS) → Q (.ref p) (upd H2 p (.lst ys))
theorem pe_sortLam {X : Cx} {e : Expr} {te : TE} {T : List (Addr × Str)} {c P : Addr} {k : Nat} {p p0 p1 p2 p3 p4 p5 lpos kpos pos : PySem.Pos} (hr : Room k X.A) (hg : Gl X "sorted") (hm : X.mg "sorted" = none) (hml : X.mg "len" = none) (he : PE X e te)
    (TB : TabB X.base X.mg c P) (hcode : X.env.code = .ref c) (hmT : (P, X.env.qual ++ "<lambda>") ∈ T) (hu : ∀ q ∈ T, q.1 = P → q.2 = X.env.qual ++ "<lambda>")
    (hs : backTo pos (starEach [e] X.env) = (false, eval e X.env) :: backTo pos (starEach [] X.env) := by rfl) :
    PE X (.Call (.Name "sorted" p) [e] [⟨some "key", .Lambda (lamA p0) (lamE p1 p2 p3 p4 p5) lamSc lpos, kpos⟩] pos) (tSortLam X.K T te) := by
  refine ⟨fun pins s σ H Q I h => ?_⟩
  refine wpAny_Call_Name_kw (ld_blt I hg hm boot_sorted ?_)
  refine PyProof.Rows.callWith_kw ?_ hs (by rw [hs]; rfl)
  rw [hs]
  refine Calls.spliced_cons (thn (he.run pins s σ H _ I h) fun u s1 h1 => Calls.spliced_nil ?_)
  obtain ⟨v, H1, I1, r1, l, zs, as, rfl, hl, hd, hlen, hla, hT, q⟩ := h1
  obtain rfl : u = Value.ref l := r1
  show wpAny _ _ (evalAll ((do let v ← eval (.Lambda (lamA p0) (lamE p1 p2 p3 p4 p5) lamSc lpos) X.env; standAt _; pure v) :: [])) _ _ s1
  refine wpAny_evalAll_cons (wpAny_bind (lam_make2 I1 TB hcode hmT hu hT rfl (fun y hy e => ?_) fun f c' pm ctv H2 s2 I2 eN T2 hf hfn hfr hco => wpAny_bind (wpAny_standAt (wpAny_pure (wpAny_evalAll_nil ?_)))))
  · have hy' : y ∈ [(("_law_some" : Str), NameKind.local), (("len" : Str), NameKind.globalImplicit)] := hy
    rcases List.mem_cons.mp hy' with z | z
    · rw [z] at e; cases e
    · rw [List.mem_singleton.mp z] at e; cases e
  · have sx : Sx H1 H2 := extN_sx eN
    have hl2 : SqL X.K H2 l zs := hl.elim (fun r => .inl ((sx _ _).2 r)) .inr
    have hd2 := dpAll_sx sx hd
    obtain ⟨its, rv, pl, hz⟩ := I2.list hl2
    have ee := each_of_dp I2 hd2 rv
    obtain ⟨⟨oc, cvs, ct, hoc, hdc, hvc⟩, _⟩ := I2.hok c' _ hco
    obtain ⟨mb, hb1, hb2⟩ := I2.mod.blt
    have hmb : mb "len" = some (.builtin "len") := (hb2 "len" (by decide)).trans PySem.boot_len
    have hgl := I2.mod.glob.keeps I2.bk
    have hbl := hb1.keeps I2.bk
    show wpAny _ _ (call (.builtin "sorted") [.ref l] [(Str.ofString "key", .ref f)]) _ _ s2
    have hun := hr.un
    refine sorted_key_data (b := false) kLen pl.isList ee ?_ (.inl fun d hd => ?_) (sz_of (by omega)) (fun x _ => ?_) (ksk_s1 _ _) (fun _ => ksk_l1 _ _) (fun _ => ksk_t1 _ _) (fun v x hR hx h tk kp => ?_) fun out oc2 h' tk kp hfr2 hD hol eo => ?_
    · intro d1 h1 d2 h2
      obtain ⟨a, _, rfl⟩ := List.mem_map.mp h1
      obtain ⟨b, _, rfl⟩ := List.mem_map.mp h2
      exact alike_kLen a b
    · obtain ⟨a, _, rfl⟩ := List.mem_map.mp hd
      exact ⟨_, _, rfl⟩
    · have := depth_kLen x
      omega
    · obtain ⟨⟨y, ry, hy⟩, _⟩ := hR
      obtain ⟨a, rfl, hs⟩ := dp_S hy
      obtain rfl : v = Value.ref a := ry
      obtain ⟨tis, tv, ⟨ot, hot, hct, nt, hdt⟩, htz⟩ := I2.tuple hs
      have hxl := hla x hx
      refine lam_turn (s := { s2 with heap := h, toks := tk }) (mg := X.mg) (mb := mb) (its := tis.toArray) (n := nt) hr.depth (kp _ _ hf) ⟨c', oc, cvs, ct, rfl, kp _ _ hoc, hdc, hvc⟩ (hgl.keeps kp) hml (hbl.keeps kp) hmb (I2.nolimit.keeps kp) (kp _ _ hot) hct hdt (by simpa using tv.ints) (by omega)
    · have hn : H2 (s2.heap.objs.size + 1) = none := I2.hok.fresh (Nat.le_succ _)
      obtain ⟨ys, hy1, hy2⟩ := dp_of_each (eo.mono fun _ _ z => z.1)
      have hyl : ys.length ≤ sizeLine := by
        rw [dpAll_len hy2, List.length_map, List.length_mergeSort]
        exact sz_of (by omega)
      exact ⟨.ref (s2.heap.objs.size + 1), _, I2.laid (t' := tk) kp (Nat.le_succ _) (show ObjOk X.prog X.w _ _ _ (.lst ys) from ⟨hyl, out, oc2, hy1, hD⟩), rfl, q H2 _ ys eN T2 hn hy2⟩
end K49
namespace K49
open PySem PySem.Spec PySem.W PyProof.Rows L2 Evl LamX
/-! plain: the law's raw sets, sorted by length -/
theorem inj_kLen (a b : List Int) (h : keyToks (kLen a) = keyToks (kLen b)) : a = b := by
  unfold kLen at h
  rw [toks_tuple, toks_tuple, toksA_cons, toksA_cons, toksA_nil, toksA_cons, toksA_cons, toksA_nil, toks_int, toks_int] at h
  simp only [List.cons_append, List.append_assoc, List.nil_append] at h
  have h1 := (List.cons.inj (List.cons.inj (List.cons.inj h).2).2).2
  exact (one_S a b _ _ h1).1
theorem lin_kLen : Lin (dataLe false kLen) := lin_of kLen inj_kLen
theorem all_sorted : ∀ n < 5, (allSets n).Pairwise fun a b => dataLe false kLen a b = true := by decide +kernel
theorem raw_sorted {n : Nat} (h1 : 1 ≤ n) (h4 : n ≤ 4) : (lawRaw n).mergeSort (dataLe false kLen) = allSets n := lin_kLen.one (raw_perm h1 h4) (all_sorted n (by omega))
theorem raw_ok : ∀ n < 5, (lawRaw n).length ≤ 16 ∧ ∀ s ∈ lawRaw n, s.length ≤ 4 := by decide +kernel
/-- a def whose code object is known -/
structure FunC (K : PySem.W.Frag) (x qual : Str) (st : Stmt) (f : Addr) (fd : FuncData) (c : Addr) : Prop where
  ex : ∃ (oc : Value) (od : Option Addr) (kV doc pm : Value) (an : Option Addr) (ct : Value) (osl : Array (Option Value)),
    fd = PySem.W.fnOf x qual (defArgs st) (defBody st) (defScope st) .none kV doc pm an (.ref c) ct ∧ K.lookup f = some ⟨oc, od, .func fd, osl⟩ ∧ PySem.W.codeIn K (.ref c) qual = true
  kp : PySem.W.keepIn K (.ref f) = true
def lamQ : Str := ("_law_sets" : Str) ++ ".<locals>." ++ "<lambda>"
section
variable {P : Program} {w : World} {K : PySem.W.Frag} {mg : Str → Option Value} {base : Heap} {C T : Addr}
/-! _law_sets -/
def spLSets (K : PySem.W.Frag) (Tt : List (Addr × Str)) : Sp := fun vs H Q _ => ∃ n : Nat, vs = [.int n] ∧ 1 ≤ n ∧ n ≤ 4 ∧ Tabs Tt H ∧ ∀ H' p ys, ExtN H H' → Tabs Tt H' → H' p = some (.lst ys) → DpAll K H' ys ((allSets n).map eS) → Q (.ref p) H'
theorem ok_lsets {f c pT : Addr} {fd : FuncData} {k : Nat} (F : FunC K "_law_sets" "_law_sets" sLSets f fd c) (T' : Txt mg) (TB : TabB base mg c pT) : FnOk P w K mg base CX0 (k + 1) f fd ["_law_offers"] (spLSets K [(pT, lamQ)]) := by
  obtain ⟨oc, od, kV, doc, pm, an, ct, osl, rfl, lk, hcd⟩ := F.ex
  refine fn_of lk hcd scLSets (fun vs H Q E h => ?_) (fun A outer s H vs Q E hr h => ?_)
  · obtain ⟨n, rfl, _⟩ := h
    rfl
  · obtain ⟨n, rfl, n1, n4, hT, q⟩ := h
    have key : PSs (cxOf CX0 P w K mg base ["_law_offers", "_law_found", "_law_offer", "_law_some"] "_law_sets" (defScope sLSets) f (.ref c) A outer s H E).nox (defBody sLSets) _ :=
      pss_cons (ps_set (i := 1) scLSets.nd rfl (.inl rfl) (pe_lst (pa_cons (pe_tup pa_nil) pa_nil)))
      (pss_cons (ps_for PassesOwn.never rfl (pi_range1 (by rfl) T'.range (pa_cons (pv 0) pa_nil)) (pg_name (i := 2) scLSets.nd rfl (.inr rfl))
        (pss_one (ps_set (i := 1) scLSets.nd rfl (.inl rfl) (pe_op op_cat (pv 1) (pe_lc (own := [("_law_some", 3)]) (g := gName 3) (tt := tYes) (te := tOp (rCatA K) (tVar 3) (tTup (tCons (tVar 2) tNil))) rfl scLSets.nd (pi_list (pv 1)) (blkOk_by (N := ["_law_offers", "_law_found", "_law_offer", "_law_some"]) (sc := defScope sLSets) (by decide +kernel))
          (fun _ _ _ _ _ => pg_name (i := 3) scLSets.nd rfl (.inl rfl)) (fun _ _ _ _ _ => pts_nil) (fun _ _ _ _ _ => pe_op op_catA (pv 3) (pe_tup (pa_cons (pv 2) pa_nil))))))))
      (pss_one (ps_ret (pe_sortLam (T := [(pT, lamQ)]) (c := c) (P := pT) hr (by rfl) T'.sorted T'.len (pv 1) TB rfl (by exact List.mem_singleton.mpr rfl) (fun q hq _ => by rw [List.mem_singleton.mp hq]; rfl)))))
    refine ⟨_, key.nox, ?_⟩
    refine q_asgN (K := K) (ds := [eS []]) (en_lst (eds_cons ed_nilT eds_nil) (by show 1 ≤ 100000; decide)) fun p0 xs0 H1 hp0 e1 hx0 hd0 => ?_
    refine q_forR1 (n := (n : Int)) (ea_cons (ev_var rfl) ea_nil) ⟨by omega, by omega⟩ (fun i σ H' => ∃ p xs y z, σ = [some (.int (n : Int)), some (.ref p), y, z] ∧ Ex H H' ∧ H p = none ∧ H' p = some (.lst xs) ∧ DpAll K H' xs ((lawRaw i).map eS))
      (fun H2 e2 => ⟨p0, xs0, _, _, rfl, e1.trans e2, hp0, e2 _ _ hx0, dpAll_mono e2 hd0⟩) (fun i σ H' hi pw => ?_) fun σ H' pw => ?_
    · obtain ⟨p, xs, y, z, rfl, e2, hp, hxs, hds⟩ := pw
      obtain ⟨r1, r2⟩ := raw_ok i (by omega)
      refine s_asgN (ds := (lawRaw (i + 1)).map eS) (en_is (en_catL (K := K) (r := p) (ys := xs) (ev_var rfl) hxs hds (en_lcL (K := K) (as := lawRaw i) (e1 := eS) (e2 := eS) (Tg := fun a => TgN K _ 3 (eS a)) (fun _ => true) (fun s => s ++ [(i : Int)]) (ed_var rfl (.lst (sq_of hxs) hds)) (by omega) flat_S
        (fun a ha x H3 e3 hx Q q => tg_name hx (fun _ => rfl) Q q) (fun a ha σ2 H3 e3 hT => ev_yes) (fun a ha σ2 H3 H4 e3 hT e4 _ => ?_)) ?_) ?_) fun p' xs' H3 hp' e3 hx' hd' => ?_
      · obtain ⟨x, rfl, hx⟩ := hT
        have hal := r2 a ha
        refine ed_is (ed_catT (ed_var rfl (dp_mono e4 hx)) (ed_one (ed_var rfl (.int _))) ?_) ?_
        · rw [List.length_map, List.length_map]
          show a.length + 1 ≤ 100000
          omega
        · show PyData.tuple (a.map PyData.int ++ [PyData.int _]) = eS (a ++ [_])
          unfold eS
          rw [List.map_append]
          rfl
      · have := lcRes_len (fun _ => true) (fun s => s ++ [(i : Int)]) eS (lawRaw i)
        rw [List.length_map]
        omega
      · rw [lcRes_all, ← List.map_append]
        rfl
      · exact ⟨p', xs', _, _, rfl, e2.trans e3, fresh_back e2 hp', hx', hd'⟩
    · obtain ⟨p, xs, y, z, rfl, e2, hp, hxs, hds⟩ := pw
      have hn : ((n : Int)).toNat = n := by omega
      rw [hn] at hds
      obtain ⟨r1, r2⟩ := raw_ok n (by omega)
      refine ⟨.ref p, rfl, p, xs, lawRaw n, rfl, sq_of hxs, hds, by omega, fun a ha => by have := r2 a ha; omega, hT.ext e2, fun H2 r ys eN T2 hr2 hy => ?_⟩
      rw [raw_sorted n1 n4] at hy
      have e3 : Ex H2 (upd H2 r (.lst ys)) := Ex.new hr2
      exact q _ r ys (fun b o hb hn => e3 _ _ (eN _ _ (e2 _ _ hb) hn)) (T2.ext e3) upd_same (dpAll_mono e3 hy)
end
end K49
namespace K49
open PySem PySem.Spec PySem.W PyProof.Rows L2 Evl LamX
section
variable {K : PySem.W.Frag} {σ : L2.St} {H G : Hp} {tl : TE} {α : Type} {as : List α} {e1 : α → PyData} {g : TG} {tu tz : TS} {D : Ends} {v : V}
/-- over a list of any data that a part of the heap holds, which stays -/
theorem s_forG (h : Ev tl σ H v) (eG : Ex G H) (hv : Dp K G v (.list (as.map e1))) (Pv : List α → L2.St → Hp → Prop) (h0 : ∀ H1, Ex H H1 → Pv [] σ H1) (hk : ∀ l σ' H', Pv l σ' H' → Ex G H')
    (hg : ∀ l a r, as = l ++ a :: r → ∀ x σ' H', Pv l σ' H' → Dp K G x (e1 a) → g x σ' H' fun σ2 H2 => tu { D with nx := Pv (l ++ [a]), ct := Pv (l ++ [a]), bk := D.nx } σ2 H2) (hd : ∀ σ' H', Pv as σ' H' → D.nx σ' H') : tFor (iList K tl) g tu D σ H :=
  h H (Ex.refl H) _ fun H1 ev => by
    obtain ⟨a, xs, rfl, hs, hx⟩ := dp_lst hv
    have hlen : xs.length = as.length := by rw [dpAll_len hx, List.length_map]
    refine ⟨a, rfl, ⟨xs, ex_l (eG.trans ev) hs⟩, for_list (xs := xs) (fun i σ' H' => Pv (as.take i) σ' H') (h0 H1 ev) (fun i σ' H' _ w => ex_l (hk _ _ _ w) hs) (fun i x σ' H' hi w => ?_) fun σ' H' w => ?_⟩
    · obtain ⟨d, hd', hxd⟩ := dpAll_at hx hi
      rw [List.getElem?_map] at hd'
      obtain ⟨b, hb, rfl⟩ := Option.map_eq_some_iff.mp hd'
      rw [take_snoc hb]
      exact hg _ b _ (split_at hb) x σ' H' w hxd
    · rw [hlen, List.take_length] at w
      exact hd σ' H' w
theorem q_forG (h : Ev tl σ H v) (eG : Ex G H) (hv : Dp K G v (.list (as.map e1))) (Pv : List α → L2.St → Hp → Prop) (h0 : ∀ H1, Ex H H1 → Pv [] σ H1) (hk : ∀ l σ' H', Pv l σ' H' → Ex G H')
    (hg : ∀ l a r, as = l ++ a :: r → ∀ x σ' H', Pv l σ' H' → Dp K G x (e1 a) → g x σ' H' fun σ2 H2 => tu { D with nx := Pv (l ++ [a]), ct := Pv (l ++ [a]), bk := tz D } σ2 H2) (hd : ∀ σ' H', Pv as σ' H' → tz D σ' H') : tSeq (tFor (iList K tl) g tu) tz D σ H :=
  s_forG (D := { D with nx := tz D }) h eG hv Pv h0 hk hg hd
end
/-- a row, the rows -/
def eR (r : List Int) : PyData := .list (r.map .int)
def eL (L : List (List Int)) : PyData := .list (L.map eR)
theorem lay_R (r : List Int) : (eR r).canLay0 = true := by
  unfold eR
  rw [PyData.canLay0]
  exact lay_map lay_int r
theorem depth_R (r : List Int) : (eR r).depth ≤ 1 := by
  unfold eR
  rw [PyData.depth]
  have := depth_map (e := PyData.int) (n := 0) (fun a => Nat.le_of_eq (depth_int a)) r
  omega
theorem shaped_R (s : List Int) : SeqAt.shaped (eR s) = true := shaped_of (lay_R s) (depth_R s) (by decide)
theorem eqv_R (a b : List Int) : PyData.eqv (eR a) (eR b) = decide (a = b) := by
  unfold eR
  rw [PyData.eqv]
  exact eqv_map eqv_int a b
theorem ed_nilL {K : PySem.W.Frag} {σ : L2.St} {H : Hp} : EvD K (tLst tNil) σ H (eR []) := EvN.toD (en_lst eds_nil (Nat.zero_le _))
/-- the keys behind a put -/
theorem putK_keys {kvs : List (Key × V)} {ks : List Int} (x : Int) (v : V) (h : kvs.map (·.1) = ks.map Sum.inl) : (putK kvs (Sum.inl x : Key) v).map (·.1) = (if x ∈ ks then ks else ks ++ [x]).map Sum.inl := by
  have hany : (kvs.any fun kv => decide (kv.1 = (Sum.inl x : Key))) = true ↔ x ∈ ks := by
    rw [List.any_eq_true]
    constructor
    · rintro ⟨kv, h1, h2⟩
      have h3 : (Sum.inl x : Key) ∈ kvs.map (·.1) := List.mem_map.mpr ⟨kv, h1, of_decide_eq_true h2⟩
      rw [h] at h3
      obtain ⟨y, hy, e⟩ := List.mem_map.mp h3
      rw [← Sum.inl.inj e]
      exact hy
    · intro hx
      have h3 : (Sum.inl x : Key) ∈ kvs.map (·.1) := by rw [h]; exact List.mem_map.mpr ⟨x, hx, rfl⟩
      obtain ⟨kv, h1, e⟩ := List.mem_map.mp h3
      exact ⟨kv, h1, decide_eq_true e⟩
  unfold putK
  by_cases c : x ∈ ks
  · rw [if_pos (hany.mpr c), if_pos c, ← h, List.map_map]
    refine List.map_congr_left fun kv _ => ?_
    show (if kv.1 = (Sum.inl x : Key) then (kv.1, v) else kv).1 = kv.1
    split <;> rfl
  · rw [if_neg (fun z => c (hany.mp z)), if_neg c, List.map_append, List.map_append, h]
    rfl
section
variable {P : Program} {w : World} {K : PySem.W.Frag} {mg : Str → Option Value} {base : Heap} {C T : Addr}
/-! _law_taken -/
def rLTaken : Hp → List AS → PyData → Prop := fun _ as d => ∃ (L : List (List Int)) (s : List Int), as = [.inr (eL L), .inr (eS s)] ∧ s.Pairwise (· < ·) ∧ L.length ≤ 50 ∧ (∀ r ∈ L, r.length ≤ 100) ∧ d = eS (taken L s)
theorem ok_ltaken {f : Addr} {fd : FuncData} {k : Nat} (F : Fun K "_law_taken" "_law_taken" sLTaken f fd) (T' : Txt mg) : FnOk P w K mg base CX0 (k + 1) f fd ["_law_lists_here", "_law_some"] (spA K rLTaken) := by
  refine F.ok scLTaken (fun vs H Q E h => ?_) (fun cdv A outer s H vs Q E hr h => ?_)
  · obtain ⟨as, d, h, ⟨L, s, rfl, _⟩, _⟩ := h
    exact h.len
  · obtain ⟨as, d, h, ⟨L, st, rfl, hp, hl, hlr, rfl⟩, q⟩ := h
    obtain ⟨v1, vs, rfl, h1, h⟩ := h.hd
    obtain ⟨v2, vs, rfl, h2, h⟩ := h.hd
    obtain rfl := h.nilv
    have hu := hu_64 hr
    refine ⟨_, pss_cons (ps_set (i := 2) scLTaken.nd rfl (.inl rfl) pe_dnewK)
      (pss_cons (ps_for PassesOwn.never rfl (pi_list (pv 0)) (pg_name (i := 3) scLTaken.nd rfl (.inl rfl))
        (pss_cons (ps_setLc (i := 4) (own := [("_law_offer", 5)]) (g := gName 5) (tt := tTest (tOp (rIn K false) (tVar 5) (tVar 1))) rfl scLTaken.nd rfl rfl (sw_true rfl rfl rfl (by decide +kernel)) (pi_list (pv 3)) (blkOk_by (N := ["_law_lists_here", "_law_some", "_law_found", "_law_row", "_law_there", "_law_offer"]) (sc := defScope sLTaken) (by decide +kernel))
            (fun _ _ _ _ _ => pg_name (i := 5) scLTaken.nd rfl (.inl rfl)) (fun _ _ _ _ _ => pts_one (pt_cmpR op_in_seq (pv 5) (pv 1) (by with_unfolding_all rfl))) (fun _ _ _ _ _ => pv 5))
        (pss_one (ps_if (pt_cmpR (op_neD hu) (pv 4) (pe_lst pa_nil) (nomark _)) (pss_one (ps_dput (hu_of hr) (pv 2) (pe_ix ix_list (pv 4) pe_int (fun _ _ => rfl)) pe_bl rfl)) pss_nil))))
      (pss_one (ps_ret (pe_callTy call_tuple_of (by rfl) T'.tuple boot_tup' (pa_cons (pe_callB (call_sortedDI rfl) (by rfl) T'.sorted boot_sorted (pa_cons (pv 2) pa_nil)) pa_nil))))), ?_⟩
    intro dd hdd
    refine q_forG (K := K) (as := L) (e1 := eR) (ev_var rfl) (Ex.new hdd) h1 (fun l σ H' => Ex H H' ∧ (∃ x3 x4 x5, σ = [some v1, some v2, some (.ref dd), x3, x4, x5]) ∧ ∃ kvs ks, H' dd = some (.dK kvs) ∧ kvs.map (·.1) = ks.map Sum.inl ∧ ks.Nodup ∧ ks.length ≤ l.length ∧ ∀ x, x ∈ ks ↔ ∃ r ∈ l, firstIn r st = some x)
      (fun H1 e1 => ⟨(Ex.new hdd).trans e1, ⟨_, _, _, rfl⟩, [], [], e1 _ _ upd_same, rfl, List.nodup_nil, Nat.le_refl _, fun x => by simp⟩) (fun l σ H' pw => pw.1) (fun l r rr hsp x σ H' pw hx => ?_) fun σ H' pw => ?_
    · obtain ⟨e1, ⟨x3, x4, x5, rfl⟩, kvs, ks, hd1, hks, hnd, hkl, hmem⟩ := pw
      have hrl := hlr r (by rw [hsp]; simp)
      refine q_asgN (ds := (r.filter fun o => decide (o ∈ st)).map .int) (en_is (en_lcL (K := K) (as := r) (e1 := PyData.int) (e2 := PyData.int) (Tg := fun a => TgN K _ 5 (.int a)) (fun o => decide (o ∈ st)) id (ed_var rfl (dp_mono e1 hx)) (by omega) flat_int
        (fun a ha x H1 e1 hx Q q => tg_name hx (fun _ => rfl) Q q) (fun o ho σ2 H2 e2 hT => ?_) (fun o ho σ2 H2 H3 e2 hT e3 _ => ?_)) (lcRes_id _ _)) fun pt ys H3 hpt e3 hys hdy => ?_
      · obtain ⟨y, rfl, hy⟩ := hT
        exact et_test (ev_inS (ed_var rfl hy) (ed_var rfl (dp_mono (e1.trans e2) h2)))
      · obtain ⟨y, rfl, hy⟩ := hT
        exact ed_var rfl (dp_mono e3 hy)
      have hthere : Dp K H3 (.ref pt) (eR (r.filter fun o => decide (o ∈ st))) := .lst (sq_of hys) hdy
      have hfind : (r.filter fun o => decide (o ∈ st)).head? = firstIn r st := by
        unfold firstIn
        rw [List.head?_filter]
      refine s_when (b := decide ((r.filter fun o => decide (o ∈ st)) ≠ [])) (et_is (et_test (ev_neD (ed_var rfl hthere) ed_nilL (shaped_R _) (shaped_R _))) ?_) (fun hb H4 e4 => ?_) fun hb H4 e4 => ?_
      · rw [eqv_R]
        by_cases e : (r.filter fun o => decide (o ∈ st)) = [] <;> simp [e]
      · have hne := of_decide_eq_true hb
        obtain ⟨y, t, hyt⟩ : ∃ y t, (r.filter fun o => decide (o ∈ st)) = y :: t := List.exists_cons_of_ne_nil hne
        rw [hyt] at hfind
        have hd4 := e4 _ _ (e3 _ _ hd1)
        refine ⟨.ref dd, rfl, ?_⟩
        refine (EvD.int (n := y) (ed_ixL (K := K) (ta := tVar 4) (tb := tC (.int 0)) (ds := (r.filter fun o => decide (o ∈ st)).map .int) (i := 0) (ed_var rfl (dp_mono e4 hthere)) ev_c (by rw [hyt]; exact atI_nn (by decide) rfl))) H4 (Ex.refl _) _ fun H5 e5 => ?_
        have hd5 := e5 _ _ hd4
        refine ⟨dd, _, rfl, DPut.k (k := Sum.inl y) hd5 ?_, ?_⟩
        · have := congrArg List.length hks
          rw [List.length_map, List.length_map] at this
          have := congrArg List.length hsp
          rw [List.length_append] at this
          exact sz_lt (by omega)
        · refine ⟨Ex.mut ((e1.trans e3).trans (e4.trans e5)) hdd, ⟨_, _, _, rfl⟩, _, _, upd_same, putK_keys y _ hks, ?_, ?_, fun x => ?_⟩
          · split
            · exact hnd
            · rename_i hno
              rw [List.nodup_append]
              exact ⟨hnd, by simp, fun a ha b hb e => by rw [List.mem_singleton] at hb; exact hno (hb ▸ e ▸ ha)⟩
          · split
            · rw [List.length_append]
              exact Nat.le_trans hkl (Nat.le_add_right _ _)
            · rw [List.length_append, List.length_append]
              exact Nat.add_le_add_right hkl 1
          · have hf : firstIn r st = some y := hfind.symm
            have hiff : x ∈ (if y ∈ ks then ks else ks ++ [y]) ↔ x ∈ ks ∨ x = y := by
              split
              · rename_i hyes
                exact ⟨.inl, fun h => h.elim id fun e => e ▸ hyes⟩
              · rw [List.mem_append, List.mem_singleton]
            rw [hiff, hmem]
            constructor
            · rintro (⟨r', h1', h2'⟩ | rfl)
              · exact ⟨r', List.mem_append_left _ h1', h2'⟩
              · exact ⟨r, by simp, hf⟩
            · rintro ⟨r', h1', h2'⟩
              rcases List.mem_append.mp h1' with h1' | h1'
              · exact .inl ⟨r', h1', h2'⟩
              · rw [List.mem_singleton] at h1'
                rw [h1', hf] at h2'
                exact .inr (Option.some.inj h2').symm
      · have he : (r.filter fun o => decide (o ∈ st)) = [] := by
          by_cases e : (r.filter fun o => decide (o ∈ st)) = []
          · exact e
          · rw [decide_eq_true e] at hb
            cases hb
        rw [he] at hfind
        have hf : firstIn r st = none := hfind.symm
        refine ⟨(e1.trans e3).trans e4, ⟨_, _, _, rfl⟩, kvs, ks, e4 _ _ (e3 _ _ hd1), hks, hnd, by rw [List.length_append]; omega, fun x => ?_⟩
        rw [hmem]
        constructor
        · rintro ⟨r', h1', h2'⟩
          exact ⟨r', List.mem_append_left _ h1', h2'⟩
        · rintro ⟨r', h1', h2'⟩
          rcases List.mem_append.mp h1' with h1' | h1'
          · exact ⟨r', h1', h2'⟩
          · rw [List.mem_singleton] at h1'
            rw [h1', hf] at h2'
            cases h2'
    · obtain ⟨e1, ⟨x3, x4, x5, rfl⟩, kvs, ks, hd1, hks, hnd, hkl, hmem⟩ := pw
      refine ⟨.ref dd, rfl, dd, kvs, ks, rfl, .inl hd1, hks, by omega, fun ys p hperm hpw hpn => ?_⟩
      have hys : ys = taken L st := by
        rw [← taken_sort hp hnd hmem]
        refine (lin_leZ.one hperm.symm (hpw.imp fun {a b} h => decide_eq_true h)).symm
      refine ⟨p, _, rfl, .inl ⟨sq_of upd_same, fun l hl => ?_⟩⟩
      have e2 : Ex H' (upd H' p (.lst (ys.map V.int))) := Ex.new hpn
      refine q _ _ ((e1.trans e2).trans (Ex.new hl)) (S_dp ?_)
      rw [← hys]
      exact st_of upd_same
end
end K49
namespace K49
open PySem PySem.Spec PySem.W PyProof.Rows L2 Evl LamX
/-! the deck -/
theorem k12 : ¬ (("rest" : Str) = "mixed") := by decide +kernel
theorem k13 : ¬ (("rest" : Str) = "draws") := by decide +kernel
theorem k23 : ¬ (("mixed" : Str) = "draws") := by decide +kernel
theorem k21 : ¬ (("mixed" : Str) = "rest") := by decide +kernel
theorem k31 : ¬ (("draws" : Str) = "rest") := by decide +kernel
theorem k32 : ¬ (("draws" : Str) = "mixed") := by decide +kernel
def deckV (r : Addr) (m k : Int) : List (Key × V) := [(Sum.inr "rest", .ref r), (Sum.inr "mixed", .int m), (Sum.inr "draws", .int k)]
theorem deck_rest (r : Addr) (m k : Int) : valV (deckV r m k) (Sum.inr "rest") = some (.ref r) := by simp [deckV, valV]
theorem deck_mixed (r : Addr) (m k : Int) : valV (deckV r m k) (Sum.inr "mixed") = some (.int m) := by simp [deckV, valV, k12]
theorem deck_draws (r : Addr) (m k : Int) : valV (deckV r m k) (Sum.inr "draws") = some (.int k) := by simp [deckV, valV, k13, k23]
theorem deck_put (r : Addr) (m k j : Int) : putK (deckV r m k) (Sum.inr "draws" : Key) (.int j) = deckV r m j := by simp [deckV, putK, k13, k23]
theorem deck_new (r : Addr) (m k : Int) : mergeK [] (deckV r m k) = deckV r m k := by simp [deckV, mergeK, putK, k12, k13, k23, k21, k31, k32]
/-- a deck at d, its rest at r, at most b draws so far -/
structure Deck (H : Hp) (d r : Addr) (b : Nat) : Prop where
  ex : ∃ (m k : Int) (ns : List Int), H d = some (.dK (deckV r m k)) ∧ H r = some (.lst (ns.map V.int)) ∧ 0 ≤ k ∧ k ≤ b ∧ ns.length ≤ 64
theorem Deck.mono {H H' : Hp} {d r : Addr} {b : Nat} (e : Ex H H') (h : Deck H d r b) : Deck H' d r b := by
  obtain ⟨m, k, ns, h1, h2, h3⟩ := h.ex
  exact ⟨m, k, ns, e _ _ h1, e _ _ h2, h3⟩
/-- all but the deck is as it was -/
def Bd (d r : Addr) (H H' : Hp) : Prop := ∀ a o, a ≠ d → a ≠ r → H a = some o → H' a = some o
theorem Bd.of {d r : Addr} {H H' : Hp} (e : Ex H H') : Bd d r H H' := fun a o _ _ h => e a o h
theorem Bd.trans {d r : Addr} {H H1 H2 : Hp} (a : Bd d r H H1) (b : Bd d r H1 H2) : Bd d r H H2 := fun x o h h' q => b x o h h' (a x o h h' q)
theorem Bd.u1 {d r : Addr} {H : Hp} {o : HO} : Bd d r H (upd H d o) := fun a u h _ q => by rw [upd_ne h]; exact q
theorem Bd.u2 {d r : Addr} {H : Hp} {o : HO} : Bd d r H (upd H r o) := fun a u _ h q => by rw [upd_ne h]; exact q
theorem Bd.ex {d r : Addr} {G H H' : Hp} (e : Ex G H) (h1 : G d = none) (h2 : G r = none) (b : Bd d r H H') : Ex G H' := fun a o ha => b a o (ne_of_none ha h1) (ne_of_none ha h2) (e a o ha)
theorem ev_dget {σ : L2.St} {H : Hp} {td : TE} {d : Addr} {kvs : List (Key × V)} {x : Str} {v : V} (hd : Ev td σ H (.ref d)) (h : H d = some (.dK kvs)) (hv : valV kvs (Sum.inr x) = some v) : Ev (tDGet td (tC (.str x))) σ H v := fun H1 e Q q =>
  hd H1 e _ fun H2 e2 => ⟨d, v, rfl, hv ▸ DGet.k (k := Sum.inr x) ((e.trans e2) _ _ h), q H2 e2⟩
section
variable {P : Program} {w : World} {K : PySem.W.Frag} {mg : Str → Option Value} {base : Heap}
theorem q_parNC {K : PySem.W.Frag} {σ : L2.St} {H : Hp} {ta tb : TE} {ds : List PyData} {v : V} {i j : Nat} {D : Ends} {tz : TS} (ha : EvN K ta σ H ds) (hb : ∀ {H1}, Ev tb σ H1 v)
    (k : ∀ p xs H1, H p = none → Ex H H1 → H1 p = some (.lst xs) → DpAll K H1 xs ds → tz D ((σ.set i (some (.ref p))).set j (some v)) H1) :
    tSeq (tPar i j (tCons ta (tCons tb tNil))) tz D σ H := ha H (Ex.refl H) _ fun p xs H1 hp e1 hx hd => hb H1 (Ex.refl H1) _ fun H2 e2 =>
  ⟨_, _, rfl, k p xs H2 hp (e1.trans e2) (e2 _ _ hx) (dpAll_mono e2 hd)⟩
/-! _law_deck -/
def spDeck (K : PySem.W.Frag) : Sp := fun vs H Q _ => ∃ (a : Addr) (ns : List Int), vs = [.ref a] ∧ SqL K H a (ns.map V.int) ∧ ns.length ≤ 63 ∧ ∀ d r H', H d = none → H r = none → Ex H H' → Deck H' d r 0 → Q (.ref d) H'
theorem ok_deck {f : Addr} {fd : FuncData} {k : Nat} (F : Fun K "_law_deck" "_law_deck" sLDeck f fd) (T' : Txt mg) : FnOk P w K mg base CX0 (k + 1) f fd ["_law_script"] (spDeck K) := by
  refine F.ok scLDeck (fun vs H Q E h => ?_) (fun cdv A outer s H vs Q E hr h => ?_)
  · obtain ⟨a, ns, rfl, _⟩ := h
    rfl
  · obtain ⟨a, ns, rfl, ha, hl, q⟩ := h
    refine ⟨_, pss_cons (ps_par (i := 2) (j := 3) rfl scLDeck.nd rfl rfl (by decide) rfl rfl (pa_cons (pe_lc (own := [("_law_cell", 1)]) (g := gName 1) (tt := tYes) rfl scLDeck.nd (pi_list (pe_slice sl_list (pv 0) po_none (po_some pe_int)))
          (blkOk_by (N := ["_law_script", "_law_cell", "_law_rest", "_law_mixed"]) (sc := defScope sLDeck) (by decide +kernel)) (fun _ _ _ _ _ => pg_name (i := 1) scLDeck.nd rfl (.inl rfl)) (fun _ _ _ _ _ => pts_nil)
          (fun _ _ _ _ _ => pe_op op_mod (pe_callTy call_int1 (by rfl) T'.int boot_int' (pa_cons (pv 1) pa_nil)) (pe_op op_add (pe_op op_pow pe_int pe_int) pe_int))) (pa_cons pe_int pa_nil)) (by rfl))
      (pss_cons (ps_for PassesOwn.never rfl (pi_list (pv 2)) (pg_name (i := 1) scLDeck.nd rfl (.inl rfl))
        (pss_one (ps_set (i := 3) scLDeck.nd rfl (.inl rfl) (pe_op op_mod (pe_op op_add (pe_op op_add (pe_op op_mul (pv 3) pe_int) (pv 1)) pe_int) pe_int))))
      (pss_one (ps_ret (pe_disp (pps_cons pe_str (pe_revL (pv 2)) (pps_cons pe_str (pv 3) (pps_cons pe_str pe_int pps_nil))) rfl rfl (by simp) (by decide))))), ?_⟩
    obtain ⟨ns', hl', hcut⟩ : ∃ ns' : List Int, ns'.length ≤ 63 ∧ cutV (ns.map V.int) none (some 64) = ns'.map V.int := by
      refine ⟨_, ?_, by unfold cutV; rw [← List.map_drop, ← List.map_take]⟩
      rw [List.length_take, List.length_drop]
      omega
    refine q_parNC (K := K) (ds := (ns'.map fun n => n % (10 ^ (18 : Int).toNat + 9)).map PyData.int) (v := .int 10872034) (en_is (en_lcL (K := K) (as := ns') (e1 := PyData.int) (e2 := PyData.int) (Tg := fun a => TgN K _ 1 (.int a)) (fun _ => true) (fun n => n % (10 ^ (18 : Int).toNat + 9)) (fun H1 e1 Q q => ?_) (by omega) flat_int
      (fun a ha x H1 e1 hx Q q => tg_name hx (fun _ => rfl) Q q) (fun n hn σ2 H2 e2 hT => ev_yes) (fun n hn σ2 H2 H3 e2 hT e3 _ => ?_)) (lcRes_all _ _)) ev_c fun p xs H1 hp e1 hx hd => ?_
    · refine ⟨.ref a, rfl, ?_⟩
      refine ⟨64, rfl, a, ns.map V.int, rfl, ex_l e1 ha, fun c hc => ?_⟩
      rw [hcut]
      exact q _ _ (Ex.new hc) (.lst (sq_of upd_same) (ints_dpAll ns'))
    · obtain ⟨x, rfl, hx⟩ := hT
      refine ed_int (ev_op (x := .int n) (fun H4 e4 Q q => (EvD.int (ed_var (K := K) rfl (dp_mono e3 hx))) H4 e4 _ fun H5 e5 => Or.inl ⟨n, rfl, q H5 e5⟩) (ev_op (ev_op ev_c ev_c (rv_I ⟨by decide, by decide, by decide⟩)) ev_c rv_I0) (rv_I (by decide)))
    obtain rfl := dpAll_ints hd
    refine q_forL (a := p) (ev_var rfl) (sq_of hx) (fun i σ H' => Ex H1 H' ∧ ∃ c mm, σ = [some (.ref a), c, some (.ref p), some (.int mm)]) (fun H2 e2 => ⟨e2, _, _, rfl⟩) (fun i σ H' _ pw => ex_l pw.1 (sq_of hx)) (fun i x σ H' hi pw => ?_) fun σ H' pw => ?_
    · obtain ⟨e2, c, mm, rfl⟩ := pw
      obtain ⟨z, hz, rfl⟩ : ∃ z, (ns'.map fun n => n % (10 ^ (18 : Int).toNat + 9))[i]? = some z ∧ V.int z = x := by
        rw [List.getElem?_map] at hi
        exact Option.map_eq_some_iff.mp hi
      refine s_asg (ev_op (ev_op (ev_op (ev_op (ev_var rfl) ev_c (rv_I (.inr ⟨by decide, by decide⟩))) (ev_var rfl) rv_I0) ev_c rv_I0) ev_c (rv_I (by decide))) fun H3 e3 => ⟨e2.trans e3, _, _, rfl⟩
    · obtain ⟨e2, c, mm, rfl⟩ := pw
      intro d hd2
      have e3 : Ex H' (upd H' d (.dK [])) := Ex.new hd2
      have hp3 := e3 _ _ (e2 _ _ hx)
      refine ⟨.ref p, rfl, p, _, rfl, sq_of hp3, fun r hr2 => ?_⟩
      have e4 : Ex (upd H' d (.dK [])) (upd (upd H' d (.dK [])) r (.lst (((ns'.map fun n => n % (10 ^ (18 : Int).toNat + 9)).map V.int).reverse))) := Ex.new hr2
      refine ⟨.int mm, rfl, e4 _ _ upd_same, deckV r mm 0, rfl, by show 3 ≤ 15; decide, ?_⟩
      rw [deck_new]
      have hdr : d ≠ r := (ne_of_none upd_same hr2)
      have e13 := e1.trans e2
      refine q d r _ (fresh_back e13 hd2) (fresh_back (e13.trans e3) hr2) (Ex.mut ((e13.trans e3).trans e4) (fresh_back e13 hd2)) ⟨mm, 0, (ns'.map fun n => n % (10 ^ (18 : Int).toNat + 9)).reverse, upd_same, ?_, Int.le_refl _, Int.le_refl _, ?_⟩
      · rw [upd_ne hdr.symm, upd_same, List.map_reverse]
      · rw [List.length_reverse, List.length_map]
        omega
end
end K49
namespace K49
open PySem PySem.Spec PySem.W PyProof.Rows L2 Evl LamX
theorem mod_in {a b : Int} (h : 0 < b) : 0 ≤ a % b ∧ a % b < b := ⟨Int.emod_nonneg _ (by omega), Int.emod_lt_of_pos _ h⟩
section
variable {P : Program} {w : World} {K : PySem.W.Frag} {mg : Str → Option Value} {base : Heap}
/-! _law_draw -/
def spDraw : Sp := fun vs H Q _ => ∃ (d r : Addr) (b : Nat) (n : Int), vs = [.ref d, .int n] ∧ Deck H d r b ∧ d ≠ r ∧ b ≤ 1000000 ∧ 1 ≤ n ∧ n ≤ 1000000 ∧ ∀ x H', 0 ≤ x → x < n → Deck H' d r (b + 1) → Bd d r H H' → Q (.int x) H'
theorem ok_draw {f : Addr} {fd : FuncData} {k : Nat} (F : Fun K "_law_draw" "_law_draw" sLDraw f fd) : FnOk P w K mg base CX0 (k + 1) f fd ["_law_deck_here", "_law_below"] spDraw := by
  refine F.ok scLDraw (fun vs H Q E h => ?_) (fun cdv A outer s H vs Q E hr h => ?_)
  · obtain ⟨d, r, b, n, rfl, _⟩ := h
    rfl
  · obtain ⟨d, r, b, n, rfl, dk, hdr, hb, n1, n2, q⟩ := h
    have hu := hu_of hr
    refine ⟨_, pss_cons (ps_dput hu (pv 0) pe_str (pe_op op_add (pe_dget hu (pv 0) pe_str (fun _ _ => rfl)) pe_int) rfl)
      (pss_cons (ps_if (pt_cmpR (op_neD (hu_64 hr)) (pe_dget hu (pv 0) pe_str (fun _ _ => rfl)) (pe_lst pa_nil) (nomark _))
        (pss_cons (ps_set (i := 2) scLDraw.nd rfl (.inl rfl) (pe_bm0 PySem.F.plainAttrs_list PySem.F.slot_list_pop PySem.F.type_list_pop mt_pop (pe_dget hu (pv 0) pe_str (fun _ _ => rfl))))
        (pss_cons (ps_if (pt_cmpR op_ge (pv 2) (pe_op op_pow pe_int pe_int) (nomark _))
          (pss_one (ps_expr (pe_bm PySem.F.plainAttrs_list PySem.F.slot_list_append PySem.F.type_list_append mt_append (pe_dget hu (pv 0) pe_str (fun _ _ => rfl)) (pa_cons (pe_op op_fdiv (pv 2) (pv 1)) pa_nil)))) pss_nil)
        (pss_one (ps_ret (pe_op op_mod (pv 2) (pv 1)))))) pss_nil)
      (pss_cons (ps_set (i := 3) scLDraw.nd rfl (.inl rfl) (pe_op op_mod (pe_op op_add (pe_dget hu (pv 0) pe_str (fun _ _ => rfl)) (pe_op op_mul (pe_op op_mul pe_int (pe_dget hu (pv 0) pe_str (fun _ _ => rfl))) (pe_dget hu (pv 0) pe_str (fun _ _ => rfl)))) pe_int))
      (pss_one (ps_ret (pe_op op_mod (pe_op op_fdiv (pe_op op_mod (pe_op op_mul (pv 3) pe_int) pe_int) pe_int) (pv 1)))))), ?_⟩
    obtain ⟨m, j, ns, h1, h2, j0, jb, hns⟩ := dk.ex
    -- draws + 1
    refine (ev_op (ev_dget (ev_var rfl) h1 (deck_draws r m j)) (ev_c (v := .int 1)) rv_I0) H (Ex.refl H) _ fun H1 e1 => ?_
    refine ⟨.ref d, rfl, d, _, rfl, DPut.k (k := Sum.inr "draws") (e1 _ _ h1) (by show 3 < sizeLine; decide), ?_⟩
    rw [deck_put]
    have hd1 : (upd H1 d (.dK (deckV r m (j + 1)))) d = some (.dK (deckV r m (j + 1))) := upd_same
    have hr1 : (upd H1 d (.dK (deckV r m (j + 1)))) r = some (.lst (ns.map V.int)) := by rw [upd_ne hdr.symm]; exact e1 _ _ h2
    have b1 : Bd d r H (upd H1 d (.dK (deckV r m (j + 1)))) := (Bd.of e1).trans Bd.u1
    generalize hH2 : upd H1 d (.dK (deckV r m (j + 1))) = H2 at hd1 hr1 b1
    have dr : Dp K H2 (.ref r) (eR ns) := .lst (sq_of hr1) (ints_dpAll ns)
    refine q_when (b := decide (ns ≠ [])) (et_is (et_test (ev_neD (K := K) (d := eR ns) (ed_of (ev_dget (ev_var rfl) hd1 (deck_rest r m (j + 1))) dr) ed_nilL (shaped_R _) (shaped_R _))) ?_) (fun hne H3 e3 => ?_) fun hne H3 e3 => ?_
    · rw [eqv_R]
      by_cases e : ns = [] <;> simp [e]
    · have hns0 := of_decide_eq_true hne
      have hd3 := e3 _ _ hd1
      have hr3 := e3 _ _ hr1
      refine (ev_dget (ev_var rfl) hd3 (deck_rest r m (j + 1))) H3 (Ex.refl _) _ fun H4 e4 => ?_
      have hd4 := e4 _ _ hd3
      have hr4 := e4 _ _ hr3
      obtain ⟨z, hz⟩ : ∃ z, ns[ns.length - 1]? = some z := ⟨_, List.getElem?_eq_getElem (by have := List.length_pos_iff.mpr hns0; omega)⟩
      refine ⟨.inl ⟨rfl, _, sq_of hr4⟩, r, _, .int z, rfl, rfl, hr4, by rw [List.length_map, List.getElem?_map, hz]; rfl, ?_⟩
      have hd5 : (upd H4 r (.lst (ns.map V.int).dropLast)) d = some (.dK (deckV r m (j + 1))) := by rw [upd_ne hdr]; exact hd4
      have hr5 : (upd H4 r (.lst (ns.map V.int).dropLast)) r = some (.lst (ns.dropLast.map V.int)) := by rw [upd_same, List.map_dropLast]
      have b5 : Bd d r H (upd H4 r (.lst (ns.map V.int).dropLast)) := (b1.trans (Bd.of (e3.trans e4))).trans Bd.u2
      generalize upd H4 r (.lst (ns.map V.int).dropLast) = H5 at hd5 hr5 b5
      have hzm := mod_in (a := z) (b := n) (by omega)
      refine q_when (et_test (ev_op (ev_var rfl) (ev_op ev_c ev_c (rv_I ⟨by decide, by decide, by decide⟩)) rv_I0)) (fun _ H6 e6 => ?_) fun _ H6 e6 => ?_
      · refine (ev_dget (ev_var rfl) (e6 _ _ hd5) (deck_rest r m (j + 1))) H6 (Ex.refl _) _ fun H7 e7 => ?_
        have hr7 := e7 _ _ (e6 _ _ hr5)
        have hd7 := e7 _ _ (e6 _ _ hd5)
        refine ⟨.inl ⟨rfl, _, sq_of hr7⟩, ?_⟩
        refine (ea_cons (ev_op (ev_var rfl) (ev_var rfl) (rv_I (⟨by omega, by omega⟩ : CDiv z n))) ea_nil) H7 (Ex.refl _) _ fun H8 e8 => ?_
        have hr8 := e8 _ _ hr7
        have hd8 := e8 _ _ hd7
        refine ⟨r, _, .int (z / n), rfl, rfl, hr8, ?_, ?_⟩
        · rw [List.length_map, List.length_dropLast]
          exact sz_lt (by omega)
        have b9 : Bd d r H (upd H8 r (.lst (ns.dropLast.map V.int ++ [V.int (z / n)]))) := (b5.trans (Bd.of ((e6.trans e7).trans e8))).trans Bd.u2
        refine (ev_op (ev_var rfl) (ev_var rfl) (rv_I (C := fun _ j => (0 : Int) < j) (show (0 : Int) < n by omega))) _ (Ex.refl _) _ fun H9 e9 => ?_
        refine q _ H9 hzm.1 hzm.2 ⟨m, j + 1, ns.dropLast ++ [z / n], e9 _ _ (by rw [upd_ne hdr]; exact hd8), e9 _ _ (by rw [upd_same, List.map_append]; rfl), by omega, by omega, ?_⟩ (b9.trans (Bd.of e9))
        rw [List.length_append, List.length_dropLast]
        show ns.length - 1 + 1 ≤ 64
        have := List.length_pos_iff.mpr hns0
        omega
      · refine (ev_op (ev_var rfl) (ev_var rfl) (rv_I (C := fun _ j => (0 : Int) < j) (show (0 : Int) < n by omega))) _ (Ex.refl _) _ fun H9 e9 => ?_
        refine q _ H9 hzm.1 hzm.2 ⟨m, j + 1, ns.dropLast, e9 _ _ (e6 _ _ hd5), e9 _ _ (e6 _ _ hr5), by omega, by omega, ?_⟩ (b5.trans (Bd.of (e6.trans e9)))
        rw [List.length_dropLast]
        omega
    · have hd3 := e3 _ _ hd1
      refine q_asg (ev_op (ev_op (ev_dget (ev_var rfl) hd3 (deck_mixed r m (j + 1))) (ev_op (ev_op ev_c (ev_dget (ev_var rfl) hd3 (deck_draws r m (j + 1))) (rv_I (.inl ⟨by decide, by decide⟩))) (ev_dget (ev_var rfl) hd3 (deck_draws r m (j + 1))) (rv_I (.inr ⟨by omega, by omega⟩))) rv_I0) ev_c (rv_I (by decide))) fun H4 e4 => ?_
      have hzm : ∀ z : Int, 0 ≤ z % n ∧ z % n < n := fun z => mod_in (by omega)
      refine (ev_op (ev_op (ev_op (ev_op (ev_var rfl) ev_c (rv_I (.inr ⟨by decide, by decide⟩))) ev_c (rv_I (by decide))) ev_c (rv_I ⟨by decide, by decide⟩)) (ev_var rfl) (rv_I (C := fun _ j => (0 : Int) < j) (show (0 : Int) < n by omega))) H4 (Ex.refl _) _ fun H5 e5 => ?_
      exact q _ H5 (hzm _).1 (hzm _).2 ⟨m, j + 1, ns, e5 _ _ (e4 _ _ hd3), e5 _ _ (e4 _ _ (e3 _ _ hr1)), by omega, by omega, hns⟩ (b1.trans (Bd.of ((e3.trans e4).trans e5)))
end
end K49
namespace K49
open PySem PySem.Spec PySem.W PyProof.Rows L2 Evl LamX
/-- the heap without the deck -/
def hid (d r : Addr) (H : Hp) : Hp := fun a => if a = d ∨ a = r then none else H a
theorem hid_ne {d r a : Addr} {H : Hp} (h1 : a ≠ d) (h2 : a ≠ r) : hid d r H a = H a := if_neg fun z => z.elim h1 h2
theorem hid_d {d r : Addr} {H : Hp} : hid d r H d = none := if_pos (.inl rfl)
theorem hid_r {d r : Addr} {H : Hp} : hid d r H r = none := if_pos (.inr rfl)
theorem hid_ex {d r : Addr} {H : Hp} : Ex (hid d r H) H := fun a o h => by
  unfold hid at h
  split at h
  · cases h
  · exact h
theorem Bd.hid {d r : Addr} {H H' : Hp} (b : Bd d r H H') : Ex (hid d r H) (K49.hid d r H') := fun a o h => by
  unfold K49.hid at h
  split at h
  · cases h
  · rename_i hn
    have h1 : a ≠ d := fun z => hn (.inl z)
    have h2 : a ≠ r := fun z => hn (.inr z)
    rw [hid_ne h1 h2]
    exact b a o h1 h2 h
theorem hid_mono {d r : Addr} {H H' : Hp} (e : Ex H H') : Ex (hid d r H) (hid d r H') := (Bd.of e).hid
section
variable {P : Program} {w : World} {K : PySem.W.Frag} {mg : Str → Option Value} {base : Heap}
/-! _law_pick -/
def spPick (K : PySem.W.Frag) : Sp := fun vs H Q _ => ∃ (d r a : Addr) (b : Nat) (xs : List V), vs = [.ref d, .ref a] ∧ Deck H d r b ∧ d ≠ r ∧ b ≤ 1000000 ∧ (SqL K (hid d r H) a xs ∨ SqT K (hid d r H) a xs) ∧ 1 ≤ xs.length ∧ xs.length ≤ 1000000 ∧ ∀ v H', v ∈ xs → Deck H' d r (b + 1) → Bd d r H H' → Q v H'
theorem ok_pick {f fD : Addr} {fd fdD : FuncData} {k : Nat} (F : Fun K "_law_pick" "_law_pick" sLPick f fd) (DD : Df K mg "_law_draw" sLDraw ["_law_deck_here", "_law_below"] fD fdD) (T' : Txt mg) : FnOk P w K mg base CX0 (k + 2) f fd ["_law_deck_here", "_law_some"] (spPick K) := by
  have GD : FnOk P w K mg base CX0 (k + 1) fD fdD ["_law_deck_here", "_law_below"] spDraw := ok_draw DD.F
  refine F.ok scLPick (fun vs H Q E h => ?_) (fun cdv A outer s H vs Q E hr h => ?_)
  · obtain ⟨d, r, a, b, xs, rfl, _⟩ := h
    rfl
  · obtain ⟨d, r, a, b, xs, rfl, dk, hdr, hb, hs, n1, n2, q⟩ := h
    refine ⟨_, pss_one (ps_ret (pe_ix (ix_list.or ix_tup) (pv 1) (pe_df DD GD hr (pa_cons (pv 0) (pa_cons (pe_callB call_len_seq (by rfl) T'.len PySem.boot_len (pa_cons (pv 1) pa_nil)) pa_nil))) (fun _ _ => rfl))), ?_⟩
    refine ⟨.ref a, rfl, .ref d, rfl, .ref a, rfl, a, xs, rfl, hs.elim (fun z => .inl (ex_l hid_ex z)) (fun z => .inr (ex_t hid_ex z)), ?_⟩
    refine ⟨d, r, b, (xs.length : Int), rfl, dk, hdr, hb, by omega, by omega, fun x H' x0 x1 dk' bd => ?_⟩
    obtain ⟨v, hv⟩ : ∃ v, xs[x.toNat]? = some v := ⟨_, List.getElem?_eq_getElem (by omega)⟩
    have e : Ex (hid d r H) H' := bd.hid.trans hid_ex
    rcases hs with hs | hs
    · exact .inl ⟨a, xs, x, v, rfl, rfl, ex_l e hs, atI_nn x0 hv, q v H' (List.mem_of_getElem? hv) dk' bd⟩
    · exact .inr ⟨a, xs, x, v, rfl, rfl, ex_t e hs, atI_nn x0 hv, q v H' (List.mem_of_getElem? hv) dk' bd⟩
theorem go_pick {K : PySem.W.Frag} {σ : L2.St} {H : Hp} {Q : VK} {E : XK} {ta : TE} {i : Nat} {d : Addr} {xs : List V} (hd : σ[i]? = some (some (.ref d))) (ha : EvL ta σ H xs) (k : ∀ a H1, H a = none → Ex H H1 → H1 a = some (.lst xs) → spPick K [.ref d, .ref a] H1 Q E) :
    tCall (spPick K) [] E (tCons (tVar i) (tCons ta tNil)) σ H Q := ⟨_, hd, ha H (Ex.refl H) _ fun a H1 hn e h => k a H1 hn e h⟩
theorem Deck.up {H : Hp} {d r : Addr} {b c : Nat} (h : Deck H d r b) (l : b ≤ c) : Deck H d r c := by
  obtain ⟨m, k, ns, h1, h2, h3, h4, h5⟩ := h.ex
  exact ⟨m, k, ns, h1, h2, h3, by omega, h5⟩
/-- picking of written ints -/
theorem pick_ints {σ : L2.St} {H : Hp} {Q : VK} {E : XK} {ta : TE} {i : Nat} {d r : Addr} {b : Nat} {ns : List Int} (hd : σ[i]? = some (some (.ref d))) (ha : EvL ta σ H (ns.map V.int)) (dk : Deck H d r b) (hdr : d ≠ r) (hb : b ≤ 1000000) (n1 : 1 ≤ ns.length) (n2 : ns.length ≤ 1000)
    (k : ∀ x H', x ∈ ns → Deck H' d r (b + 1) → Bd d r H H' → Q (.int x) H') : tCall (spPick K) [] E (tCons (tVar i) (tCons ta tNil)) σ H Q :=
  go_pick hd ha fun a H1 hn e h => by
    obtain ⟨m, j, zs, h1, h2, _⟩ := dk.ex
    have had : a ≠ d := fun z => by rw [z, h1] at hn; cases hn
    have har : a ≠ r := fun z => by rw [z, h2] at hn; cases hn
    refine ⟨d, r, a, b, _, rfl, dk.mono e, hdr, hb, .inl (sq_of (by rw [hid_ne had har]; exact h)), by rw [List.length_map]; exact n1, by rw [List.length_map]; omega, fun v H' hv dk' bd => ?_⟩
    obtain ⟨x, hx, rfl⟩ := List.mem_map.mp hv
    exact k x H' hx dk' ((Bd.of e).trans bd)
theorem q_forRv {σ : L2.St} {H : Hp} {te : TE} {g : TG} {tu tz : TS} {D : Ends} (h : te σ H fun x H1 => ∃ j : Int, [x] = [V.int j] ∧ -(2 ^ 62) ≤ j ∧ j < 2 ^ 62 ∧ ∃ W : Nat → Nat → L2.St → Hp → Prop, (∃ m, W 0 m σ H1) ∧ ∀ i m σ H, W i m σ H →
    ((Itr 0 j.toNat).stop i H ∧ tz D σ H) ∨ ((Itr 0 j.toNat).go i H ∧ ∃ N : L2.St → Hp → Prop, (∀ σ' H', N σ' H' → ∃ m', m' < m ∧ W (i + 1) m' σ' H') ∧ ∀ x H', (Itr 0 j.toNat).yld i H x H' → g x σ H' fun σ2 H2 => tu { D with nx := N, ct := N, bk := tz D } σ2 H2)) : tSeq (tFor (iRng1 (tCons te tNil)) g tu) tz D σ H := h
theorem for_rg {n : Nat} {g : TG} {tb tz : TS} {D : Ends} {σ : L2.St} {H : Hp} (Pv : Nat → L2.St → Hp → Prop) (h0 : Pv 0 σ H)
    (hs : ∀ i σ H, i < n → Pv i σ H → g (.int ((0 : Int) + i)) σ H fun σ2 H2 => tb { D with nx := Pv (i + 1), ct := Pv (i + 1), bk := tz D } σ2 H2) (hd : ∀ σ H, Pv n σ H → tz D σ H) :
    ∃ W : Nat → Nat → L2.St → Hp → Prop, (∃ m, W 0 m σ H) ∧ ∀ i m σ H, W i m σ H →
      ((Itr 0 n).stop i H ∧ tz D σ H) ∨ ((Itr 0 n).go i H ∧ ∃ N : L2.St → Hp → Prop, (∀ σ' H', N σ' H' → ∃ m', m' < m ∧ W (i + 1) m' σ' H') ∧ ∀ x H', (Itr 0 n).yld i H x H' → g x σ H' fun σ2 H2 => tb { D with nx := N, ct := N, bk := tz D } σ2 H2) :=
  for_range (D := { D with nx := tz D }) Pv h0 hs hd
theorem q_parLL {σ : L2.St} {H : Hp} {ta tb : TE} {xs ys : List V} {i j : Nat} {D : Ends} {tz : TS} (ha : EvL ta σ H xs) (hb : EvL tb σ H ys)
    (k : ∀ p1 p2 H1, H p1 = none → H p2 = none → p1 ≠ p2 → Ex H H1 → H1 p1 = some (.lst xs) → H1 p2 = some (.lst ys) → tz D ((σ.set i (some (.ref p1))).set j (some (.ref p2))) H1) :
    tSeq (tPar i j (tCons ta (tCons tb tNil))) tz D σ H := ha H (Ex.refl H) _ fun p1 H1 hp1 e1 hx1 => hb H1 e1 _ fun p2 H2 hp2 e2 hx2 =>
  ⟨_, _, rfl, k p1 p2 H2 hp1 (fresh_back e1 hp2) (ne_of_none hx1 hp2) (e1.trans e2) (e2 _ _ hx1) hx2⟩
theorem el_rg {σ : L2.St} {H : Hp} {i n : Nat} (h : σ[i]? = some (some (.int (n : Int)))) (hn : n ≤ 1000) : EvL (tLstRg (tRg1 (tVar i))) σ H (((List.range n).map fun (i : Nat) => (i : Int)).map V.int) := fun H1 e Q q =>
  ⟨_, h, (n : Int), rfl, RgOk.of_le (by decide) (by omega) (by decide) (by omega), fun c hc => q c _ hc (Ex.new hc) (by rw [upd_same]; congr 2; unfold rgV; rw [List.map_map]; simp)⟩
theorem erase_map {α β : Type} (f : α → β) : ∀ (l : List α) (j : Nat), (l.map f).eraseIdx j = (l.eraseIdx j).map f
  | [], _ => rfl
  | _ :: _, 0 => rfl
  | x :: l, j + 1 => by
    show f x :: (l.map f).eraseIdx j = f x :: (l.eraseIdx j).map f
    rw [erase_map f l j]
theorem paired_mono {α β : Type} {F G : α → β → Prop} (h : ∀ a b, F a b → G a b) : ∀ {l : List α} {m : List β}, Paired F l m → Paired G l m
  | _, _, .nil => .nil
  | _, _, .cons x t => .cons (h _ _ x) (paired_mono h t)
/-! _law_lists -/
/-- the rows, each a list of its own -/
def RowAt (d r : Addr) (H : Hp) (v : V) (row : List Int) : Prop := ∃ a, v = .ref a ∧ H a = some (.lst (row.map V.int)) ∧ a ≠ d ∧ a ≠ r
theorem rows_dp {d r : Addr} {H : Hp} : ∀ {zs : List V} {L : List (List Int)}, Paired (RowAt d r H) zs L → DpAll K (hid d r H) zs (L.map eR)
  | _, _, .nil => .nil
  | _, _, .cons h t => by
    obtain ⟨a, rfl, h1, h2, h3⟩ := h
    exact .cons (.lst (sq_of (by rw [hid_ne h2 h3]; exact h1)) (ints_dpAll _)) (rows_dp t)
def spLists (K : PySem.W.Frag) : Sp := fun vs H Q _ => ∃ (d r : Addr) (b n : Nat), vs = [.ref d, .int n] ∧ Deck H d r b ∧ d ≠ r ∧ b ≤ 100000 ∧ 1 ≤ n ∧ n ≤ 4 ∧ ∀ v L H', Dp K (hid d r H') v (eL L) → L.length ≤ 3 → (∀ row ∈ L, row.length ≤ 4) → Deck H' d r (b + 100) → Bd d r H H' → Q v H'
theorem ok_lists {f fP fD : Addr} {fd fdP fdD : FuncData} {k : Nat} (F : Fun K "_law_lists" "_law_lists" sLLists f fd) (DP : Df K mg "_law_pick" sLPick ["_law_deck_here", "_law_some"] fP fdP) (DD : Df K mg "_law_draw" sLDraw ["_law_deck_here", "_law_below"] fD fdD) (T' : Txt mg) :
    FnOk P w K mg base CX0 (k + 3) f fd ["_law_deck_here", "_law_offers"] (spLists K) := by
  have GP : FnOk P w K mg base CX0 (k + 2) fP fdP ["_law_deck_here", "_law_some"] (spPick K) := ok_pick DP.F DD T'
  have GD : FnOk P w K mg base CX0 (k + 2) fD fdD ["_law_deck_here", "_law_below"] spDraw := ok_draw DD.F
  refine F.ok scLLists (fun vs H Q E h => ?_) (fun cdv A outer s H vs Q E hr h => ?_)
  · obtain ⟨d, r, b, n, rfl, _⟩ := h
    rfl
  · obtain ⟨d, r, b, n, rfl, dk, hdr, hb, n1, n4, q⟩ := h
    refine ⟨_, pss_cons (ps_set (i := 2) scLLists.nd rfl (.inl rfl) (pe_lst pa_nil))
      (pss_cons (ps_for PassesOwn.never rfl (pi_range1 (by rfl) T'.range (pa_cons (pe_df DP GP hr (pa_cons (pv 0) (pa_cons (pe_lst (pa_cons pe_int (pa_cons pe_int (pa_cons pe_int (pa_cons pe_int (pa_cons pe_int (pa_cons pe_int (pa_cons pe_int (pa_cons pe_int pa_nil))))))))) pa_nil))) pa_nil)) (pg_name (i := 3) scLLists.nd rfl (.inl rfl))
        (pss_cons (ps_par (i := 4) (j := 5) rfl scLLists.nd rfl rfl (by decide) rfl rfl (pa_cons (pe_listRg rfl (by rfl) T'.list (prg_1 (by rfl) T'.range (pv 1))) (pa_cons (pe_lst pa_nil) pa_nil)) (by rfl))
        (pss_cons (ps_for PassesOwn.never rfl (pi_range1 (by rfl) T'.range (pa_cons (pe_op op_sub (pv 1) (pe_df DP GP hr (pa_cons (pv 0) (pa_cons (pe_lst (pa_cons pe_int (pa_cons pe_int (pa_cons pe_int (pa_cons pe_int pa_nil))))) pa_nil)))) pa_nil)) (pg_name (i := 6) scLLists.nd rfl (.inl rfl))
          (pss_one (ps_expr (pe_bm PySem.F.plainAttrs_list PySem.F.slot_list_append PySem.F.type_list_append mt_append (pv 5) (pa_cons (pe_bm PySem.F.plainAttrs_list PySem.F.slot_list_pop PySem.F.type_list_pop mt_popAt (pv 4) (pa_cons (pe_df DD GD hr (pa_cons (pv 0) (pa_cons (pe_callB call_len_seq (by rfl) T'.len PySem.boot_len (pa_cons (pv 4) pa_nil)) pa_nil))) pa_nil)) pa_nil)))))
        (pss_one (ps_expr (pe_bm PySem.F.plainAttrs_list PySem.F.slot_list_append PySem.F.type_list_append mt_append (pv 2) (pa_cons (pv 5) pa_nil)))))))
      (pss_one (ps_ret (pv 2)))), ?_⟩
    obtain ⟨m0, k0, ns0, hd0, hr0, _⟩ := dk.ex
    refine q_asgL (el_lst ea_nil (Nat.zero_le _)) fun pf H1 hpf e1 hx1 => ?_
    have fd_ : pf ≠ d := fun z => by rw [z, hd0] at hpf; cases hpf
    have fr_ : pf ≠ r := fun z => by rw [z, hr0] at hpf; cases hpf
    refine q_forRv (pick_ints (ns := [2, 1, 3, 2, 0, 1, 3, 2]) rfl (el_lst (ea_cons ev_c (ea_cons ev_c (ea_cons ev_c (ea_cons ev_c (ea_cons ev_c (ea_cons ev_c (ea_cons ev_c (ea_cons ev_c ea_nil)))))))) (by show 8 ≤ 100000; decide)) (dk.mono e1) hdr (by omega) (by decide) (by decide) fun x H2 hx dk2 bd2 => ?_)
    have hx3 : 0 ≤ x ∧ x ≤ 3 := by
      have : ∀ y ∈ ([2, 1, 3, 2, 0, 1, 3, 2] : List Int), 0 ≤ y ∧ y ≤ 3 := by decide
      exact this x hx
    refine ⟨x, rfl, by omega, by omega, ?_⟩
    refine for_rg (n := x.toNat) (fun i σ H' => (∃ x3 x4 x5 x6, σ = [some (.ref d), some (.int (n : Int)), some (.ref pf), x3, x4, x5, x6]) ∧ Deck H' d r (b + 1 + i * 6) ∧ Bd d r H H' ∧ ∃ zs L, H' pf = some (.lst zs) ∧ Paired (fun v row => RowAt d r H' v row ∧ v ≠ .ref pf) zs L ∧ L.length = i ∧ ∀ row ∈ L, row.length ≤ 4)
      ⟨⟨none, none, none, none, rfl⟩, dk2, (Bd.of e1).trans bd2, [], [], bd2 _ _ fd_ fr_ hx1, .nil, rfl, fun _ h => by cases h⟩ (fun i σ H' hi pw => ?_) fun σ H' pw => ?_
    · obtain ⟨⟨x3, x4, x5, x6, rfl⟩, dk3, bd3, zs, L, hzs, hrows, hL, hL4⟩ := pw
      refine q_parLL (el_rg rfl (by omega)) (el_lst ea_nil (Nat.zero_le _)) fun pl pr H3 hpl hpr hlr e3 hl3 hr3 => ?_
      obtain ⟨m3, k3, ns3, hd3, hrr3, _⟩ := dk3.ex
      have ld : pl ≠ d := fun z => by rw [z, hd3] at hpl; cases hpl
      have lr : pl ≠ r := fun z => by rw [z, hrr3] at hpl; cases hpl
      have rd : pr ≠ d := fun z => by rw [z, hd3] at hpr; cases hpr
      have rr : pr ≠ r := fun z => by rw [z, hrr3] at hpr; cases hpr
      have lf : pl ≠ pf := fun z => by rw [z, hzs] at hpl; cases hpl
      have rf : pr ≠ pf := fun z => by rw [z, hzs] at hpr; cases hpr
      have hplH : ∀ o, H pl ≠ some o := fun o z => by rw [bd3 _ _ ld lr z] at hpl; cases hpl
      have hprH : ∀ o, H pr ≠ some o := fun o z => by rw [bd3 _ _ rd rr z] at hpr; cases hpr
      have hi3 : i < 3 := by omega
      refine q_forRv ⟨_, rfl, pick_ints (ns := [0, 0, 0, 1]) rfl (el_lst (ea_cons ev_c (ea_cons ev_c (ea_cons ev_c (ea_cons ev_c ea_nil)))) (by show 4 ≤ 100000; decide)) (dk3.mono e3) hdr (by omega) (by decide) (by decide) fun y H4 hy dk4 bd4 => ?_⟩
      have hy1 : 0 ≤ y ∧ y ≤ 1 := by
        have : ∀ y ∈ ([0, 0, 0, 1] : List Int), 0 ≤ y ∧ y ≤ 1 := by decide
        exact this y hy
      refine ⟨(n : Int), y, rfl, rfl, (n : Int) - y, rfl, by omega, by omega, ?_⟩
      have rows4 : Paired (fun v row => RowAt d r H4 v row ∧ v ≠ .ref pf ∧ v ≠ .ref pl ∧ v ≠ .ref pr) zs L := paired_mono (fun v row ⟨⟨a, ea, h1, h2, h3⟩, h4⟩ => ⟨⟨a, ea, bd4 _ _ h2 h3 (e3 _ _ h1), h2, h3⟩, h4, (fun z => by
        rw [ea] at z
        rw [V.ref.inj z, hpl] at h1
        cases h1), (fun z => by
        rw [ea] at z
        rw [V.ref.inj z, hpr] at h1
        cases h1)⟩) hrows
      refine for_rg (n := ((n : Int) - y).toNat) (fun j σ H' => (∃ x6, σ = [some (.ref d), some (.int (n : Int)), some (.ref pf), some (.int ((0 : Int) + (i : Int))), some (.ref pl), some (.ref pr), x6]) ∧ Deck H' d r (b + 1 + i * 6 + 1 + j) ∧ Bd d r H H' ∧ H' pf = some (.lst zs) ∧ Paired (fun v row => RowAt d r H' v row ∧ v ≠ .ref pf ∧ v ≠ .ref pl ∧ v ≠ .ref pr) zs L ∧
          ∃ ls rs : List Int, H' pl = some (.lst (ls.map V.int)) ∧ H' pr = some (.lst (rs.map V.int)) ∧ ls.length + j = n ∧ rs.length = j)
        ⟨⟨x6, rfl⟩, dk4, (bd3.trans (Bd.of e3)).trans bd4, bd4 _ _ fd_ fr_ (e3 _ _ hzs), rows4, _, [], bd4 _ _ ld lr hl3, bd4 _ _ rd rr hr3, by rw [List.length_map, List.length_range]; rfl, rfl⟩ (fun j σ H' hj pw => ?_) fun σ H' pw => ?_
      · obtain ⟨⟨x6', rfl⟩, dk5, bd5, hf5, hrows5, ls, rs, hl5, hr5, hlen, hrl⟩ := pw
        refine ⟨.ref pr, rfl, .inl ⟨rfl, _, sq_of hr5⟩, .ref pl, rfl, .inl ⟨rfl, _, sq_of hl5⟩, .ref d, rfl, .ref pl, rfl, pl, _, rfl, .inl (sq_of hl5), ?_⟩
        refine ⟨d, r, b + 1 + i * 6 + 1 + j, _, rfl, dk5, hdr, by omega, by rw [List.length_map]; omega, by rw [List.length_map]; omega, fun z H6 z0 z1 dk6 bd6 => ?_⟩
        rw [List.length_map] at z1
        have hl6 := bd6 _ _ ld lr hl5
        have hr6 := bd6 _ _ rd rr hr5
        obtain ⟨v, hv⟩ : ∃ v, ls[z.toNat]? = some v := ⟨_, List.getElem?_eq_getElem (by omega)⟩
        have hix : ixN (ls.map V.int).length z = some z.toNat := by
          unfold ixN
          rw [if_pos z0, List.length_map, if_pos z1]
        refine ⟨pl, _, z, z.toNat, .int v, rfl, rfl, hl6, by omega, by omega, (ixN_seq hix).1, by rw [List.getElem?_map, hv]; rfl, ?_⟩
        have hr7 : (upd H6 pl (.lst ((ls.map V.int).eraseIdx z.toNat))) pr = some (.lst (rs.map V.int)) := by rw [upd_ne hlr.symm]; exact hr6
        refine ⟨pr, _, .int v, rfl, rfl, hr7, by rw [List.length_map]; exact sz_lt (by omega), ?_⟩
        refine ⟨⟨_, rfl⟩, ?_, ?_, ?_, ?_, ls.eraseIdx z.toNat, rs ++ [v], ?_, ?_, ?_, by rw [List.length_append, hrl]; rfl⟩
        · obtain ⟨m6, k6, ns6, q1, q2, q3, q4, q5⟩ := dk6.ex
          exact ⟨m6, k6, ns6, by rw [upd_ne rd.symm, upd_ne ld.symm]; exact q1, by rw [upd_ne rr.symm, upd_ne lr.symm]; exact q2, q3, q4, q5⟩
        · exact fun a o h1 h2 ho => by
            have g1 : a ≠ pr := fun z => hprH o (by rw [← z]; exact ho)
            have g2 : a ≠ pl := fun z => hplH o (by rw [← z]; exact ho)
            rw [upd_ne g1, upd_ne g2]
            exact (bd5.trans bd6) a o h1 h2 ho
        · rw [upd_ne rf.symm, upd_ne lf.symm]
          exact bd6 _ _ fd_ fr_ hf5
        · exact paired_mono (fun v row ⟨⟨a, ea, h1, h2, h3⟩, h4, h5, h6⟩ => ⟨⟨a, ea, by rw [upd_ne (fun z => h6 (by rw [ea, z])), upd_ne (fun z => h5 (by rw [ea, z]))]; exact bd6 _ _ h2 h3 h1, h2, h3⟩, h4, h5, h6⟩) hrows5
        · rw [upd_ne hlr, upd_same, erase_map]
        · rw [upd_same, List.map_append]
          rfl
        · rw [List.length_eraseIdx_of_lt (by omega)]
          omega
      · obtain ⟨⟨x6', rfl⟩, dk5, bd5, hf5, hrows5, ls, rs, hl5, hr5, hlen, hrl⟩ := pw
        refine ⟨.ref pf, rfl, .inl ⟨rfl, _, sq_of hf5⟩, .ref pr, rfl, pf, zs, .ref pr, rfl, rfl, hf5, sz_lt (by rw [Paired.length hrows5]; omega), ?_⟩
        have hyn : ((n : Int) - y).toNat ≤ n := by omega
        refine ⟨⟨_, _, _, _, rfl⟩, ?_, ?_, zs ++ [.ref pr], L ++ [rs], upd_same, Paired.snoc (paired_mono (fun v row ⟨⟨a, ea, h1, h2, h3⟩, h4, h5, h6⟩ => ⟨⟨a, ea, by rw [upd_ne (fun z => h4 (by rw [ea, z]))]; exact h1, h2, h3⟩, h4⟩) hrows5) ⟨⟨pr, rfl, by rw [upd_ne rf]; exact hr5, rd, rr⟩, fun z => rf (V.ref.inj z)⟩, by rw [List.length_append, hL]; rfl, fun row hrow => ?_⟩
        · obtain ⟨m6, k6, ns6, q1, q2, q3, q4, q5⟩ := dk5.ex
          exact ⟨m6, k6, ns6, by rw [upd_ne fd_.symm]; exact q1, by rw [upd_ne fr_.symm]; exact q2, q3, by omega, q5⟩
        · exact fun a o h1 h2 ho => by
            rw [upd_ne (ne_of_none ho hpf)]
            exact bd5 a o h1 h2 ho
        · rcases List.mem_append.mp hrow with h1 | h1
          · exact hL4 row h1
          · rw [List.mem_singleton.mp h1]
            omega
    · obtain ⟨⟨x3, x4, x5, x6, rfl⟩, dk3, bd3, zs, L, hzs, hrows, hL, hL4⟩ := pw
      have hd := rows_dp (K := K) (paired_mono (fun v row h => h.1) hrows)
      exact ⟨.ref pf, rfl, q _ L H' (.lst (sq_of (by rw [hid_ne fd_ fr_]; exact hzs)) hd) (by omega) hL4 (dk3.up (by omega)) bd3⟩
end
end K49
namespace K49
open PySem PySem.Spec PySem.W PyProof.Rows L2 Evl LamX
theorem tx_hid {d r : Addr} {H : Hp} {u v : HO} (hd : H d = some u) (hr : H r = some v) (n1 : NoTup u) (n2 : NoTup v) : Tx H (hid d r H) := fun a xs h => by
  have key : ∀ y : HO, (y = .tup xs ∨ ∃ o, y = .frz o (.tup xs)) → H a = some y → hid d r H a = some y := fun y hy e => by
    have h1 : a ≠ d := fun z => by
      rw [z, hd] at e
      rcases hy with rfl | ⟨o, rfl⟩ <;> (rw [Option.some.inj e] at n1; exact n1)
    have h2 : a ≠ r := fun z => by
      rw [z, hr] at e
      rcases hy with rfl | ⟨o, rfl⟩ <;> (rw [Option.some.inj e] at n2; exact n2)
    rw [hid_ne h1 h2]
    exact e
  rcases h with h | ⟨o, h⟩
  · exact .inl (key _ (.inl rfl) h)
  · exact .inr ⟨o, key _ (.inr ⟨o, rfl⟩) h⟩
theorem Tabs.bt {T : List (Addr × Str)} {x : Addr} {H H' : Hp} {u : HO} (t : Tabs T H) (h : H x = some u) (n1 : ∀ ps, u ≠ .tbl ps) (n2 : ∀ φ, u ≠ .ext φ) (b : Bt x H H') : Tabs T H' := fun p hp => by
  obtain ⟨ps, h1, h2, h3⟩ := t p hp
  refine ⟨ps, b _ _ (fun z => ?_) h1, h2, fun pos cv hc => ?_⟩
  · rw [z, h] at h1
    exact n1 _ (Option.some.inj h1)
  · obtain ⟨c, e1, e2⟩ := h3 pos cv hc
    refine ⟨c, e1, b _ _ (fun z => ?_) e2⟩
    rw [z, h] at e2
    exact n2 _ (Option.some.inj e2)
/-- new, or a table's place -/
def FreshN (H : Hp) (p : Addr) : Prop := ∀ o, H p = some o → ∃ ps, o = .tbl ps
theorem freshN_of {H H' : Hp} {p : Addr} (e : ExtN H H') (h : H' p = none) : FreshN H p := fun o ho => by
  refine Classical.byContradiction fun z => ?_
  rw [e p o ho fun ps hp => z ⟨ps, hp⟩] at h
  cases h
section
variable {K : PySem.W.Frag} {σ : L2.St} {H : Hp} {ta : TA} {bs : List AS} {sp spi : Sp} {E Ei : XK} {D : Ends} {g : TG} {tt : TT} {te : TE} {vs : List Nat} {tz tu : TS}
theorem s_mkCall {C : Addr} {i : Nat} {v0 : V} {dvs : List V} (hi : σ[i]? = some (some v0)) (ha : EvAr K ta σ H bs) (k : ∀ us H4, Ex H H4 → ArOk K H4 us bs → sp (us ++ []) H4 (fun r H5 => tCB (rTupD K) (tCons (tLc (iList K (tC r)) g tt te vs) tNil) σ H5 fun y H6 => ∀ x dx, H6 x = none → H6 dx = none → dx ≠ x →
    spi (.ref x :: ([v0, y] ++ dvs)) (upd (upd H6 dx (.own x)) x (.ins C dx [])) (fun v H7 => v = .non ∧ D.rt (.ref x) H7) Ei) E) :
    tRet (tMake C spi dvs Ei (tCons (tVar i) (tCons (tCB (rTupD K) (tCons (tLc (iList K (tCall sp [] E ta)) g tt te vs) tNil)) tNil))) D σ H :=
  ⟨v0, hi, ha H (Ex.refl H) _ fun us H4 e h => k us H4 e h⟩
theorem q_forCall (ha : EvAr K ta σ H bs) (k : ∀ us H4, Ex H H4 → ArOk K H4 us bs → sp (us ++ []) H4 (fun r H5 => tFor (iList K (tC r)) g tu { D with nx := tz D } σ H5) E) : tSeq (tFor (iList K (tCall sp [] E ta)) g tu) tz D σ H :=
  s_forCall (D := { D with nx := tz D }) ha k
end
section
variable {P : Program} {w : World} {K : PySem.W.Frag} {mg : Str → Option Value} {base : Heap} {C T : Addr}
/-! _law_chooser -/
def spLCh (K : PySem.W.Frag) (P : Program) (w : World) (C : Addr) (Tt : List (Addr × Str)) : Sp := fun vs H Q _ => ∃ (v2 : V) (n : Nat) (L : List (List Int)), vs = [.int n, v2] ∧ 1 ≤ n ∧ n ≤ 4 ∧ Tabs Tt H ∧ Dp K H v2 (eL L) ∧ L.length ≤ 50 ∧ (∀ r ∈ L, r.length ≤ 100) ∧
  ∀ v H', ExtN H H' → Tabs Tt H' → Chz K P w C n L H' v → Q v H'
theorem ok_lch {f fS fT fI pT c : Addr} {fd fdS fdT fdI : FuncData} {k : Nat} (F : Fun K "_law_chooser" "_law_chooser" sLChooser f fd) (gS : mg "_law_sets" = some (.ref fS)) (bS : Binds K fdS ["_law_offers"] []) (FS : FunC K "_law_sets" "_law_sets" sLSets fS fdS c) (TB : TabB base mg c pT)
    (DT : Df K mg "_law_taken" sLTaken ["_law_lists_here", "_law_some"] fT fdT) (M : Mk K C fI) (bI : Binds K fdI ["self", "offers", "picks"] []) (GI : FnOk P w K mg base CX0 k fI fdI ["self", "offers", "picks"] (spCI K P w C)) (gC : mg "Chooser" = some (.ref C)) (T' : Txt mg) :
    FnOk P w K mg base CX0 (k + 2) f fd ["_law_offers", "_law_lists_here"] (spLCh K P w C [(pT, lamQ)]) := by
  have GS : FnOk P w K mg base CX0 (k + 1) fS fdS ["_law_offers"] (spLSets K [(pT, lamQ)]) := ok_lsets FS T' TB
  have GT : FnOk P w K mg base CX0 (k + 1) fT fdT ["_law_lists_here", "_law_some"] (spA K rLTaken) := ok_ltaken DT.F T'
  refine F.ok scLChooser (fun vs H Q E h => ?_) (fun cdv A outer s H vs Q E hr h => ?_)
  · obtain ⟨v2, n, L, rfl, _⟩ := h
    rfl
  · obtain ⟨v2, n, L, rfl, n1, n4, hT, h2, hl, hlr, q⟩ := h
    refine ⟨_, pss_one (ps_ret (pe_make M GI hr (by rfl) gC bI .nil pass0 (pa_cons (pv 0) (pa_cons (pe_callTy call_tuple_of (by rfl) T'.tuple boot_tup' (pa_cons
      (pe_lc (own := [("_law_some", 2)]) (g := gName 2) (tt := tYes) rfl scLChooser.nd (pi_list (pe_call GS hr (by rfl) gS FS.kp bS .nil pass0 (pa_cons (pv 0) pa_nil))) (blkOk_by (N := ["_law_offers", "_law_lists_here", "_law_some"]) (sc := defScope sLChooser) (by decide +kernel))
        (fun _ _ _ _ _ => pg_name (i := 2) scLChooser.nd rfl (.inl rfl)) (fun _ _ _ _ _ => pts_nil) (fun _ _ _ _ _ => pe_df DT GT hr (pa_cons (pv 1) (pa_cons (pv 2) pa_nil)))) pa_nil)) pa_nil)))), ?_⟩
    refine s_mkCall (K := K) (bs := [.inl (.int n)]) rfl (ar_v (ev_var rfl) ar_nil) fun us H4 e4 hu4 => ?_
    obtain ⟨us, rfl, _, hu4⟩ := hu4.hv
    obtain rfl := hu4.nilv
    refine ⟨n, rfl, n1, n4, hT.ext e4, fun H5 p ys eN T5 hp hy => ?_⟩
    have eN5 : ExtN H H5 := (ExtN.of e4).trans eN
    have h25 : Dp K H5 v2 (eL L) := dp_sx (extN_sx eN5) h2
    have hasc := all_asc n1 n4
    have hal := all_len n1 n4
    refine ed_tupOf (EvN.toD (en_lcL (K := K) (as := allSets n) (e1 := eS) (e2 := eS) (Tg := fun a => TgN K _ 2 (eS a)) (fun _ => true) (fun s => taken L s) (ed_of ev_c (.lst (sq_of hp) hy)) (by omega) flat_S
      (fun a ha x H3 e3 hx Q q => tg_name hx (fun _ => rfl) Q q) (fun a ha σ2 H3 e3 hT => ev_yes) (fun a ha σ2 H3 H4 e3 hT e4 _ => ?_))) H5 (Ex.refl _) _ fun y H6 e6 hy6 => ?_
    · obtain ⟨x, rfl, hx⟩ := hT
      exact ed_call (ar_d (ed_var rfl (dp_mono (e3.trans e4) h25)) (ar_d (ed_var rfl (dp_mono e4 hx)) ar_nil)) fun _ _ => ⟨L, a, rfl, (hasc a ha).1, hl, hlr, rfl⟩
    · intro x dx hx hdx hne
      have ha1 : (upd H6 dx (.own x)) x = none := by rw [upd_ne (fun z => hne z.symm)]; exact hx
      have e7 : Ex H6 (upd (upd H6 dx (.own x)) x (.ins C dx [])) := (Ex.new hdx).trans (Ex.new ha1)
      refine ⟨x, dx, y, n, L, rfl, upd_same, n1, n4, dp_mono e7 ?_, fun H7 b7 hc => ⟨rfl, q _ H7 (fun a o ha ht => ?_) (Tabs.bt (Tabs.ext (Tabs.ext T5 e6) e7) upd_same (fun ps z => by cases z) (fun φ z => by cases z) b7) hc⟩⟩
      · rw [lcRes_all, List.map_map] at hy6
        exact hy6
      · have h6 := e6 _ _ (eN5 a o ha ht)
        exact b7 a o (ne_of_none h6 hx) (e7 _ _ h6)
end
end K49
namespace K49
open PySem PySem.Spec PySem.W PyProof.Rows L2 Evl LamX
/-- an offer and a set with it -/
def eW (s : List Int) (o : Int) : PyData := .tuple [.int o, eS (ins s o)]
theorem flat_W (s : List Int) (o : Int) : flatT (eW s o) = true := by
  unfold eW
  rw [flatT, flatTs, flatTs, flatTs, flat_S, flat_int]
  rfl
theorem eqv_Rn (a : List Int) : PyData.eqv (eR a) (eR []) = decide (a = []) := eqv_R a []
theorem wish_two (L1 L2 : List (List Int)) (st s : List Int) : (st.filter fun o => !decide (o ∈ s)).filter (fun o => decide (o ∈ taken L1 (ins s o)) && decide (o ∈ taken L2 (ins s o))) = wished L1 L2 st s := by
  unfold wished
  rw [List.filter_filter]
  refine List.filter_congr fun o _ => ?_
  unfold wishB
  rw [Bool.and_comm]
section
variable {P : Program} {w : World} {K : PySem.W.Frag} {mg : Str → Option Value} {base : Heap} {C T : Addr}
/-! _law_kept_sets -/
def spLK (K : PySem.W.Frag) (Tt : List (Addr × Str)) : Sp := fun vs H Q _ => ∃ (v1 v3 : V) (n : Nat) (L1 L2 : List (List Int)) (st : List Int), vs = [v1, .int n, v3] ∧ 1 ≤ n ∧ n ≤ 4 ∧ Tabs Tt H ∧ Dp K H v1 (.list [eL L1, eL L2]) ∧ L1.length ≤ 50 ∧ (∀ r ∈ L1, r.length ≤ 100) ∧ L2.length ≤ 50 ∧ (∀ r ∈ L2, r.length ≤ 100) ∧
  Dp K H v3 (eR st) ∧ Asc n st ∧ ∀ p xs H', ExtN H H' → Tabs Tt H' → FreshN H p → H' p = some (.lst xs) → DpAll K H' xs ((kept leS L1 L2 st).map eS) → Q (.ref p) H'
theorem ok_lk {f fS fT pT c : Addr} {fd fdS fdT : FuncData} {k : Nat} (F : Fun K "_law_kept_sets" "_law_kept_sets" sLKept f fd) (gS : mg "_law_sets" = some (.ref fS)) (bS : Binds K fdS ["_law_offers"] []) (FS : FunC K "_law_sets" "_law_sets" sLSets fS fdS c) (TB : TabB base mg c pT)
    (DT : Df K mg "_law_taken" sLTaken ["_law_lists_here", "_law_some"] fT fdT) (T' : Txt mg) :
    FnOk P w K mg base CX0 (k + 2) f fd ["_law_sides", "_law_offers", "_law_standing"] (spLK K [(pT, lamQ)]) := by
  have GS : FnOk P w K mg base CX0 (k + 1) fS fdS ["_law_offers"] (spLSets K [(pT, lamQ)]) := ok_lsets FS T' TB
  have GT : FnOk P w K mg base CX0 (k + 1) fT fdT ["_law_lists_here", "_law_some"] (spA K rLTaken) := ok_ltaken DT.F T'
  refine F.ok scLKept (fun vs H Q E h => ?_) (fun cdv A outer s H vs Q E hr h => ?_)
  · obtain ⟨v1, v3, n, L1, L2, st, rfl, _⟩ := h
    rfl
  · obtain ⟨v1, v3, n, L1, L2, st, rfl, n1, n4, hT, h1, l1, r1, l2, r2, h3, ast, q⟩ := h
    have hu := hu_64 hr
    refine ⟨_, pss_cons (ps_set (i := 3) scLKept.nd rfl (.inl rfl) (pe_lst pa_nil))
      (pss_cons (ps_for PassesOwn.never rfl (pi_list (pe_call GS hr (by rfl) gS FS.kp bS .nil pass0 (pa_cons (pv 1) pa_nil))) (pg_name (i := 4) scLKept.nd rfl (.inr rfl))
        (pss_cons (ps_set (i := 5) scLKept.nd rfl (.inl rfl) (pe_cmpR (op_eqD hu) (pe_lc (own := [("_law_offer", 7)]) (g := gName 7) (tt := tTest (tOp (rIn K true) (tVar 7) (tVar 2))) rfl scLKept.nd (pi_tup (pv 4)) (blkOk_by (N := ["_law_sides", "_law_offers", "_law_standing", "_law_found", "_law_some", "_law_inner", "_law_more", "_law_offer", "_law_x", "_law_wide"]) (sc := defScope sLKept) (by decide +kernel))
              (fun _ _ _ _ _ => pg_name (i := 7) scLKept.nd rfl (.inl rfl)) (fun _ _ _ _ _ => pts_one (pt_cmpR op_notIn_seq (pv 7) (pv 2) (by with_unfolding_all rfl))) (fun _ _ _ _ _ => pv 7)) (pe_lst pa_nil) (nomark _)))
        (pss_one (ps_if (PW.pt (pw_and (pt_val (pv 5)) (pw_and1 (pt_chain (op_eqD hu) (op_eqD hu) (pe_df DT GT hr (pa_cons (pe_ix ix_list (pv 0) pe_int (fun _ _ => rfl)) (pa_cons (pv 4) pa_nil))) (pv 4) (pe_df DT GT hr (pa_cons (pe_ix ix_list (pv 0) pe_int (fun _ _ => rfl)) (pa_cons (pv 4) pa_nil))))))) 
          (pss_cons (ps_setLc (i := 6) (own := [("_law_offer", 7)]) (g := gName 7) (tt := tTest (tOp (rIn K true) (tVar 7) (tVar 4))) (te := tTup (tCons (tVar 7) (tCons (tCB (rTupD K) (tCons (tCB (rSortD K (cSeq K)) (tCons (tOp (rCatA K) (tVar 4) (tTup (tCons (tVar 7) tNil))) tNil)) tNil)) tNil))) rfl scLKept.nd rfl rfl (sw_true rfl rfl rfl (by decide +kernel)) (pi_list (pv 2)) (blkOk_by (N := ["_law_sides", "_law_offers", "_law_standing", "_law_found", "_law_some", "_law_inner", "_law_more", "_law_offer", "_law_x", "_law_wide"]) (sc := defScope sLKept) (by decide +kernel))
              (fun _ _ _ _ _ => pg_name (i := 7) scLKept.nd rfl (.inl rfl)) (fun _ _ _ _ _ => pts_one (pt_cmpR op_notIn_seq (pv 7) (pv 4) (by with_unfolding_all rfl)))
              (fun _ _ _ _ _ => pe_tup (pa_cons (pv 7) (pa_cons (pe_callTy call_tuple_of (by rfl) T'.tuple boot_tup' (pa_cons (pe_callB (cr_sortD hu cl_seq) (by rfl) T'.sorted boot_sorted (pa_cons (pe_op op_catA (pv 4) (pe_tup (pa_cons (pv 7) pa_nil))) pa_nil)) pa_nil)) pa_nil))))
          (pss_one (ps_if (pt_cmpR (op_eqD hu) (pe_lc (own := [("_law_x", 8), ("_law_wide", 9)]) (g := gTup K 2 (gCons (gName 8) (gCons (gName 9) gNil)))
              (tt := tAnd (tTest (tOp (rIn K false) (tVar 8) (tCall (spA K rLTaken) [] E0 (tCons (tOp (rIxL K) (tVar 0) (tC (.int 0))) (tCons (tVar 9) tNil))))) (tTest (tOp (rIn K false) (tVar 8) (tCall (spA K rLTaken) [] E0 (tCons (tOp (rIxL K) (tVar 0) (tC (.int 1))) (tCons (tVar 9) tNil))))))
              rfl scLKept.nd (pi_list (pv 6)) (blkOk_by (N := ["_law_sides", "_law_offers", "_law_standing", "_law_found", "_law_some", "_law_inner", "_law_more", "_law_offer", "_law_x", "_law_wide"]) (sc := defScope sLKept) (by decide +kernel))
              (fun _ _ _ _ _ => pg_tup rfl (pgs_cons (pg_name (i := 8) scLKept.nd rfl (.inl rfl)) (pgs_cons (pg_name (i := 9) scLKept.nd rfl (.inl rfl)) pgs_nil)))
              (fun _ _ _ _ _ => pts_one (PW.pt (pw_and (pt_cmpR op_in_seq (pv 8) (pe_df DT GT hr (pa_cons (pe_ix ix_list (pv 0) pe_int (fun _ _ => rfl)) (pa_cons (pv 9) pa_nil))) (by with_unfolding_all rfl)) (pw_and1 (pt_cmpR op_in_seq (pv 8) (pe_df DT GT hr (pa_cons (pe_ix ix_list (pv 0) pe_int (fun _ _ => rfl)) (pa_cons (pv 9) pa_nil))) (by with_unfolding_all rfl)))))) (fun _ _ _ _ _ => pv 8)) (pe_lst pa_nil) (nomark _))
            (pss_one (ps_expr (pe_bm PySem.F.plainAttrs_list PySem.F.slot_list_append PySem.F.type_list_append mt_append (pv 3) (pa_cons (pv 4) pa_nil)))) pss_nil))) pss_nil))))
      (pss_one (ps_ret (pe_callB (cr_sortD hu cl_seq) (by rfl) T'.sorted boot_sorted (pa_cons (pv 3) pa_nil))))), ?_⟩
    refine q_asgN (K := K) (ds := []) (en_lst eds_nil (Nat.zero_le _)) fun pf xf H1 hpf e1 hxf hdf => ?_
    cases hdf
    refine q_forCall (K := K) (bs := [.inl (.int n)]) (ar_v (ev_var rfl) ar_nil) fun us H4 e4 hu4 => ?_
    obtain ⟨us, rfl, _, hu4⟩ := hu4.hv
    obtain rfl := hu4.nilv
    refine ⟨n, rfl, n1, n4, hT.ext (e1.trans e4), fun H5 p ys eN T5 hp hy => ?_⟩
    have eN5 : ExtN H H5 := (ExtN.of (e1.trans e4)).trans eN
    have hpf5 : H5 pf = some (.lst []) := eN _ _ (e4 _ _ hxf) fun ps z => by cases z
    have hnil : ([] : List Int) ∈ allSets n := asc_all n1 n4 (Asc.nil n)
    have hal := all_len n1 n4
    have hasc := all_asc n1 n4
    have hpp : p ≠ pf := fun z => by
      rw [z, hpf5] at hp
      cases hp
      have := dpAll_len hy
      rw [List.length_map] at this
      rw [List.length_eq_zero_iff.mp this.symm] at hnil
      cases hnil
    have t5 : Tx H5 (hid pf pf H5) := tx_hid hpf5 hpf5 trivial trivial
    have hG : Ex (hid pf pf H5) H5 := hid_ex
    -- what is known beside the list found
    have sxG : Sx H (hid pf pf H5) := fun a xs => by
      have h0 : ∀ o, H a = some o → (∀ ps, o ≠ .tbl ps) → hid pf pf H5 a = some o := fun o ho hn => by
        have ha : a ≠ pf := ne_of_none ho hpf
        rw [hid_ne ha ha]
        exact eN5 a o ho hn
      exact ⟨fun h => h.elim (fun h => .inl (h0 _ h fun ps z => by cases z)) fun ⟨o, h⟩ => .inr ⟨o, h0 _ h fun ps z => by cases z⟩, fun h => h.elim (fun h => .inl (h0 _ h fun ps z => by cases z)) fun ⟨o, h⟩ => .inr ⟨o, h0 _ h fun ps z => by cases z⟩⟩
    have h1G := dp_sx sxG h1
    have h3G := dp_sx sxG h3
    have hyG : Dp K (hid pf pf H5) (.ref p) (.list ((allSets n).map eS)) := .lst (sq_of (by rw [hid_ne hpp hpp]; exact hp)) (dpAll_tx t5 (flatTs_map flat_S _) hy)
    have st4 := asc_len4 n1 n4 ast
    refine s_forG (K := K) (as := allSets n) (e1 := eS) ev_c hG hyG (fun l σ H' => Ex (hid pf pf H5) H' ∧ Bt pf H5 H' ∧ (∃ x4 x5 x6 x7 x8 x9, σ = [some v1, some (.int (n : Int)), some v3, some (.ref pf), x4, x5, x6, x7, x8, x9]) ∧ ∃ zs, H' pf = some (.lst zs) ∧ DpAll K H' zs ((l.filter fun s => within s st && settled L1 L2 st s).map eS))
      (fun H6 e6 => ⟨hG.trans e6, Bt.of e6, ⟨_, _, _, _, _, _, rfl⟩, [], e6 _ _ hpf5, .nil⟩) (fun l σ H' pw => pw.1) (fun l a rr hsp x σ H' pw hx => ?_) fun σ H' pw => ?_
    · obtain ⟨eG, bt, ⟨x4, x5, x6, x7, x8, x9, rfl⟩, zs, hz, hzd⟩ := pw
      have haall : a ∈ allSets n := by rw [hsp]; simp
      have ha4 := asc_len4 n1 n4 (hasc a haall)
      have haA := hasc a haall
      have hin : EvN K (tLc (iTup K (tVar 4)) (gName 7) (tTest (tOp (rIn K true) (tVar 7) (tVar 2))) (tVar 7) [7]) [some v1, some (V.int (n : Int)), some v3, some (V.ref pf), some x, x5, x6, x7, x8, x9] H' ((a.filter fun o => !decide (o ∈ st)).map .int) :=
        en_is (en_lcT (K := K) (as := a) (e1 := PyData.int) (e2 := PyData.int) (Tg := fun a => TgN K _ 7 (.int a)) (fun o => !decide (o ∈ st)) id (ed_var rfl (dp_mono eG hx)) (by omega) flat_int
          (fun a ha x H1 e1 hx Q q => tg_name hx (fun _ => rfl) Q q) (fun o ho σ2 H2 e2 hT => by
            obtain ⟨y, rfl, hy⟩ := hT
            exact et_test (ev_niLi (ed_var rfl hy) (ed_var rfl (dp_mono (eG.trans e2) h3G)))) (fun o ho σ2 H2 H3 e2 hT e3 _ => by
            obtain ⟨y, rfl, hy⟩ := hT
            exact ed_var rfl (dp_mono e3 hy))) (lcRes_id _ _)
      refine q_asgD (K := K) (d := .bool (within a st)) (ed_bl (ev_is (ev_eqD hin.toD ed_nilL (shaped_R _) (shaped_R _)) ?_)) fun v5 H6 e6 hv5 => ?_
      · have := eqv_Rn (a.filter fun o => !decide (o ∈ st))
        show V.bl (PyData.eqv (eR (a.filter fun o => !decide (o ∈ st))) (eR [])) = _
        rw [this]
        rfl
      rw [dp_bool hv5]
      have eG6 := eG.trans e6
      have hx6 := dp_mono eG6 hx
      refine s_when (et_and (et_B (ev_var rfl)) fun _ => et_test (ev_chainEq (d := eS (taken L1 a)) (e := eS a) (f := eS (taken L2 a))
        (ed_call (ar_d (ed_ixL (K := K) (ds := [eL L1, eL L2]) (i := 0) (ed_var rfl (dp_mono eG6 h1G)) ev_c rfl) (ar_d (ed_var rfl hx6) ar_nil)) fun _ _ => ⟨L1, a, rfl, haA.1, l1, r1, rfl⟩) (ed_var rfl hx6)
        (ed_call (ar_d (ed_ixL (K := K) (ds := [eL L1, eL L2]) (i := 1) (ed_var rfl (dp_mono eG6 h1G)) ev_c rfl) (ar_d (ed_var rfl hx6) ar_nil)) fun _ _ => ⟨L2, a, rfl, haA.1, l2, r2, rfl⟩) (shaped_S _) (shaped_S _) (shaped_S _))) (fun hb H7 e7 => ?_) fun hb H7 e7 => ?_
      · rw [eqv_S, eqv_S, Bool.and_eq_true, Bool.and_eq_true, decide_eq_true_eq, decide_eq_true_eq] at hb
        obtain ⟨hb1, hb2, hb3⟩ := hb
        have eG7 := eG6.trans e7
        refine q_asgN (K := K) (ds := (st.filter fun o => !decide (o ∈ a)).map (eW a)) (en_is (en_lcL (K := K) (as := st) (e1 := PyData.int) (e2 := eW a) (Tg := fun a => TgN K _ 7 (.int a)) (fun o => !decide (o ∈ a)) id (ed_var rfl (dp_mono eG7 h3G)) (by omega) (flat_W a)
          (fun a ha x H1 e1 hx Q q => tg_name hx (fun _ => rfl) Q q) (fun o ho σ2 H2 e2 hT => ?_) (fun o ho σ2 H2 H3 e2 hT e3 hf => ?_)) (lcRes_id _ _)) fun pm ms H8 hpm e8 hms hmd => ?_
        · obtain ⟨y, rfl, hy⟩ := hT
          exact et_test (ev_niS (ed_var rfl hy) (ed_var rfl (dp_mono (eG7.trans e2) hx)))
        · obtain ⟨y, rfl, hy⟩ := hT
          rw [Bool.not_eq_true', decide_eq_false_iff_not] at hf
          refine ed_tup (eds_cons (ed_var rfl (dp_mono e3 hy)) (eds_cons (ed_is (ed_tupOf (EvN.toD (en_sortedT (as := a ++ [o]) (en := PyData.int) (ed_is (ed_catT (K := K) (ds := a.map PyData.int) (es := [.int o]) (ed_var rfl (dp_mono ((eG7.trans e2).trans e3) hx)) (ed_tup (eds_cons (ed_var rfl (dp_mono e3 hy)) eds_nil) (by show 1 ≤ 100000; decide)) ?_) ?_) (fun _ _ => rfl) (.inr fun z => ⟨fun h => (by cases h), fun xs h => (by cases h)⟩) (fun z => by rw [depth_int]; decide) ?_))) ?_) eds_nil)) (by show 2 ≤ 100000; decide)
          · rw [List.length_map]
            show a.length + 1 ≤ 100000
            omega
          · rw [List.map_append]
            rfl
          · rw [List.length_append]
            show a.length + 1 ≤ 100000
            omega
          · show PyData.tuple (((a ++ [o]).mergeSort (dataLe false fun n : Int => .int n)).map .int) = _
            rw [leInt_eq]
            rfl
        · have eG8 := eG7.trans e8
          have hins : ∀ o ∈ st.filter (fun o => !decide (o ∈ a)), Asc n (ins a o) := fun o ho => by
            obtain ⟨z1, z2⟩ := List.mem_filter.mp ho
            rw [Bool.not_eq_true', decide_eq_false_iff_not] at z2
            exact asc_ins haA z2 (ast.2 o z1)
          have hstf := List.length_filter_le (fun o => !decide (o ∈ a)) st
          refine s_when (b := decide (wished L1 L2 st a = [])) (et_is (et_test (ev_eqD (K := K) (e := eR []) (EvN.toD (en_is (es := (wished L1 L2 st a).map .int) (en_lcL (K := K) (as := st.filter fun o => !decide (o ∈ a)) (e1 := eW a) (e2 := PyData.int) (Tg := fun o => TgP K _ 8 9 (.int o) (eS (ins a o))) (fun o => decide (o ∈ taken L1 (ins a o)) && decide (o ∈ taken L2 (ins a o))) id (ed_var rfl (.lst (sq_of hms) hmd)) (by omega) flat_int
            (fun o ho x H1 e1 hx Q q => tg_pair hx (fun _ _ => rfl) Q q) (fun o ho σ2 H2 e2 hT => ?_) (fun o ho σ2 H2 H3 e2 hT e3 _ => ?_)) ?_)) ed_nilL (shaped_R _) (shaped_R _))) (eqv_Rn _)) (fun hw H9 e9 => ?_) fun hw H9 e9 => ?_
          · obtain ⟨y8, y9, rfl, hy8, hy9⟩ := hT
            have eG2 := eG8.trans e2
            refine et_and (et_test (ev_inS (ed_var rfl hy8) (ed_call (ar_d (ed_ixL (K := K) (ds := [eL L1, eL L2]) (i := 0) (ed_var rfl (dp_mono eG2 h1G)) ev_c rfl) (ar_d (ed_var rfl hy9) ar_nil)) fun _ _ => ⟨L1, ins a o, rfl, (hins o ho).1, l1, r1, rfl⟩))) fun _ =>
              et_test (ev_inS (ed_var rfl hy8) (ed_call (ar_d (ed_ixL (K := K) (ds := [eL L1, eL L2]) (i := 1) (ed_var rfl (dp_mono eG2 h1G)) ev_c rfl) (ar_d (ed_var rfl hy9) ar_nil)) fun _ _ => ⟨L2, ins a o, rfl, (hins o ho).1, l2, r2, rfl⟩))
          · obtain ⟨y8, y9, rfl, hy8, hy9⟩ := hT
            exact ed_var rfl (dp_mono e3 hy8)
          · rw [lcRes_id, wish_two]
          · have hw' := of_dec hw
            have hset : (within a st && settled L1 L2 st a) = true := by
              unfold settled agreed
              rw [hb1, decide_eq_true hb2, decide_eq_true hb3.symm, decide_eq_true hw']
              rfl
            have ez := ((e6.trans e7).trans e8).trans e9
            have hz9 := ez _ _ hz
            refine s_appD (K := K) hz9 (ev_var rfl) (ed_var rfl (dp_mono (eG8.trans e9) hx)) ?_ fun v Hv ev hv => ?_
            · have z1 := dpAll_len hzd
              have z2 := List.length_filter_le (fun s => within s st && settled L1 L2 st s) l
              have z3 := congrArg List.length hsp
              rw [List.length_append] at z3
              rw [z1, List.length_map]
              omega
            · have hzv := ev _ _ hz9
              obtain ⟨q1, q2⟩ := after_app hzv (dpAll_mono (ez.trans ev) hzd) hv (flatTs_map flat_S _) (flat_S _)
              refine ⟨Ex.mut ((eG8.trans e9).trans ev) hid_d, (bt.trans (Bt.of (ez.trans ev))).trans Bt.upd, ⟨_, _, _, _, _, _, rfl⟩, _, q1, ?_⟩
              rw [List.filter_append, List.filter_cons, if_pos hset, List.map_append]
              exact q2
          · have hset : (within a st && settled L1 L2 st a) = false := by
              unfold settled
              rw [hw, Bool.and_false, Bool.and_false]
            have ez := ((e6.trans e7).trans e8).trans e9
            refine ⟨eG8.trans e9, bt.trans (Bt.of ez), ⟨_, _, _, _, _, _, rfl⟩, zs, ez _ _ hz, ?_⟩
            rw [List.filter_append, List.filter_cons, if_neg (by rw [hset]; decide), List.filter_nil, List.append_nil]
            exact dpAll_mono ez hzd
      · have hset : (within a st && settled L1 L2 st a) = false := by
          rw [eqv_S, eqv_S] at hb
          cases hww : within a st with
          | false => rfl
          | true =>
            rw [hww, Bool.true_and] at hb
            unfold settled agreed
            rw [show decide (taken L2 a = a) = decide (a = taken L2 a) from decide_eq_decide.mpr ⟨Eq.symm, Eq.symm⟩, hb]
            rfl
        have ez := e6.trans e7
        refine ⟨eG6.trans e7, bt.trans (Bt.of ez), ⟨_, _, _, _, _, _, rfl⟩, zs, ez _ _ hz, ?_⟩
        rw [List.filter_append, List.filter_cons, if_neg (by rw [hset]; decide), List.filter_nil, List.append_nil]
        exact dpAll_mono ez hzd
    · obtain ⟨eG, bt, ⟨x4, x5, x6, x7, x8, x9, rfl⟩, zs, hz, hzd⟩ := pw
      have hfl := List.length_filter_le (fun s => within s st && settled L1 L2 st s) (allSets n)
      refine s_retN (K := K) (en_sorted (as := (allSets n).filter fun s => within s st && settled L1 L2 st s) (en := eS) (ed_var rfl (.lst (sq_of hz) hzd)) alike_S (.inl fun a => ⟨_, rfl⟩) (fun a => Nat.le_trans (depth_S a) (by decide)) (by omega)) fun r ys H6 hr6 e6 hys hyd => ?_
      have eNf : ExtN H H6 := fun a o ha ht => e6 _ _ (bt a o (ne_of_none ha hpf) (eN5 a o ha ht))
      have e7 : ((allSets n).filter fun s => within s st && settled L1 L2 st s).mergeSort (dataLe false eS) = kept leS L1 L2 st := keptLaw_eq leS L1 L2 n1 n4 ast
      rw [e7] at hyd
      exact q r ys H6 eNf ((Tabs.bt T5 hpf5 (fun ps z => by cases z) (fun φ z => by cases z) bt).ext e6) (freshN_of (fun a o ha ht => bt a o (ne_of_none ha hpf) (eN5 a o ha ht)) hr6) hys hyd
end
end K49
namespace K49
open PySem PySem.Spec PySem.W PyProof.Rows L2 Evl
/-! ## tuples whose one object is known and has no dict -/
def PlT (H : Hp) (v : V) : Prop := ∃ a o xs, v = .ref a ∧ H a = some (.frz o (.tup xs)) ∧ o.dict = none
theorem PlT.mono {H H' : Hp} {v : V} (e : Ex H H') (h : PlT H v) : PlT H' v := by
  obtain ⟨a, o, xs, h1, h2, h3⟩ := h
  exact ⟨a, o, xs, h1, e _ _ h2, h3⟩
section
variable {X : Cx}
def tTupF (t : TA) : TE := fun σ H Q => t σ H fun xs H1 => xs.length ≤ sizeLine ∧ ∀ p (o : Obj), H1 p = none → o.dict = none → Q (.ref p) (upd H1 p (.frz o (.tup xs)))
theorem pe_tupF {es : List Expr} {t : TA} {pos : PySem.Pos} {x1} (h : PA X es t) : PE X (.Tuple es x1 pos) (tTupF t) := by
  refine ⟨fun pins s σ H Q I hq => wpAny_Tuple_spliced (thn (h.run pos pins s σ H _ I hq) fun us s1 hh => ?_)⟩
  obtain ⟨xs, H1, I1, r, z, q⟩ := hh
  refine ⟨by rw [← r.length]; exact z, .ref s1.heap.objs.size, upd H1 s1.heap.objs.size (.frz { cls := .type "tuple", data := .seq us.toArray } (.tup xs)), I1.laid (t' := s1.toks) (fun b u e => Heap.get?_push_of_some _ e) (Nat.le_refl _) ?_, rfl, q _ _ I1.fresh rfl⟩
  exact ⟨Heap.get?_push_size _ rfl, z, us, r, ⟨_, Heap.get?_push_size _ rfl, rfl, _, rfl⟩⟩
def rCatF (K : PySem.W.Frag) : R2 := fun x y H Q => ∃ a b xs ys, x = .ref a ∧ y = .ref b ∧ SqT K H a xs ∧ SqT K H b ys ∧ xs.length + ys.length ≤ sizeLine ∧
  (xs = [] → Q (.ref b) H) ∧ (xs ≠ [] → ys = [] → Q (.ref a) H) ∧ (xs ≠ [] → ys ≠ [] → ∀ p (o : Obj), H p = none → o.dict = none → Q (.ref p) (upd H p (.frz o (.tup (xs ++ ys)))))
theorem op_catF : OpR X (binaryOp .Add) (rCatF X.K) := by
  intro pins s σ H x y v u Q I rx ry h
  obtain ⟨a, b, xs, ys, rfl, rfl, ha, hb, hz, q0, q1, q2⟩ := h
  cases rx
  cases ry
  obtain ⟨its, r1, p1, _⟩ := I.tuple ha
  obtain ⟨its2, r2, p2, _⟩ := I.tuple hb
  by_cases hx : xs = []
  · subst hx
    cases r1
    exact L2.cat_tup0 p1 p2 ⟨.ref b, H, I, rfl, q0 rfl⟩
  · refine HT.cat_tup p1 p2 (fun z => hx (r1.nil_iff.mp z)) (fun z => ⟨.ref a, H, I, rfl, q1 hx (r2.nil_iff.mp z)⟩) (fun z => ?_) (by rw [← r1.length, ← r2.length]; exact hz)
    refine ⟨.ref s.heap.objs.size, _, I.laid (t' := s.toks) (o := .frz { cls := .type "tuple", data := .seq (its ++ its2).toArray } (.tup (xs ++ ys))) (fun b ob q => Heap.get?_push_of_some _ q) (Nat.le_refl _) ?_, rfl, q2 hx (fun w => z (r2.nil_iff.mpr w)) _ _ I.fresh rfl⟩
    exact ⟨Heap.get?_push_size _ rfl, by rw [List.length_append]; exact hz, _, r1.append r2, IsTup.new _ _⟩
/-- tuple(a list), its items as they are -/
def rTupF (K : PySem.W.Frag) : List V → Hp → VK → Prop := fun xs H Q => ∃ p ys, xs = [.ref p] ∧ SqL K H p ys ∧ ∀ l (o : Obj), H l = none → o.dict = none → Q (.ref l) (upd H l (.frz o (.tup ys)))
theorem call_tupF : CallR X (.type "tuple") (rTupF X.K) := by
  intro pins s σ H xs us Q I r h
  obtain ⟨p, ys, rfl, hq, q⟩ := h
  obtain ⟨u, rfl, rx⟩ := vals1 r
  cases rx
  obtain ⟨its, r', pl, hz⟩ := I.list hq
  have hlen := r'.length
  refine call_tuple_list pl.isList (fun h' kp => ?_) (by simp only [List.size_toArray] <;> omega)
  have I1 : Inv X pins σ H { s with heap := h' } := I.kept (t' := s.toks) kp
  exact ⟨.ref h'.objs.size, _, I1.laid (t' := s.toks) (o := .frz { cls := .type "tuple", data := .seq its.toArray } (.tup ys)) (fun b o e => Heap.get?_push_of_some _ e) (Nat.le_refl _) ⟨Heap.get?_push_size _ rfl, hz, its, r', IsTup.new _ _⟩, rfl, q _ _ I1.fresh rfl⟩
theorem pairs_of2 {pins : List (Addr × Obj)} {σ : L2.St} {H : Hp} {s : Shared} (I : Inv X pins σ H s) : ∀ {ps : List Addr} {kvs : List (Key × V)}, Paired (fun p kv => SqT X.K H p [kV kv.1, kv.2]) ps kvs →
    ∃ (prs : List (Key × Value)) (vps : List (Value × Value)), KV kvs prs ∧ prs.length = ps.length ∧ vps.length = ps.length ∧ ∀ (j : Nat) (q : Value × Value), vps[j]? = some q → ∃ (b : Addr) (k : Key), ps[j]? = some b ∧ IsTup s.heap b #[q.1, q.2] ∧ prs[j]? = some (k, q.2) ∧ keyIs k q.1 = true
  | _, _, .nil => ⟨[], [], .nil, rfl, rfl, fun j q e => by simp at e⟩
  | _, _, .cons (a := p) (b := kv) h t => by
    obtain ⟨prs, vps, r, hl, hl2, hp⟩ := pairs_of2 I t
    obtain ⟨its, rv, ht, _⟩ := I.tuple h
    obtain ⟨u, y, ei, ru, ry⟩ := vals2 rv
    subst ei
    refine ⟨(kv.1, y) :: prs, (u, y) :: vps, .cons ⟨rfl, ry⟩ r, by rw [List.length_cons, List.length_cons, hl], by rw [List.length_cons, List.length_cons, hl2], fun j q e => ?_⟩
    cases j with
    | zero =>
      obtain rfl : (u, y) = q := Option.some.inj e
      exact ⟨p, kv.1, rfl, ht, rfl, kV_is (P := X.prog) (w := X.w) ru⟩
    | succ j =>
      obtain ⟨b, k, e1, e2, e3, e4⟩ := hp j q (by simpa using e)
      exact ⟨b, k, by simpa using e1, e2, by simpa using e3, e4⟩
/-- dict(such a tuple of pairs) -/
def rDictF (K : PySem.W.Frag) : List V → Hp → VK → Prop := fun xs H Q => ∃ (a : Addr) (ps : List Addr) (kvs : List (Key × V)), xs = [.ref a] ∧ SqT K H a (ps.map V.ref) ∧ PlT H (.ref a) ∧ Paired (fun p kv => SqT K H p [kV kv.1, kv.2]) ps kvs ∧
  ∀ p, H p = none → Q (.ref p) (upd H p (.dK (mergeK [] kvs)))
theorem call_dictF (hcalm : X.calm = true) : CallR X (.type "dict") (rDictF X.K) := by
  intro pins s σ H xs us Q I r q
  obtain ⟨a, ps, kvs, rfl, hq, hpl, hp, q⟩ := q
  obtain ⟨u, rfl, rx⟩ := vals1 r
  cases rx
  obtain ⟨a', o, ys, ea, hqf, hdn⟩ := hpl
  obtain rfl : a = a' := V.ref.inj ea
  obtain ⟨ho, _⟩ := (show ObjOk X.prog X.w H s.heap a (.frz o (.tup ys)) from I.hok a _ hqf)
  obtain ⟨its, rv, ⟨o2, ho2, hc, n, hdat⟩, hz⟩ := I.tuple hq
  obtain rfl : o2 = o := by
    rw [ho] at ho2
    exact (Option.some.inj ho2).symm
  have ei := refs_at rv
  subst ei
  rw [List.length_map] at hz
  obtain ⟨prs, vps, rel, hl, hl2, hpr⟩ := pairs_of2 I hp
  refine PySem.call_dict_pairs (knd := mixKind X.prog X.w) (kvs := prs) (PairArg.tuple a (ps.map Value.ref).toArray (fun j => ps.getD j 0) vps) (I.ok.hd hcalm) ⟨⟨_, n, ho, hc, hdn, hdat⟩, by simp [hl2], fun j k v e => ?_⟩ ⟨by rw [hl, hl2], fun i k v e => ?_⟩ (by rw [hl2]; exact hz) fun h' tk hd' k => ?_
  · obtain ⟨b, q, e1, e2, _, _⟩ := hpr j (k, v) e
    have e3 : ps.getD j 0 = b := by rw [List.getD_eq_getElem?_getD, e1]; rfl
    dsimp only
    rw [e3]
    exact ⟨by simp [e1], .inl e2⟩
  · obtain ⟨b, q, e1, e2, e3, e4⟩ := hpr i (k, v) e
    exact ⟨q, e3, e4⟩
  · have hm : (s.heap.objs.size == sysModules) = false := beq_eq_false_iff_ne.mpr (Nat.ne_of_gt I.big)
    have hlen : (mergeK [] kvs).length ≤ sizeLine := by
      refine Nat.le_trans (length_mergeK kvs []) ?_
      rw [List.length_nil, Nat.zero_add, rel.length, hl]
      exact hz
    exact ⟨.ref s.heap.objs.size, upd H s.heap.objs.size (.dK (mergeK [] kvs)), I.laid (t' := tk) (fun b o e => k b o (fun z => nomatch z) e) (Nat.le_refl _) (show ObjOk X.prog X.w _ _ _ (.dK (mergeK [] kvs)) from ⟨hlen, hm, merged [] prs, KV.merge rel .nil, hd'⟩), rfl, q _ I.fresh⟩
end
end K49
namespace K49
open PySem PySem.Spec PySem.W PyProof.Rows L2 Evl
/-! ## d.items(), sorted -/
theorem paired_at {α β : Type} {F : α → β → Prop} : ∀ {l : List α} {m : List β}, l.length = m.length → (∀ (j : Nat) a b, l[j]? = some a → m[j]? = some b → F a b) → Paired F l m
  | [], [], _, _ => .nil
  | a :: l, b :: m, h, f => .cons (f 0 a b rfl rfl) (paired_at (Nat.succ.inj h) fun j x y e1 e2 => f (j + 1) x y (by simpa using e1) (by simpa using e2))
section
variable {X : Cx}
def rItemsK : V → List V → Hp → VK → Prop := fun x xs H Q => ∃ (a : Addr) (kvs : List (Key × V)), x = .ref a ∧ xs = [] ∧ H a = some (.dK kvs) ∧ ∀ p, H p = none → Q (.ref p) (upd H p (DX.itemsO p a))
theorem mt_itemsK : MtR X "dict.items" rItemsK := by
  intro pins s σ H x xs v us Q I rx rxs h
  obtain ⟨a, kvs, rfl, rfl, ha, q⟩ := h
  cases rx
  cases rxs
  obtain ⟨z, hd, vs, rel, o, es, ep, ho, hx, hdat, _⟩ := dk_of I.hok ha
  refine DT.callItems (es := es) (ep := ep) hd ⟨o, ho, hx, hdat⟩ ?_
  exact ⟨.ref s.heap.objs.size, upd H s.heap.objs.size (DX.itemsO s.heap.objs.size a), I.laid (t' := s.toks) (fun b u e => Heap.get?_push_of_some _ e) (Nat.le_refl _) (DX.itemsO_ok (Heap.get?_push_size _ rfl)), rfl, q _ I.fresh⟩
def cItems : V → Hp → (List V → Hp → Prop) → Prop := fun x H Q => ∃ (p a : Addr) (kvs : List (Key × V)), x = .ref p ∧ H p = some (DX.itemsO p a) ∧ H a = some (.dK kvs) ∧
  ∀ H2 (ts : List Addr), Ex H H2 → Paired (fun (t : Addr) (q : Key × V) => H2 t = some (.tup [kV q.1, q.2])) ts kvs → Q (ts.map V.ref) H2
theorem cl_items (hc : X.calm = true) : CollR X cItems := by
  intro pins s σ H x v E Q I rx h
  obtain ⟨p, a, kvs, rfl, hp, ha, q⟩ := h
  cases rx
  have view : s.heap.IsItemsView p a := (show ObjOk X.prog X.w H s.heap p (DX.itemsO p a) from I.hok p _ hp).1
  obtain ⟨hz, hs0, vs, kv, hdo⟩ := I.hok a _ ha
  obtain ⟨ep, hat⟩ := hdo.dictAt
  have lk : kvs.length = vs.length := Paired.length kv
  refine kdx_collect (knd := mixKind X.prog X.w) (kvs := vs) (ep := ep) (I.ok.hd hc) view hat (by omega) fun h' tk as hk hl hG => ?_
  have nd : as.Nodup := List.Pairwise.imp (fun {a b} (h : a < b) => Nat.ne_of_lt h) hG.rise
  obtain ⟨H2, I2, e2, ht⟩ := DX.takeT (P := fun b ws => ∃ (j : Nat) (pk : Key × V), as[j]? = some b ∧ kvs[j]? = some pk ∧ ws = [kV pk.1, pk.2]) I as H (I.kept (t' := tk) hk) nd fun b hb => by
    obtain ⟨j, hj⟩ := List.mem_iff_getElem?.mp hb
    obtain ⟨key, k, x, f1, f2, f3⟩ := hG.pairs j b hj
    obtain ⟨pk, hpk, g1, g2⟩ : ∃ pk, kvs[j]? = some pk ∧ pk.1 = k ∧ RelV pk.2 x := by
      obtain ⟨y, h1, h2⟩ := L2.DX.pget kv f1
      exact ⟨y, h1, h2⟩
    have hbl : s.heap.objs.size ≤ b := Nat.le_of_lt (hG.above b hb)
    have rk : RelV (kV pk.1) key := by
      rw [g1]
      exact relV_key (show keyIs k key = true from f2)
    exact ⟨hbl, I.hok.fresh hbl, _, ⟨j, pk, hj, hpk, rfl⟩, fun H3 => ⟨by show 2 ≤ sizeLine; decide, [key, x], .cons rk (.cons g2 .nil), ⟨_, f3, rfl, _, rfl⟩⟩⟩
  refine ⟨as.map V.ref, H2, I2, LiI.vals_refs as, q H2 as e2 (paired_at (by omega) fun j b pk h1 h2 => ?_)⟩
  obtain ⟨ws, ⟨j', pk', h3, h4, h5⟩, h6⟩ := ht b (List.mem_of_getElem? h1)
  have ej : j = j' := (List.getElem?_inj (List.getElem?_eq_some_iff.mp h1).1 nd).mp (h1.trans h3.symm)
  subst ej
  rw [h2] at h4
  rw [← Option.some.inj h4] at h5
  rw [h6, h5]
/-- sorted(x); what holds of each value stays with it -/
theorem each_ex {α : Type} {R : Value → α → Prop} {ex : V → α → Prop} {K : PySem.W.Frag} {H : Hp} {en : α → PyData} : ∀ {as : List α} {ys : List V} {us : List Value}, DpAll K H ys (as.map en) → Vals ys us → Paired ex ys as → EachIs R us as → EachIs (fun v b => ∃ y, RelV y v ∧ Dp K H y (en b) ∧ ex y b) us as
  | [], _, _, h, r, _, _ => by
    cases h
    cases r
    exact .nil
  | a :: as, _, _, h, r, hx, e => by
    cases h with
    | cons h1 h2 =>
      cases r with
      | cons r1 r2 =>
        cases e with
        | cons e1 e2 =>
          cases hx with
          | cons x1 x2 => exact .cons ⟨_, r1, h1, x1⟩ (each_ex h2 r2 x2 e2)
theorem ex_of_each {K : PySem.W.Frag} {H : Hp} {α : Type} {en : α → PyData} {ex : V → α → Prop} : ∀ {as : List α} {us : List Value}, EachIs (fun v b => ∃ y, RelV y v ∧ Dp K H y (en b) ∧ ex y b) us as → ∃ zs, Vals zs us ∧ DpAll K H zs (as.map en) ∧ Paired ex zs as
  | _, _, .nil => ⟨[], .nil, .nil, .nil⟩
  | _, _, .cons ⟨y, r, h, hx⟩ t => by
    obtain ⟨zs, h1, h2, h3⟩ := ex_of_each t
    exact ⟨y :: zs, .cons r h1, .cons h h2, .cons hx h3⟩
def rSortE {α : Type} (K : PySem.W.Frag) (en : α → PyData) (ex : Hp → V → α → Prop) : List V → Hp → VK → Prop := fun xs H Q => ∃ (a : Addr) (ys : List V) (as : List α), xs = [.ref a] ∧ SqL K H a ys ∧ Paired (ex H) ys as ∧ DpAll K H ys (as.map en) ∧ AllAlike (as.map en) ∧ Srt2 (as.map en) ∧
  (∀ a ∈ as, (en a).depth ≤ 50) ∧ as.length ≤ 100000 ∧ ∀ p zs, H p = none → DpAll K H zs ((as.mergeSort (dataLe false en)).map en) → Paired (ex H) zs (as.mergeSort (dataLe false en)) → Q (.ref p) (upd H p (.lst zs))
theorem cr_sortE {α : Type} {en : α → PyData} {ex : Hp → V → α → Prop} (hu : X.A.units + 64 < cLine) : CallR X (.builtin "sorted") (rSortE X.K en ex) := by
  intro pins s σ H xs us Q I rx h
  obtain ⟨a0, ys, as, rfl, hs, hex, hd, hal, hsr, hdep, hlen, q⟩ := h
  obtain ⟨u, rfl, r1⟩ := vals1 rx
  refine Calls.call_function_entry kind_sorted plain_sorted entry_sorted (args_sorted1 _) ?_
  unfold Builtin.«sorted»
  refine wpAny_bind (m := checkCount "sorted" 1 1 _) (wpAny_pure ?_)
  refine wpAny_bind (wpAny_mono (cl_seq pins s σ H (.ref a0) u _ (fun zs H1 => zs = ys ∧ H1 = H) I r1 ⟨a0, ys, rfl, .inl hs, rfl, rfl⟩) (fun vs s1 hq => ?_) fun _ _ e => e)
  obtain ⟨ys', H1, I1, rv, e1, e2⟩ := hq
  obtain rfl : ys' = ys := e1
  obtain rfl : H1 = H := e2
  have hvl : vs.length = as.length := by rw [← rv.length, dpAll_len hd, List.length_map]
  have hz : vs.length ≤ sizeLine := sz_of (by omega)
  have e := each_of_dp I1 hd rv
  refine wpAny_bind (wpAny_newList ?_ hz)
  have hoL : (s1.heap.push (seqObj "list" vs.toArray 0)).get? s1.heap.objs.size = some (seqObj "list" vs.toArray 0) := Heap.get?_push_size _ rfl
  have hold : ∀ b o, s1.heap.get? b = some o → (sortingHeap (s1.heap.push (seqObj "list" vs.toArray 0)) s1.heap.objs.size vs).get? b = some o := fun b o q =>
    sortingHeap_old (Nat.ne_of_lt (Heap.lt_size q)) (Heap.get?_push_of_some _ q)
  have er : EachIs (fun v b => ∃ bs, Reads (sortingHeap (s1.heap.push (seqObj "list" vs.toArray 0)) s1.heap.objs.size vs) v (en b) bs) vs as := e.mono fun _ _ z => let ⟨bs, rr⟩ := z.2; ⟨bs, PyProof.Rows.Reads.keeps hold rr⟩
  have S : SortsAt X.prog X.w X.A.in1.in1 { s1 with heap := sortingHeap (s1.heap.push (seqObj "list" vs.toArray 0)) s1.heap.objs.size vs } _ vs :=
    sorts_data (s := { s1 with heap := sortingHeap (s1.heap.push (seqObj "list" vs.toArray 0)) s1.heap.objs.size vs }) (each_map (R := fun v d => ∃ bs, Reads (sortingHeap (s1.heap.push (seqObj "list" vs.toArray 0)) s1.heap.objs.size vs) v d bs) en er) hal hsr (fun d hd' => by
      obtain ⟨a, ha, rfl⟩ := List.mem_map.mp hd'
      have h1 := hdep a ha
      have h2 : X.A.in1.in1.units = X.A.units + 2 := rfl
      rw [h2]
      omega)
  refine wpAny_bind (wpAny_holding (wpAny_call_entry slot_list_sort ⟨_, hoL, rfl⟩ entry_list_sort
    (list_sort_vals (s := { s1 with heap := s1.heap.push (seqObj "list" vs.toArray 0) }) hoL S hz ⟨_, rfl, ?_⟩) (args_list_sort _)))
  have eo : EachIs (fun v b => ∃ y, RelV y v ∧ Dp X.K H1 y (en b) ∧ ex H1 y b) (sortVals (dataKind (sortingHeap (s1.heap.push (seqObj "list" vs.toArray 0)) s1.heap.objs.size vs) (as.map en)) false vs vs) (as.mergeSort (dataLe false en)) :=
    sortVals_data false (each_ex (ex := ex H1) hd rv hex e) er hal
  obtain ⟨zs, z1, z2, z3⟩ := ex_of_each eo
  obtain ⟨ep, he⟩ := sortedHeap_at (vs := vs) (out := (sortVals (dataKind (sortingHeap (s1.heap.push (seqObj "list" vs.toArray 0)) s1.heap.objs.size vs) (as.map en)) false vs vs).toArray) hoL
  have hzl : zs.length ≤ sizeLine := by
    rw [dpAll_len z2, List.length_map, List.length_mergeSort, ← hvl]
    exact hz
  refine wpAny_pure ⟨_, rfl, .ref s1.heap.objs.size, upd H1 s1.heap.objs.size (.lst zs), I1.laid (t' := s1.toks) (fun b u eb => ?_) (Nat.le_refl _) (show ObjOk X.prog X.w _ _ _ (.lst zs) from ⟨hzl, _, ep, z1, he⟩), rfl, q _ zs I1.fresh z2 z3⟩
  rw [sortedHeap_old (Nat.ne_of_lt (Heap.lt_size eb)) (by rw [size_push']; exact Nat.lt_succ_of_lt (Heap.lt_size eb))]
  exact Heap.get?_push_of_some _ eb
end
end K49
namespace K49
open PySem PySem.Spec PySem.W PyProof.Rows L2 Evl
/-! ## data whose tuple has no dict; lists of such -/
def EvDX (K : PySem.W.Frag) (te : TE) (σ : L2.St) (H : Hp) (d : PyData) : Prop := ∀ H1, Ex H H1 → ∀ Q : VK, (∀ v H2, Ex H1 H2 → Dp K H2 v d → PlT H2 v → Q v H2) → te σ H1 Q
def EvNX (K : PySem.W.Frag) (te : TE) (σ : L2.St) (H : Hp) (ds : List PyData) : Prop := ∀ H1, Ex H H1 → ∀ Q : VK, (∀ p xs H2, H1 p = none → Ex H1 H2 → H2 p = some (.lst xs) → DpAll K H2 xs ds → (∀ x ∈ xs, PlT H2 x) → Q (.ref p) H2) → te σ H1 Q
theorem PlT.upd {H : Hp} {p : Addr} {xs : List V} {o : HO} {v : V} (hp : H p = some (.lst xs)) (h : PlT H v) : PlT (upd H p o) v := by
  obtain ⟨a, u, ys, h1, h2, h3⟩ := h
  refine ⟨a, u, ys, h1, ?_, h3⟩
  rw [upd_ne (fun z => by rw [z, hp] at h2; cases h2)]
  exact h2
theorem fz_of {K : PySem.W.Frag} {H : Hp} {a : Addr} {o : Obj} {xs : List V} (h : H a = some (.frz o (.tup xs))) : SqT K H a xs := .inl (.inr ⟨o, h⟩)
section
variable {K : PySem.W.Frag} {σ : L2.St} {H : Hp} {ta tb te tl : TE} {tr : TA} {d e : PyData} {ds es : List PyData}
theorem EvDX.toD (h : EvDX K te σ H d) : EvD K te σ H d := fun H1 a Q q => h H1 a Q fun v H2 e2 hd _ => q v H2 e2 hd
theorem EvNX.toN (h : EvNX K te σ H ds) : EvN K te σ H ds := fun H1 a Q q => h H1 a Q fun p xs H2 hp e2 hx hd _ => q p xs H2 hp e2 hx hd
theorem dx_of {v : V} (h : Ev te σ H v) (hd : Dp K H v d) (hp : PlT H v) : EvDX K te σ H d := fun H1 a Q q => h H1 a Q fun H2 e2 => q v H2 e2 (dp_mono (a.trans e2) hd) (hp.mono (a.trans e2))
theorem dx_var {i : Nat} {v : V} (h : σ[i]? = some (some v)) (hd : Dp K H v d) (hp : PlT H v) : EvDX K (tVar i) σ H d := dx_of (ev_var h) hd hp
theorem dx_is (h : EvDX K te σ H d) (q : d = e) : EvDX K te σ H e := q ▸ h
theorem nx_is (h : EvNX K te σ H ds) (q : ds = es) : EvNX K te σ H es := q ▸ h
theorem dx_tup (h : EvDs K tr σ H ds) (hl : ds.length ≤ 100000) : EvDX K (tTupF tr) σ H (.tuple ds) := fun H1 a Q q => h H1 a _ fun vs H2 e2 hd => by
  refine ⟨sz_of (by rw [dpAll_len hd]; exact hl), fun p o hp ho => ?_⟩
  have e3 : Ex H2 (upd H2 p (.frz o (.tup vs))) := Ex.new hp
  exact q _ _ (e2.trans e3) (.tup (fz_of upd_same) (dpAll_mono e3 hd)) ⟨p, o, vs, rfl, upd_same, ho⟩
theorem dx_cat (ha : EvDX K ta σ H (.tuple ds)) (hb : EvDX K tb σ H (.tuple es)) (hl : ds.length + es.length ≤ 100000) : EvDX K (tOp (rCatF K) ta tb) σ H (.tuple (ds ++ es)) := fun H1 a Q q =>
  ha H1 a _ fun x H2 e2 dx px => hb H2 (a.trans e2) _ fun y H3 e3 dy py => by
    have dx3 := dp_mono e3 dx
    obtain ⟨p, xs, rfl, hs, hx⟩ := dp_tup dx3
    have dy3 := dy
    obtain ⟨r, ys, rfl, hs2, hy⟩ := dp_tup dy3
    have l1 := dpAll_len hx
    have l2 := dpAll_len hy
    refine ⟨p, r, xs, ys, rfl, rfl, hs, hs2, sz_of (by omega), fun z => ?_, fun _ z => ?_, fun _ _ l o hl ho => ?_⟩
    · subst z
      cases hx
      exact q _ H3 (e2.trans e3) dy py
    · subst z
      cases hy
      rw [List.append_nil] at q
      exact q _ H3 (e2.trans e3) dx3 (px.mono e3)
    · have e4 : Ex H3 (upd H3 l (.frz o (.tup (xs ++ ys)))) := Ex.new hl
      exact q _ _ ((e2.trans e3).trans e4) (.tup (fz_of upd_same) (dpAll_append (dpAll_mono e4 hx) (dpAll_mono e4 hy))) ⟨l, o, _, rfl, upd_same, ho⟩
theorem nx_lst1 (h : EvDX K te σ H d) : EvNX K (tLst (tCons te tNil)) σ H [d] := fun H1 a Q q => h H1 a _ fun v H2 e2 hd hp => by
  refine ⟨sz_of (by show 1 ≤ 100000; decide), fun p hpn => ?_⟩
  have e3 : Ex H2 (upd H2 p (.lst [v])) := Ex.new hpn
  exact q p [v] _ (fresh_back e2 hpn) (e2.trans e3) upd_same (.cons (dp_mono e3 hd) .nil) fun x hx => by rw [List.mem_singleton.mp hx]; exact hp.mono e3
theorem nx_lst0 : EvNX K (tLst tNil) σ H [] := fun H1 a Q q => ⟨Nat.zero_le _, fun p hpn => q p [] _ hpn (Ex.new hpn) upd_same .nil fun x hx => by cases hx⟩
theorem nx_cat {p : Addr} {xs : List V} (ha : Ev ta σ H (.ref p)) (hp : H p = some (.lst xs)) (hx : DpAll K H xs ds) (hpl : ∀ x ∈ xs, PlT H x) (hb : EvNX K tb σ H es) (hl : ds.length + es.length ≤ 100000) : EvNX K (tOp rCat ta tb) σ H (ds ++ es) := fun H1 a Q q =>
  ha H1 a _ fun H2 e2 => hb H2 (a.trans e2) _ fun r ys H3 hr e3 hr3 hy hpy => by
    have e03 := (a.trans e2).trans e3
    have hx3 := dpAll_mono e03 hx
    have l1 := dpAll_len hx3
    have l2 := dpAll_len hy
    refine ⟨p, r, xs, ys, rfl, rfl, e03 _ _ hp, hr3, sz_of (by omega), fun l hl => ?_⟩
    have e4 : Ex H3 (upd H3 l (.lst (xs ++ ys))) := Ex.new hl
    refine q l _ _ (fresh_back (e2.trans e3) hl) ((e2.trans e3).trans e4) upd_same (dpAll_append (dpAll_mono e4 hx3) (dpAll_mono e4 hy)) fun x hx => ?_
    rcases List.mem_append.mp hx with h | h
    · exact (hpl x h).mono (e03.trans e4)
    · exact (hpy x h).mono e4
theorem s_asgX {D : Ends} {i : Nat} (h : EvNX K te σ H ds) (k : ∀ p xs H1, H p = none → Ex H H1 → H1 p = some (.lst xs) → DpAll K H1 xs ds → (∀ x ∈ xs, PlT H1 x) → D.nx (σ.set i (some (.ref p))) H1) : tAsg te (gName i) D σ H :=
  h H (Ex.refl H) _ fun p xs H1 hp e hx hd hl => k p xs H1 hp e hx hd hl
theorem q_asgX {D : Ends} {tz : TS} {i : Nat} (h : EvNX K te σ H ds) (k : ∀ p xs H1, H p = none → Ex H H1 → H1 p = some (.lst xs) → DpAll K H1 xs ds → (∀ x ∈ xs, PlT H1 x) → tz D (σ.set i (some (.ref p))) H1) : tSeq (tAsg te (gName i)) tz D σ H :=
  s_asgX (D := { D with nx := tz D }) h k
variable {α β : Type} {as : List α} {e1 : α → PyData} {e2 : β → PyData} {vs : List Nat} {j : Nat}
theorem nx_lc {p : Addr} {xs : List V} (gg : α → β) (hl : Ev tl σ H (.ref p)) (hp : H p = some (.lst xs)) (hx : DpAll K H xs (as.map e1)) (hpl : ∀ x ∈ xs, PlT H x) (hz : as.length ≤ 40000) (fl : ∀ b, flatT (e2 b) = true) (hw : ∀ x, wipe ((wipe σ vs).set j (some x)) vs = wipe σ vs)
    (he : ∀ a ∈ as, ∀ x H1, Ex H H1 → Dp K H1 x (e1 a) → PlT H1 x → EvDX K te ((wipe σ vs).set j (some x)) H1 (e2 (gg a))) : EvNX K (tLc (iList K tl) (gName j) tYes te vs) σ H ((as.map gg).map e2) := fun H0 e Q q =>
  hl H0 e _ fun H1 ev => by
    have e01 := e.trans ev
    have hx1 := dpAll_mono e01 hx
    have hp1 := e01 _ _ hp
    refine ⟨p, rfl, ⟨xs, sq_of hp1⟩, fun Dl hD => lc_list (xs := xs) (fun i H' => Ex H1 H' ∧ ∃ ys, H' Dl = some (.lst ys) ∧ DpAll K H' ys (((as.take i).map gg).map e2) ∧ ∀ y ∈ ys, PlT H' y) ⟨Ex.new hD, [], upd_same, .nil, fun x hx => by cases hx⟩
      (fun i H' _ w => sq_of (w.1 _ _ hp1)) (fun i x H' hi w => ?_) fun H' w => ?_⟩
    · obtain ⟨d, hd, hxd⟩ := dpAll_at hx1 hi
      rw [List.getElem?_map] at hd
      obtain ⟨b, hb, rfl⟩ := Option.map_eq_some_iff.mp hd
      obtain ⟨w1, ys, w2, w3, w4⟩ := w
      refine ⟨hw x, ?_⟩
      unfold tYes
      dsimp only
      rw [if_pos rfl, take_snoc hb]
      have hm := List.mem_of_getElem? hb
      refine he b hm x H' (e01.trans w1) (dp_mono w1 hxd) ((hpl x (List.mem_of_getElem? hi)).mono (e01.trans w1)) H' (Ex.refl _) _ fun y H4 e4 hy py => ?_
      have w2' := e4 _ _ w2
      obtain ⟨a1, a2⟩ := after_app w2' (dpAll_mono e4 w3) hy (flatTs_map fl _) (fl _)
      have hzl : ys.length < sizeLine := by
        refine sz_lt ?_
        have h1 := List.length_take_le' i as
        rw [dpAll_len w3, List.length_map, List.length_map]
        omega
      refine ⟨ys, w2', hzl, Ex.mut (w1.trans e4) hD, _, a1, ?_, fun z hz => ?_⟩
      · rw [List.map_append, List.map_append]
        exact a2
      · rcases List.mem_append.mp hz with h | h
        · exact ((w4 z h).mono e4).upd w2'
        · rw [List.mem_singleton.mp h]
          exact py.upd w2'
    · have hlen : xs.length = as.length := by rw [dpAll_len hx, List.length_map]
      rw [hlen, List.take_length] at w
      obtain ⟨w1, ys, w2, w3, w4⟩ := w
      exact q Dl ys H' (fresh_back ev hD) (ev.trans w1) w2 w3 w4
end
end K49
namespace K49
open PySem PySem.Spec PySem.W PyProof.Rows L2 Evl
theorem datsL_small {lives : List Int} {n : Nat} (h : ∀ x ∈ lives, x ≤ 3) (hn : n ≤ 4) : (datsL lives n).length ≤ 256 := by
  rw [← (dats_perm lives n).length_eq]
  exact dats_small h hn
def freshL (lives : List Int) (k i : Nat) : List Dt := (List.range i).flatMap fun (i : Nat) => (datsL lives k).map fun d => d ++ [((k : Int), 1 + (i : Int))]
theorem freshL_len (lives : List Int) (k : Nat) : ∀ i, (freshL lives k i).length = i * (datsL lives k).length
  | 0 => by simp [freshL]
  | i + 1 => by
    have ih := freshL_len lives k i
    unfold freshL at ih ⊢
    rw [List.range_succ, List.flatMap_append, List.length_append, ih, List.flatMap_cons, List.flatMap_nil, List.append_nil, List.length_map, Nat.add_mul, Nat.one_mul]
theorem freshL_succ (lives : List Int) (k i : Nat) : freshL lives k (i + 1) = freshL lives k i ++ (datsL lives k).map fun d => d ++ [((k : Int), 1 + (i : Int))] := by
  unfold freshL
  rw [List.range_succ, List.flatMap_append, List.flatMap_cons, List.flatMap_nil, List.append_nil]
section
variable {P : Program} {w : World} {K : PySem.W.Frag} {mg : Str → Option Value} {base : Heap} {C T : Addr}
/-! _law_all_dated -/
def spLD (K : PySem.W.Frag) : Sp := fun vs H Q _ => ∃ (v : V) (lives : List Int), vs = [v] ∧ Dp K H v (eS lives) ∧ lives.length ≤ 4 ∧ (∀ x ∈ lives, 1 ≤ x ∧ x ≤ 3) ∧
  ∀ p xs H', H p = none → Ex H H' → H' p = some (.lst xs) → DpAll K H' xs ((datsL lives lives.length).map eD) → (∀ x ∈ xs, PlT H' x) → Q (.ref p) H'
theorem ok_ld {f : Addr} {fd : FuncData} {k : Nat} (F : Fun K "_law_all_dated" "_law_all_dated" sLDated f fd) (T' : Txt mg) : FnOk P w K mg base CX0 (k + 1) f fd ["_law_lives"] (spLD K) := by
  refine F.ok scLDated (fun vs H Q E h => ?_) (fun cdv A outer s H vs Q E hr h => ?_)
  · obtain ⟨v, lives, rfl, _⟩ := h
    rfl
  · obtain ⟨v, lives, rfl, hv, hl4, hl3, q⟩ := h
    have hl3' : ∀ x ∈ lives, x ≤ 3 := fun x hx => (hl3 x hx).2
    refine ⟨_, pss_cons (ps_set (i := 1) scLDated.nd rfl (.inl rfl) (pe_lst (pa_cons (pe_tupF pa_nil) pa_nil)))
      (pss_cons (ps_for PassesOwn.never rfl (pi_enumT (by rfl) T'.enum (pa_cons (pv 0) pa_nil)) (pg_tup rfl (pgs_cons (pg_name (i := 2) scLDated.nd rfl (.inr rfl)) (pgs_cons (pg_name (i := 3) scLDated.nd rfl (.inl rfl)) pgs_nil)))
        (pss_cons (ps_set (i := 4) scLDated.nd rfl (.inl rfl) (pe_lst pa_nil))
        (pss_cons (ps_for PassesOwn.never rfl (pi_range2 (by rfl) T'.range (pa_cons pe_int (pa_cons (pe_op op_add (pv 3) pe_int) pa_nil))) (pg_name (i := 5) scLDated.nd rfl (.inr rfl))
          (pss_one (ps_set (i := 4) scLDated.nd rfl (.inl rfl) (pe_op op_cat (pv 4) (pe_lc (own := [("_law_dated", 6)]) (g := gName 6) (tt := tYes) (te := tOp (rCatF K) (tVar 6) (tTupF (tCons (tTup (tCons (tVar 2) (tCons (tVar 5) tNil))) tNil))) rfl scLDated.nd (pi_list (pv 1)) (blkOk_by (N := ["_law_lives", "_law_found", "_law_offer", "_law_life", "_law_fresh", "_law_days", "_law_dated"]) (sc := defScope sLDated) (by decide +kernel))
            (fun _ _ _ _ _ => pg_name (i := 6) scLDated.nd rfl (.inl rfl)) (fun _ _ _ _ _ => pts_nil) (fun _ _ _ _ _ => pe_op op_catF (pv 6) (pe_tupF (pa_cons (pe_tup (pa_cons (pv 2) (pa_cons (pv 5) pa_nil))) pa_nil))))))))
        (pss_one (ps_set (i := 1) scLDated.nd rfl (.inl rfl) (pe_op op_cat (pv 1) (pv 4)))))))
      (pss_one (ps_ret (pv 1)))), ?_⟩
    refine q_asgX (nx_lst1 (K := K) (d := eD []) (dx_tup eds_nil (Nat.zero_le _))) fun p0 xs0 H1 hp0 e1 hx0 hd0 hl0 => ?_
    refine q_forE (K := K) (e1 := PyData.int) (as := lives) (ed_var rfl (dp_mono e1 hv)) flat_int (fun H3 l σ H' => Ex H H' ∧ Ex H3 H' ∧ ∃ pr xs x2 x3 x4 x5 x6, σ = [some v, some (.ref pr), x2, x3, x4, x5, x6] ∧ H pr = none ∧ H' pr = some (.lst xs) ∧ DpAll K H' xs ((datsL lives l.length).map eD) ∧ ∀ x ∈ xs, PlT H' x)
      (fun H3 e3 => ⟨e1.trans e3, Ex.refl _, p0, xs0, _, _, _, _, _, rfl, hp0, e3 _ _ hx0, dpAll_mono e3 hd0, fun x hx => (hl0 x hx).mono e3⟩) (fun H3 l σ H' _ p => Tx.of p.2.1) (fun H3 l a r e3 hsp y σ H' H4 pw e4 hy => ?_) fun H3 σ H' e3 pw => ?_
    · obtain ⟨e5, t5, pr, xs, x2, x3, x4, x5, x6, rfl, hpr, hxs, hds, hpl⟩ := pw
      refine g_pair hy fun z2 z3 hz2 hz3 => ?_
      rw [dp_int hz2, dp_int hz3]
      have ha := hl3 a (by rw [hsp]; simp)
      have hk4 : l.length < lives.length := by rw [hsp, List.length_append, List.length_cons]; omega
      have hga := getD_at hsp
      have hsm := datsL_small hl3' (Nat.le_of_lt (Nat.lt_of_lt_of_le hk4 hl4))
      have hxs4 := e4 _ _ hxs
      have hds4 := dpAll_mono e4 hds
      have hpl4 : ∀ x ∈ xs, PlT H4 x := fun x hx => (hpl x hx).mono e4
      refine q_asgX (nx_lst0 (K := K)) fun pm ys H5 hpm e6 hys hdy hly => ?_
      refine q_forR2 (lo := 1) (n := a + 1) (ea_cons ev_c (ea_cons (ev_op (ev_var rfl) ev_c rv_I0) ea_nil)) ⟨by omega, by omega, by omega, by omega⟩
        (fun i σ H' => Ex H4 H' ∧ ∃ pf fs x5 x6, σ = [some v, some (.ref pr), some (.int (l.length : Int)), some (.int a), some (.ref pf), x5, x6] ∧ H' pf = some (.lst fs) ∧ DpAll K H' fs ((freshL lives l.length i).map eD) ∧ ∀ x ∈ fs, PlT H' x)
        (fun H6 e7 => ⟨e6.trans e7, pm, ys, _, _, rfl, e7 _ _ hys, dpAll_mono e7 hdy, fun x hx => (hly x hx).mono e7⟩) (fun i σ H' hi pw => ?_) fun σ H' pw => ?_
      · obtain ⟨e8, pf, fs, y5, y6, rfl, hf, hfd, hfl⟩ := pw
        have hi3 : i < 3 := by omega
        have hfn := freshL_len lives l.length i
        have hm3 := Nat.mul_le_mul (Nat.le_of_lt hi3) hsm
        refine s_asgX (nx_is (nx_cat (K := K) (ev_var rfl) hf hfd hfl (nx_lc (K := K) (as := datsL lives l.length) (e1 := eD) (e2 := eD) (fun d => d ++ [((l.length : Int), 1 + (i : Int))]) (ev_var rfl) (e8 _ _ hxs4) (dpAll_mono e8 hds4) (fun x hx => (hpl4 x hx).mono e8) (by omega) flat_D (fun _ => rfl) fun d hd x H9 e9 hx px => ?_) ?_) ?_) fun pg gs H9 hpg e9 hgs hgd hgl => ⟨e8.trans e9, pg, gs, _, _, rfl, hgs, hgd, hgl⟩
        · have hdl : d.length ≤ 4 := by
            have := datsP_wi ((mem_datsP lives l.length d).mpr ((mem_datsL lives l.length d).mp hd))
            omega
          refine dx_is (dx_cat (ds := d.map eI) (es := [eI ((l.length : Int), 1 + (i : Int))]) (dx_var rfl hx px) (dx_tup (eds_cons (ed_I (p := ((l.length : Int), 1 + (i : Int))) (ed_int (ev_var rfl)) (ed_int (ev_var rfl))) eds_nil) (by show 1 ≤ 100000; decide)) ?_) ?_
          · rw [List.length_map]
            show d.length + 1 ≤ 100000
            omega
          · unfold eD
            rw [List.map_append]
            rfl
        · rw [List.length_map, List.length_map, List.length_map, hfn]
          omega
        · rw [freshL_succ, List.map_append]
      · obtain ⟨e8, pf, fs, y5, y6, rfl, hf, hfd, hfl⟩ := pw
        have hi3 : (a + 1 - 1 : Int).toNat ≤ 3 := by omega
        have hfn := freshL_len lives l.length (a + 1 - 1 : Int).toNat
        have hm3 := Nat.mul_le_mul hi3 hsm
        refine ⟨.ref pr, rfl, .ref pf, rfl, pr, pf, xs, fs, rfl, rfl, e8 _ _ hxs4, hf, sz_of ?_, fun pn hpn => ?_⟩
        · rw [dpAll_len hds4, dpAll_len hfd, List.length_map, List.length_map, hfn]
          omega
        · have e9 : Ex H' (upd H' pn (.lst (xs ++ fs))) := Ex.new hpn
          have e49 := e8.trans e9
          refine ⟨(e5.trans e4).trans e49, (t5.trans e4).trans e49, pn, xs ++ fs, _, _, _, _, _, rfl, fresh_back ((e5.trans e4).trans e8) hpn, upd_same, ?_, fun x hx => ?_⟩
          · rw [List.length_append]
            show DpAll K _ (xs ++ fs) ((datsL lives l.length ++ (List.range (lives.getD l.length 0).toNat).flatMap fun (i : Nat) => (datsL lives l.length).map fun d => d ++ [((l.length : Int), 1 + (i : Int))]).map eD)
            rw [hga, List.map_append]
            rw [show (a + 1 - 1 : Int).toNat = a.toNat by omega] at hfd
            exact dpAll_append (dpAll_mono e49 hds4) (dpAll_mono e9 hfd)
          · rcases List.mem_append.mp hx with h | h
            · exact (hpl4 x h).mono e49
            · exact (hfl x h).mono e9
    · obtain ⟨e5, t5, pr, xs, x2, x3, x4, x5, x6, rfl, hpr, hxs, hds, hpl⟩ := pw
      exact ⟨.ref pr, rfl, q pr xs H' hpr e5 hxs hds hpl⟩
end
end K49
namespace K49
open PySem PySem.Spec PySem.W PyProof.Rows L2 Evl
theorem boot_dict' : bootBuiltins ("dict" : Str) = some (.type "dict") := by decide +kernel
/-! a dated set as a dict -/
def dkv (d : Dt) : List (Key × V) := d.map fun p => ((Sum.inl p.1 : Key), V.int p.2)
theorem put_new : ∀ {acc : List (Key × V)} {k : Key} {v : V}, (∀ q ∈ acc, q.1 ≠ k) → putK acc k v = acc ++ [(k, v)] := fun {acc k v} h => by
  have : ¬ (acc.any fun kv => decide (kv.1 = k)) = true := fun z => by
    obtain ⟨q, hq, e⟩ := List.any_eq_true.mp z
    exact h q hq (of_decide_eq_true e)
  unfold putK
  rw [if_neg this]
theorem merge_new : ∀ (d : Dt) (acc : Dt), (offs (acc ++ d)).Nodup → mergeK (dkv acc) (dkv d) = dkv (acc ++ d)
  | [], acc, _ => by
    rw [List.append_nil]
    rfl
  | p :: d, acc, h => by
    have e1 : putK (dkv acc) (Sum.inl p.1 : Key) (.int p.2) = dkv (acc ++ [p]) := by
      rw [put_new]
      · unfold dkv
        rw [List.map_append]
        rfl
      · intro q hq e
        obtain ⟨r, hr, rfl⟩ := List.mem_map.mp hq
        have e2 : r.1 = p.1 := Sum.inl.inj e
        unfold offs at h
        rw [List.map_append, List.nodup_append] at h
        exact h.2.2 r.1 (List.mem_map.mpr ⟨r, hr, rfl⟩) p.1 (by simp) e2
    have ih := merge_new d (acc ++ [p]) (by rw [List.append_assoc]; exact h)
    rw [List.append_assoc] at ih
    rw [← e1] at ih
    exact ih
theorem merge_dkv {d : Dt} (h : (offs d).Nodup) : mergeK [] (dkv d) = dkv d := merge_new d [] h
theorem put_dkv (d : Dt) (o x : Int) : putK (dkv d) (Sum.inl o : Key) (.int x) = dkv (putP d o x) := by
  have hany : ((dkv d).any fun kv => decide (kv.1 = (Sum.inl o : Key))) = d.any fun p => decide (p.1 = o) := by
    unfold dkv
    rw [List.any_map]
    congr 1
    funext p
    exact decide_eq_decide.mpr ⟨fun e => Sum.inl.inj e, fun e => congrArg Sum.inl e⟩
  unfold putK putP
  rw [hany]
  by_cases c : (d.any fun p => decide (p.1 = o)) = true
  · rw [if_pos c, if_pos c]
    unfold dkv
    rw [List.map_map, List.map_map]
    refine List.map_congr_left fun p _ => ?_
    show (if (Sum.inl p.1 : Key) = Sum.inl o then _ else _) = _
    by_cases e : p.1 = o
    · have e2 : (Sum.inl p.1 : Key) = Sum.inl o := congrArg Sum.inl e
      rw [if_pos e2]
      show _ = ((Sum.inl (if p.1 = o then (p.1, x) else p).1 : Key), V.int (if p.1 = o then (p.1, x) else p).2)
      rw [if_pos e]
    · have e2 : ¬ (Sum.inl p.1 : Key) = Sum.inl o := fun z => e (Sum.inl.inj z)
      rw [if_neg e2]
      show _ = ((Sum.inl (if p.1 = o then (p.1, x) else p).1 : Key), V.int (if p.1 = o then (p.1, x) else p).2)
      rw [if_neg e]
  · rw [if_neg c, if_neg c]
    unfold dkv
    rw [List.map_append]
    rfl
theorem dk_pairs {K : PySem.W.Frag} {H : Hp} : ∀ {d : Dt} {xs : List V}, DpAll K H xs (d.map eI) → ∃ ps : List Addr, xs = ps.map V.ref ∧ Paired (fun p kv => SqT K H p [kV kv.1, kv.2]) ps (dkv d)
  | [], _, h => by
    cases h
    exact ⟨[], rfl, .nil⟩
  | p :: d, _, h => by
    cases h with
    | cons h1 h2 =>
      obtain ⟨ps, rfl, hp⟩ := dk_pairs h2
      obtain ⟨a, ys, rfl, hs, hy⟩ := dp_tup h1
      cases hy with
      | cons y1 y2 =>
        cases y2 with
        | cons y3 y4 =>
          cases y4
          rw [dp_int y1, dp_int y3] at hs
          exact ⟨a :: ps, rfl, .cons hs hp⟩
theorem items_dp {K : PySem.W.Frag} {H : Hp} : ∀ {d : Dt} {ts : List Addr}, Paired (fun (t : Addr) (q : Key × V) => H t = some (.tup [kV q.1, q.2])) ts (dkv d) → DpAll K H (ts.map V.ref) (d.map eI)
  | [], _, .nil => .nil
  | p :: d, _, .cons h t => .cons (.tup (st_of h) (.cons (.int _) (.cons (.int _) .nil))) (items_dp t)
def EvK (te : TE) (σ : L2.St) (H : Hp) (kvs : List (Key × V)) : Prop := ∀ H1, Ex H H1 → ∀ Q : VK, (∀ p H2, H1 p = none → Ex H1 H2 → H2 p = some (.dK kvs) → Q (.ref p) H2) → te σ H1 Q
def rDictL (K : PySem.W.Frag) : List V → Hp → VK → Prop := fun xs H Q => ∃ (a : Addr) (ps : List Addr) (kvs : List (Key × V)), xs = [.ref a] ∧ SqL K H a (ps.map V.ref) ∧ Paired (fun p kv => SqT K H p [kV kv.1, kv.2]) ps kvs ∧ ∀ p, H p = none → Q (.ref p) (upd H p (.dK (mergeK [] kvs)))
theorem call_dictL {X : Cx} (hc : X.calm = true) : CallR X (.type "dict") (rDictL X.K) := call_dictP hc
section
variable {K : PySem.W.Frag} {σ : L2.St} {H : Hp} {te td : TE} {d : Dt} {D : Ends} {tz : TS} {i : Nat} {kvs : List (Key × V)}
theorem ek_dictF (h : EvDX K te σ H (eD d)) (nd : (offs d).Nodup) : EvK (tCB (rDictF K) (tCons te tNil)) σ H (dkv d) := fun H1 e Q q =>
  h H1 e _ fun v H2 e2 hd hp => by
    obtain ⟨a, xs, rfl, hs, hx⟩ := dp_tup hd
    obtain ⟨ps, rfl, hpr⟩ := dk_pairs hx
    refine ⟨a, ps, _, rfl, hs, hp, hpr, fun p hpn => ?_⟩
    rw [merge_dkv nd]
    exact q p _ (fresh_back e2 hpn) (e2.trans (Ex.new hpn)) upd_same
theorem ek_dictL (h : EvN K te σ H (d.map eI)) (nd : (offs d).Nodup) : EvK (tCB (rDictL K) (tCons te tNil)) σ H (dkv d) := fun H1 e Q q =>
  h H1 e _ fun a xs H2 ha e2 hs hx => by
    obtain ⟨ps, rfl, hpr⟩ := dk_pairs hx
    refine ⟨a, ps, _, rfl, sq_of hs, hpr, fun p hpn => ?_⟩
    rw [merge_dkv nd]
    exact q p _ (fresh_back e2 hpn) (e2.trans (Ex.new hpn)) upd_same
theorem q_asgK (h : EvK te σ H kvs) (k : ∀ p H1, H p = none → Ex H H1 → H1 p = some (.dK kvs) → tz D (σ.set i (some (.ref p))) H1) : tSeq (tAsg te (gName i)) tz D σ H := h H (Ex.refl H) _ k
theorem s_asgK (h : EvK te σ H kvs) (k : ∀ p H1, H p = none → Ex H H1 → H1 p = some (.dK kvs) → D.nx (σ.set i (some (.ref p))) H1) : tAsg te (gName i) D σ H := h H (Ex.refl H) _ k
/-- tuple(sorted(d.items())) -/
theorem s_retItems {a : Addr} (ha : σ[i]? = some (some (.ref a))) (h : H a = some (.dK (dkv d))) (hl : d.length ≤ 1000) (k : ∀ v H1, Ex H H1 → Dp K H1 v (eD (d.mergeSort leI)) → PlT H1 v → D.rt v H1) :
    tRet (tCB (rTupF K) (tCons (tCB (rSortD K cItems) (tCons (tBM K "dict" rItemsK (tVar i) tNil) tNil)) tNil)) D σ H := by
  refine ⟨.ref a, ha, .inr (.inr (.inl ⟨rfl, .inl ⟨_, h⟩⟩)), a, _, rfl, rfl, h, fun p hp => ?_⟩
  have e1 : Ex H (upd H p (DX.itemsO p a)) := Ex.new hp
  refine ⟨.ref p, rfl, p, a, _, rfl, upd_same, e1 _ _ h, fun H2 ts e2 hts => ⟨Int × Int, eI, d, items_dp hts, ?_, .inl fun y hy => ?_, fun y _ => Nat.le_trans (depth_I y) (by decide), by omega, fun r zs hr hz => ?_⟩⟩
  · intro d1 h1 d2 h2
    obtain ⟨y, _, rfl⟩ := List.mem_map.mp h1
    obtain ⟨z, _, rfl⟩ := List.mem_map.mp h2
    exact alike_I y z
  · obtain ⟨z, _, rfl⟩ := List.mem_map.mp hy
    exact ⟨_, rfl⟩
  · have e3 : Ex H2 (upd H2 r (.lst zs)) := Ex.new hr
    refine ⟨r, zs, rfl, sq_of upd_same, fun l o hl ho => ?_⟩
    have e4 : Ex (upd H2 r (.lst zs)) (upd (upd H2 r (.lst zs)) l (.frz o (.tup zs))) := Ex.new hl
    exact k _ _ (((e1.trans e2).trans e3).trans e4) (.tup (fz_of upd_same) (dpAll_mono (e3.trans e4) hz)) ⟨l, o, zs, rfl, upd_same, ho⟩
end
theorem lay_deed (dd : Deed) : SeqAt.shaped (eDeed dd) = true := by
  refine shaped_of (n := 1) ?_ ?_ (by decide)
  · cases dd <;> simp only [eDeed, PyData.canLay0, PyData.canLayAll0, Bool.and_true] <;> decide +kernel
  · cases dd <;> simp [eDeed, PyData.depth, PyData.depthAll]
theorem eqv_day (dd : Deed) : PyData.eqv (eDeed dd) (eDeed .day) = decide (dd = .day) := by
  cases dd <;> simp [eDeed, PyData.eqv, PyData.eqvAll]
section
variable {P : Program} {w : World} {K : PySem.W.Frag} {mg : Str → Option Value} {base : Heap} {C T : Addr}
/-! _law_day_book -/
def spLB (K : PySem.W.Frag) : Sp := fun vs H Q _ => ∃ (v0 v1 v2 : V) (lives loose : List Int) (n : Nat) (d : Dt) (dd : Deed), vs = [v0, v1, v2] ∧ Dp K H v0 (eS lives) ∧ Dp K H v1 (eD d) ∧ PlT H v1 ∧ Dp K H v2 (eDeed dd) ∧ n = lives.length ∧ n ≤ 4 ∧ Wi lives n d ∧ DeedOk n loose dd ∧
  ∀ v H', Ex H H' → Dp K H' v (eD (K49.behind leI lives d dd)) → PlT H' v → Q v H'
theorem put_len (d : Dt) (o x : Int) : (putP d o x).length ≤ d.length + 1 := by
  unfold putP
  split
  · rw [List.length_map]
    omega
  · rw [List.length_append]
    exact Nat.le_refl _
theorem ok_lb {f : Addr} {fd : FuncData} {k : Nat} (F : Fun K "_law_day_book" "_law_day_book" sLBook f fd) (T' : Txt mg) : FnOk P w K mg base CX0 (k + 1) f fd ["_law_lives", "_law_dated", "_law_deed"] (spLB K) := by
  refine F.ok scLBook (fun vs H Q E h => ?_) (fun cdv A outer s H vs Q E hr h => ?_)
  · obtain ⟨v0, v1, v2, lives, loose, n, d, dd, rfl, _⟩ := h
    rfl
  · obtain ⟨v0, v1, v2, lives, loose, n, d, dd, rfl, h0, h1, p1, h2, hn, hn4, hw, hdd, q⟩ := h
    have hu := hu_64 hr
    refine ⟨_, pss_cons (ps_set (i := 3) scLBook.nd rfl (.inl rfl) (pe_callTy (call_dictF rfl) (by rfl) T'.dict boot_dict' (pa_cons (pv 1) pa_nil)))
      (pss_cons (ps_if (pt_cmpR (op_eqD hu) (pv 2) (pe_tup (pa_cons pe_str pa_nil)) (nomark _))
        (pss_one (ps_set (i := 3) scLBook.nd rfl (.inl rfl) (pe_callTy (call_dictL rfl) (by rfl) T'.dict boot_dict' (pa_cons (pe_lc (own := [("_law_offer", 4), ("_law_days", 5)]) (g := gTup K 2 (gCons (gName 4) (gCons (gName 5) gNil))) rfl scLBook.nd (pi_tup (pv 1))
          (blkOk_by (N := ["_law_lives", "_law_dated", "_law_deed", "_law_left", "_law_offer", "_law_days"]) (sc := defScope sLBook) (by decide +kernel)) (fun _ _ _ _ _ => pg_tup rfl (pgs_cons (pg_name (i := 4) scLBook.nd rfl (.inl rfl)) (pgs_cons (pg_name (i := 5) scLBook.nd rfl (.inl rfl)) pgs_nil)))
          (fun _ _ _ _ _ => pts_one (pt_cmpR op_gt (pv 5) pe_int (nomark _))) (fun _ _ _ _ _ => pe_tup (pa_cons (pv 4) (pa_cons (pe_op op_sub (pv 5) pe_int) pa_nil)))) pa_nil))))
        (pss_one (ps_if (pt_cmpR op_eq (pe_ix ix_tup (pv 2) pe_int (fun _ _ => rfl)) pe_str (nomark _))
          (pss_one (ps_dput (hu_of hr) (pv 3) (pe_ix ix_tup (pv 2) pe_int (fun _ _ => rfl)) (pe_ix ix_tup (pv 0) (pe_ix ix_tup (pv 2) pe_int (fun _ _ => rfl)) (fun _ _ => rfl)) rfl))
          (pss_one (ps_set (i := 3) scLBook.nd rfl (.inl rfl) (pe_callTy (call_dictL rfl) (by rfl) T'.dict boot_dict' (pa_cons (pe_lc (own := [("_law_offer", 4), ("_law_days", 5)]) (g := gTup K 2 (gCons (gName 4) (gCons (gName 5) gNil))) (tt := tTest (tOp rNe (tVar 4) (tOp (rIxT K) (tVar 2) (tC (.int 1))))) rfl scLBook.nd (pi_tup (pv 1))
            (blkOk_by (N := ["_law_lives", "_law_dated", "_law_deed", "_law_left", "_law_offer", "_law_days"]) (sc := defScope sLBook) (by decide +kernel)) (fun _ _ _ _ _ => pg_tup rfl (pgs_cons (pg_name (i := 4) scLBook.nd rfl (.inl rfl)) (pgs_cons (pg_name (i := 5) scLBook.nd rfl (.inl rfl)) pgs_nil)))
            (fun _ _ _ _ _ => pts_one (pt_cmpR op_ne (pv 4) (pe_ix ix_tup (pv 2) pe_int (fun _ _ => rfl)) (nomark _))) (fun _ _ _ _ _ => pe_tup (pa_cons (pv 4) (pa_cons (pv 5) pa_nil)))) pa_nil)))))))
      (pss_one (ps_ret (pe_callTy call_tupF (by rfl) T'.tuple boot_tup' (pa_cons (pe_callB (cr_sortD hu (cl_items rfl)) (by rfl) T'.sorted boot_sorted (pa_cons (pe_bm0 PySem.F.plainAttrs_dict PySem.F.slot_dict_items PySem.F.type_dict_items mt_itemsK (pv 3)) pa_nil)) pa_nil))))), ?_⟩
    have hdl : d.length ≤ 4 := by
      have := datsP_wi ((mem_datsP lives n d).mpr hw)
      omega
    refine q_asgK (ek_dictF (dx_var rfl h1 p1) hw.nodup) fun a0 H1 ha0 e1 hd1 => ?_
    have fin : ∀ (a : Addr) (σ : L2.St) (H2 : Hp) (bk : Dt), σ[3]? = some (some (.ref a)) → Ex H H2 → H2 a = some (.dK (dkv bk)) → bk.length ≤ 1000 → bk = book lives d dd →
        tRet (tCB (rTupF K) (tCons (tCB (rSortD K cItems) (tCons (tBM K "dict" rItemsK (tVar 3) tNil) tNil)) tNil)) { nx := fun x H' => Q V.non H', rt := Q } σ H2 := fun a σ H2 bk hs e2 h hl hb =>
      s_retItems hs h hl fun v H3 e3 hv hp => q v H3 (e2.trans e3) (by rw [← book_eq by_offer hw dd, ← hb]; exact hv) hp
    have hd2 := dp_mono e1 h2
    refine q_if (et_is (et_test (ev_eqD (K := K) (e := eDeed .day) (ed_var rfl hd2) (ed_tup (eds_cons (ed_str ev_c) eds_nil) (by show 1 ≤ 100000; decide)) (lay_deed _) (lay_deed _))) (eqv_day dd)) (fun hb H2 e2 => ?_) fun hb H2 e2 => ?_
    · obtain rfl := of_decide_eq_true hb
      have e12 := e1.trans e2
      refine s_asgK (ek_dictL (d := aged1 d) (en_is (en_lcT (K := K) (as := d) (e1 := eI) (e2 := eI) (Tg := fun a => TgP K _ 4 5 (.int a.1) (.int a.2)) (fun p => decide (1 < p.2)) (fun p => (p.1, p.2 - 1)) (ed_var rfl (dp_mono e12 h1)) (by omega) flat_I
        (fun a ha x H2 e2 hx Q q => tg_pair hx (fun _ _ => rfl) Q q) (fun p hp σ2 H2 e2 hT => ?_) (fun p hp σ2 H2 H3 e2 hT e3 _ => ?_)) rfl) ?_) fun a3 H3 ha3 e3 h3 => ?_
      · obtain ⟨x, y, rfl, hx, hy⟩ := hT
        exact et_test (ev_op (EvD.int (ed_var rfl hy)) ev_c rv_I0)
      · obtain ⟨x, y, rfl, hx, hy⟩ := hT
        exact ed_I (p := (p.1, p.2 - 1)) (ed_var rfl (dp_mono e3 hx)) (ed_int (ev_op (EvD.int (ed_var rfl (dp_mono e3 hy))) ev_c rv_I0))
      · have h1 : (offs (aged1 d)).Sublist (offs d) := by
          unfold offs aged1
          rw [List.map_map]
          exact List.Sublist.map _ List.filter_sublist
        exact hw.nodup.sublist h1
      · refine fin a3 _ H3 (aged1 d) rfl (e12.trans e3) h3 ?_ rfl
        unfold aged1
        rw [List.length_map]
        have := List.length_filter_le (fun p : Int × Int => decide (1 < p.2)) d
        omega
    · have e12 := e1.trans e2
      have hd3 := dp_mono e12 h2
      rcases dd with _ | o | o
      · cases hb
      · refine s_if (et_test (ev_op (EvD.strv (ed_ixT (i := 0) (ed_var rfl hd3) ev_c rfl)) ev_c (rv_eq rfl))) (fun _ H3 e3 => ?_) fun z => (by exact absurd z (by simp [sne1, sne2, sne3]))
        have hd4 := dp_mono e3 hd3
        refine (EvD.int (n := lives.getD o.toNat 0) (ed_ixT (i := o) (ed_var rfl (dp_mono (e12.trans e3) h0)) (EvD.int (ed_ixT (i := 1) (ed_var rfl hd4) ev_c rfl)) (atI_lives hdd.1 (by rw [← hn]; exact hdd.2)))) H3 (Ex.refl _) _ fun H4 e4 => ⟨.ref a0, rfl, ?_⟩
        refine (EvD.int (n := o) (ed_ixT (i := 1) (ed_var rfl (dp_mono e4 hd4)) ev_c rfl)) H4 (Ex.refl _) _ fun H5 e5 => ?_
        have e25 := ((e2.trans e3).trans e4).trans e5
        have hd5 := e25 _ _ hd1
        refine ⟨a0, _, rfl, DPut.k (k := Sum.inl o) hd5 ?_, ?_⟩
        · unfold dkv
          rw [List.length_map]
          exact sz_lt (by omega)
        · rw [put_dkv]
          refine fin a0 _ _ _ rfl (Ex.mut (e1.trans e25) ha0) upd_same ?_ rfl
          have := put_len d o (lives.getD o.toNat 0)
          omega
      · refine s_if (et_test (ev_op (EvD.strv (ed_ixT (i := 0) (ed_var rfl hd3) ev_c rfl)) ev_c (rv_eq rfl))) (fun z => (by exact absurd z (by simp [sne1, sne2, sne3]))) fun _ H3 e3 => ?_
        have e13 := e12.trans e3
        have hd4 := dp_mono e3 hd3
        refine s_asgK (ek_dictL (d := drop1 d o) (en_is (en_lcT (K := K) (as := d) (e1 := eI) (e2 := eI) (Tg := fun a => TgP K _ 4 5 (.int a.1) (.int a.2)) (fun p => !decide (p.1 = o)) id (ed_var rfl (dp_mono e13 h1)) (by omega) flat_I
          (fun a ha x H2 e2 hx Q q => tg_pair hx (fun _ _ => rfl) Q q) (fun p hp σ2 H2 e2 hT => ?_) (fun p hp σ2 H2 H3 e2 hT e3 _ => ?_)) (lcRes_id _ _)) ?_) fun a3 H4 ha3 e4 h4 => ?_
        · obtain ⟨x, y, rfl, hx, hy⟩ := hT
          refine et_is (et_test (ev_op (EvD.int (ed_var rfl hx)) (EvD.int (ed_ixT (i := 1) (ed_var rfl (dp_mono e2 hd4)) ev_c rfl)) (rv_ne rfl))) ?_
          rw [dec_vint]
        · obtain ⟨x, y, rfl, hx, hy⟩ := hT
          exact ed_I (p := p) (ed_var rfl (dp_mono e3 hx)) (ed_var rfl (dp_mono e3 hy))
        · have h1 : (offs (drop1 d o)).Sublist (offs d) := List.Sublist.map _ List.filter_sublist
          exact hw.nodup.sublist h1
        · refine fin a3 _ H4 (drop1 d o) rfl (e13.trans e4) h4 ?_ rfl
          have := List.length_filter_le (fun p : Int × Int => !decide (p.1 = o)) d
          show (drop1 d o).length ≤ 1000
          unfold drop1
          omega
end
end K49
namespace K49
open PySem PySem.Spec PySem.W PyProof.Rows L2 Evl LamX
/-! ## the law: what it calls -/
structure Fn (P : Program) (w : World) (K : PySem.W.Frag) (mg : Str → Option Value) (base : Heap) (k : Nat) (x : Str) (ps : List Str) (dvs : List V) (sp : Sp) : Prop where
  ex : ∃ (f : Addr) (fd : FuncData) (ds : List Value), mg x = some (.ref f) ∧ Binds K fd ps ds ∧ Vals dvs ds ∧ PySem.W.keepIn K (.ref f) = true ∧ FnOk P w K mg base CX0 k f fd ps sp
section
variable {X : Cx} {k : Nat} {ps : List Str} {dvs : List V} {sp : Sp} {x : Str} {p pos : PySem.Pos} {e : Expr} {es : List Expr} {t : TA}
theorem pe_fn (F : Fn X.prog X.w X.K X.mg X.base k x ps dvs sp) (hr : Room k X.A) (ha : PA X (e :: es) t) (hg : Gl X x := by rfl) (hdb : (x == ("__debug__" : Str)) = false := by decide)
    (he : starEach (e :: es) X.env = (false, eval e X.env) :: starEach es X.env := by rfl) (hpl : (backTo pos (starEach es X.env)).any (·.1) = false := by rfl) : PE X (.Call (.Name x p) (e :: es) [] pos) (tCall sp dvs E0 t) := by
  obtain ⟨f, fd, ds, g, b, hd, kp, G⟩ := F.ex
  exact pe_call G hr hg g kp b hd pass0 ha hdb he hpl
end
/-- .. with every argument by keyword -/
structure FnK (P : Program) (w : World) (K : PySem.W.Frag) (mg : Str → Option Value) (base : Heap) (k : Nat) (x : Str) (ps ks : List Str) (g : {α : Type} → List α → List α) (sp : Sp) : Prop where
  ex : ∃ (f : Addr) (fd : FuncData), mg x = some (.ref f) ∧ Kw0 K fd ps ks g ∧ PySem.W.keepIn K (.ref f) = true ∧ FnOk P w K mg base CX0 k f fd ps sp
section
variable {X : Cx} {k : Nat} {ps ks : List Str} {sp : Sp} {x : Str} {p pos : PySem.Pos} {kws : List Keyword} {tk : TA} {g : {α : Type} → List α → List α}
theorem pe_fnK (F : FnK X.prog X.w X.K X.mg X.base k x ps ks g sp) (hr : Room k X.A) (hkw : PK X kws tk) (hg : Gl X x := by rfl) (hall : (backToKw pos (keywordEach kws X.env)).all (·.1.isSome) = true := by rfl)
    (hks : (backToKw pos (keywordEach kws X.env)).filterMap (·.1) = ks := by rfl) (hdb : (x == ("__debug__" : Str)) = false := by decide) (hpl : ((backTo pos (starEach [] X.env)).any (·.1) || (backToKw pos (keywordEach kws X.env)).any (·.1.isNone)) = false := by rfl) :
    PE X (.Call (.Name x p) [] kws pos) (tCallK0 ks.length sp g E0 tk) := by
  obtain ⟨f, fd, hm, hb, kp, G⟩ := F.ex
  exact pe_callK0 G hr hg hm kp hb hkw hall hks hdb hpl
end
/-! ## what is kept beside the deck and the code tables -/
def vw (d r : Addr) (H : Hp) : Hp := fun a => if a = d ∨ a = r then none else match H a with
  | some (.tbl _) => none
  | o => o
theorem vw_of {d r a : Addr} {H : Hp} {o : HO} (h1 : a ≠ d) (h2 : a ≠ r) (h : H a = some o) (n : ∀ ps, o ≠ .tbl ps) : vw d r H a = some o := by
  unfold vw
  rw [if_neg fun z => z.elim h1 h2, h]
  cases o <;> first | rfl | exact absurd rfl (n _)
theorem vw_some {d r a : Addr} {H : Hp} {o : HO} (h : vw d r H a = some o) : a ≠ d ∧ a ≠ r ∧ H a = some o ∧ ∀ ps, o ≠ .tbl ps := by
  unfold vw at h
  by_cases c : a = d ∨ a = r
  · rw [if_pos c] at h
    cases h
  · rw [if_neg c] at h
    cases e : H a with
    | none =>
      rw [e] at h
      cases h
    | some u =>
      rw [e] at h
      cases u <;> cases h <;> exact ⟨fun z => c (.inl z), fun z => c (.inr z), rfl, fun ps z => by cases z⟩
theorem vw_ex {d r : Addr} {H : Hp} : Ex (vw d r H) H := fun a o h => (vw_some h).2.2.1
theorem vw_hid {d r : Addr} {H : Hp} : Ex (vw d r H) (hid d r H) := fun a o h => by
  obtain ⟨h1, h2, h3, _⟩ := vw_some h
  rw [hid_ne h1 h2]
  exact h3
/-- all but the deck and the tables stays -/
def Lx (d r : Addr) (H H' : Hp) : Prop := ∀ a o, a ≠ d → a ≠ r → (∀ ps, o ≠ .tbl ps) → H a = some o → H' a = some o
theorem Lx.ex {d r : Addr} {H H' : Hp} (e : Ex H H') : Lx d r H H' := fun a o _ _ _ h => e a o h
theorem Lx.exN {d r : Addr} {H H' : Hp} (e : ExtN H H') : Lx d r H H' := fun a o _ _ n h => e a o h n
theorem Lx.bd {d r : Addr} {H H' : Hp} (e : Bd d r H H') : Lx d r H H' := fun a o h1 h2 _ h => e a o h1 h2 h
theorem Lx.trans {d r : Addr} {H H1 H2 : Hp} (a : Lx d r H H1) (b : Lx d r H1 H2) : Lx d r H H2 := fun x o h1 h2 n h => b x o h1 h2 n (a x o h1 h2 n h)
theorem Lx.vw {d r : Addr} {H H' : Hp} (l : Lx d r H H') : Ex (vw d r H) (K49.vw d r H') := fun a o h => by
  obtain ⟨h1, h2, h3, h4⟩ := vw_some h
  exact vw_of h1 h2 (l a o h1 h2 h4 h3) h4
/-- the deck and the tables stand -/
structure Co (Tt : List (Addr × Str)) (d r : Addr) (b : Nat) (H : Hp) : Prop where
  dk : Deck H d r b
  ne : d ≠ r
  tb : Tabs Tt H
section
variable {Tt : List (Addr × Str)} {d r : Addr} {b c : Nat} {H H' : Hp}
theorem Co.ex (h : Co Tt d r b H) (e : Ex H H') : Co Tt d r b H' := ⟨h.dk.mono e, h.ne, h.tb.ext e⟩
theorem Co.exN (h : Co Tt d r b H) (e : ExtN H H') (t : Tabs Tt H') : Co Tt d r b H' := by
  obtain ⟨m, k, ns, h1, h2, h3⟩ := h.dk.ex
  exact ⟨⟨m, k, ns, e _ _ h1 (fun ps z => by cases z), e _ _ h2 (fun ps z => by cases z), h3⟩, h.ne, t⟩
theorem Co.bd (h : Co Tt d r b H) (e : Bd d r H H') (dk : Deck H' d r c) : Co Tt d r c H' := by
  obtain ⟨m, k, ns, h1, h2, _⟩ := h.dk.ex
  refine ⟨dk, h.ne, fun p hp => ?_⟩
  obtain ⟨ps, t1, t2, t3⟩ := h.tb p hp
  have ne : ∀ {a : Addr} {o : HO}, H a = some o → (∀ l, o ≠ .dK l) → (∀ l, o ≠ .lst l) → H' a = some o := fun {a o} ha n1 n2 => e a o (fun z => by
    rw [z, h1] at ha
    exact n1 _ (Option.some.inj ha).symm) (fun z => by
    rw [z, h2] at ha
    exact n2 _ (Option.some.inj ha).symm) ha
  refine ⟨ps, ne t1 (fun l z => by cases z) (fun l z => by cases z), t2, fun pos cv hc => ?_⟩
  obtain ⟨c', e1, e2⟩ := t3 pos cv hc
  exact ⟨c', e1, ne e2 (fun l z => by cases z) (fun l z => by cases z)⟩
theorem Co.up (h : Co Tt d r b H) (l : b ≤ c) : Co Tt d r c H := ⟨h.dk.up l, h.ne, h.tb⟩
theorem Co.tx (h : Co Tt d r b H) : Tx H (vw d r H) := fun a xs q => by
  obtain ⟨m, k, ns, h1, h2, _⟩ := h.dk.ex
  have key : ∀ o, (∀ l, o ≠ .dK l) → (∀ l, o ≠ .lst l) → (∀ ps, o ≠ .tbl ps) → H a = some o → vw d r H a = some o := fun o n1 n2 n3 ho =>
    vw_of (fun z => by
      rw [z, h1] at ho
      exact n1 _ (Option.some.inj ho).symm) (fun z => by
      rw [z, h2] at ho
      exact n2 _ (Option.some.inj ho).symm) ho n3
  rcases q with q | ⟨o, q⟩
  · exact .inl (key _ (fun l z => by cases z) (fun l z => by cases z) (fun ps z => by cases z) q)
  · exact .inr ⟨o, key _ (fun l z => by cases z) (fun l z => by cases z) (fun ps z => by cases z) q⟩
theorem Co.keep (h : Co Tt d r b H) {a : Addr} {o : HO} (ha : H a = some o) (n1 : ∀ l, o ≠ .dK l) (n2 : ∀ l, o ≠ .lst l) (n3 : ∀ ps, o ≠ .tbl ps) : vw d r H a = some o := by
  obtain ⟨m, k, ns, h1, h2, _⟩ := h.dk.ex
  exact vw_of (fun z => by
    rw [z, h1] at ha
    exact n1 _ (Option.some.inj ha).symm) (fun z => by
    rw [z, h2] at ha
    exact n2 _ (Option.some.inj ha).symm) ha n3
/-- a list that is not the deck's -/
theorem Co.lst (h : Co Tt d r b H) {a : Addr} {xs : List V} (ha : H a = some (.lst xs)) (n : a ≠ r) : vw d r H a = some (.lst xs) := by
  obtain ⟨m, k, ns, h1, h2, _⟩ := h.dk.ex
  exact vw_of (fun z => by
    rw [z, h1] at ha
    cases ha) n ha fun ps z => by cases z
theorem Co.plT (h : Co Tt d r b H) {v : V} (p : PlT H v) : PlT (vw d r H) v := by
  obtain ⟨a, o, xs, rfl, h2, h3⟩ := p
  exact ⟨a, o, xs, rfl, h.keep h2 (fun l z => by cases z) (fun l z => by cases z) (fun ps z => by cases z), h3⟩
end
end K49
namespace K49
open PySem PySem.Spec PySem.W PyProof.Rows L2 Evl LamX
/-! ## the law's frame -/
abbrev lawN : List Str := ["_law_script", "_law_deck_here", "_law_offers", "_law_sides", "_law_lives", "_law_loose", "_law_one", "_law_other", "_law_trade", "_law_table", "_law_dated", "_law_due", "_law_kept", "_law_told", "_law_deeds", "_law_turn", "_law_place", "_law_deed", "_law_behind", "_law_moves", "_law_move", "_law_broken", "_law_met", "_law_at", "_law_offer", "_law_days", "_law_x", "_law_some"]
theorem scLaw : FnScope lawN ["_law_script"] (defScope sLaw) := ⟨rfl, rfl, rfl, by decide +kernel, rfl, by decide +kernel, by decide +kernel⟩
/-- what the law calls -/
structure LD (P : Program) (w : World) (K : PySem.W.Frag) (mg : Str → Option Value) (base : Heap) (C T : Addr) (Tt : List (Addr × Str)) (k : Nat) : Prop where
  deck : Fn P w K mg base (k + 1) "_law_deck" ["_law_script"] [] (spDeck K)
  draw : Fn P w K mg base (k + 1) "_law_draw" ["_law_deck_here", "_law_below"] [] spDraw
  lists : Fn P w K mg base (k + 1) "_law_lists" ["_law_deck_here", "_law_offers"] [] (spLists K)
  pick : Fn P w K mg base (k + 1) "_law_pick" ["_law_deck_here", "_law_some"] [] (spPick K)
  sets : Fn P w K mg base (k + 1) "_law_sets" ["_law_offers"] [] (spLSets K Tt)
  chooser : Fn P w K mg base (k + 1) "_law_chooser" ["_law_offers", "_law_lists_here"] [] (spLCh K P w C Tt)
  trade : ∃ (fI : Addr) (fdI : FuncData), Mk K T fI ∧ Binds K fdI ["self", "lives", "loose"] [] ∧ FnOk P w K mg base CX0 k fI fdI ["self", "lives", "loose"] (spTI K T) ∧ mg "Trade" = some (.ref T)
  alld : Fn P w K mg base (k + 1) "_law_all_dated" ["_law_lives"] [] (spLD K)
  kept : Fn P w K mg base (k + 1) "_law_kept_sets" ["_law_sides", "_law_offers", "_law_standing"] [] (spLK K Tt)
  book : Fn P w K mg base (k + 1) "_law_day_book" ["_law_lives", "_law_dated", "_law_deed"] [] (spLB K)
  pos : Fn P w K mg base (k + 1) "positions_of" ["near", "far", "trade", "most"] [.int 400] (spA K (rPosOf K P w C T))
  posK : FnK P w K mg base (k + 1) "positions_of" ["near", "far", "trade", "most"] ["near", "far", "trade", "most"] (fun l => l) (spA K (rPosOf K P w C T))
  ispos : Fn P w K mg base (k + 1) "is_position" ["near", "far", "trade", "thing"] [] (spA K (rIsPos K P w C T))
  moves : Fn P w K mg base (k + 1) "settler_moves" ["near", "far", "trade", "position", "deed"] [] (spA K (rMoves K P w C T))
  movesK : FnK P w K mg base (k + 1) "settler_moves" ["near", "far", "trade", "position", "deed"] ["deed", "position", "trade", "far", "near"] (fun l => l.reverse) (spA K (rMoves K P w C T))
  brok : Fn P w K mg base (k + 1) "broken_by" ["position", "following"] [] (spA K rBrok)
  T' : Txt mg
/-- what the law has drawn and made -/
structure LP where
  d : Addr
  r : Addr
  n : Nat
  L1 : List (List Int)
  L2 : List (List Int)
  lives : List Int
  loose : List Int
  va : V
  vb : V
  vt : V
  vlv : V
  kd : Addr
  adue : Addr
  xdue : List V
  vdeeds : V
def POS (p : LP) : List Pos := pairs (keptOf p.L1 p.L2) (datS p.lives p.n)
def DLs (p : LP) : List Deed := Deed.day :: (((List.range p.n).map fun (i : Nat) => Deed.come (i : Int)) ++ p.loose.map Deed.gone)
section
variable {P : Program} {w : World} {K : PySem.W.Frag} {C T : Addr} {p : LP} {G G' H : Hp}
def PosAt (K : PySem.W.Frag) (G : Hp) (v : V) (q : Pos) : Prop := ∃ a x y, v = .ref a ∧ SqT K G a [x, y] ∧ Dp K G x (eD q.1) ∧ PlT G x ∧ Dp K G y (eS q.2)
theorem PosAt.mono {v : V} {q : Pos} (e : Ex G G') (h : PosAt K G v q) : PosAt K G' v q := by
  obtain ⟨a, x, y, h1, h2, h3, h4, h5⟩ := h
  exact ⟨a, x, y, h1, ex_t e h2, dp_mono e h3, h4.mono e, dp_mono e h5⟩
theorem PosAt.dp {v : V} {q : Pos} (h : PosAt K G v q) : Dp K G v (eP q) := by
  obtain ⟨a, x, y, rfl, h2, h3, h4, h5⟩ := h
  exact .tup h2 (.cons h3 (.cons h5 .nil))
theorem posAt_all : ∀ {xs : List V} {qs : List Pos}, Paired (PosAt K G) xs qs → DpAll K G xs (qs.map eP)
  | _, _, .nil => .nil
  | _, _, .cons h t => .cons h.dp (posAt_all t)
structure LF (K : PySem.W.Frag) (P : Program) (w : World) (C T : Addr) (p : LP) (G : Hp) : Prop where
  tr : Tri K P w C T p.n p.L1 p.L2 p.lives p.loose G p.va p.vb p.vt
  lv : Dp K G p.vlv (eS p.lives)
  ls : Asc p.n p.loose
  tb : TabD K P w nkD eD (fun d => kl p.L1 p.L2 (offs d)) (fun _ => True) G p.kd (datsL p.lives p.n)
  du : SqT K G p.adue p.xdue
  dx : Paired (PosAt K G) p.xdue (POS p)
  dd : Dp K G p.vdeeds (.list ((DLs p).map eDeed))
  sm : (POS p).length ≤ 400
theorem LF.mono (e : Ex G G') (h : LF K P w C T p G) : LF K P w C T p G' :=
  ⟨h.tr.mono e, dp_mono e h.lv, h.ls, h.tb.mono e, ex_t e h.du, paired_mono (fun _ _ x => x.mono e) h.dx, dp_mono e h.dd, h.sm⟩
theorem LF.due (h : LF K P w C T p G) : Dp K G (.ref p.adue) (.tuple ((POS p).map eP)) := .tup h.du (posAt_all h.dx)
theorem LF.one (h : LF K P w C T p G) (o : Int) (ho : 0 ≤ o ∧ o < (p.n : Int)) : 1 ≤ p.lives.getD o.toNat 0 := h.tr.one o ho
theorem DLs_ok (h : Asc p.n p.loose) {dd : Deed} (hd : dd ∈ DLs p) : DeedOk p.n p.loose dd := by
  unfold DLs at hd
  rcases List.mem_cons.mp hd with rfl | hd
  · trivial
  · rcases List.mem_append.mp hd with hd | hd
    · obtain ⟨i, hi, rfl⟩ := List.mem_map.mp hd
      have := List.mem_range.mp hi
      exact ⟨by omega, by omega⟩
    · obtain ⟨o, ho, rfl⟩ := List.mem_map.mp hd
      exact ⟨h.2 o ho, ho⟩
theorem mem_POS {q : Pos} : q ∈ POS p ↔ Wi p.lives p.n q.1 ∧ q.2 ∈ keptOf p.L1 p.L2 q.1 := by
  unfold POS
  rw [mem_pairs]
  unfold datS
  rw [mem_msort, mem_datsP]
theorem POS_asc (n1 : 1 ≤ p.n) (n4 : p.n ≤ 4) {q : Pos} (h : q ∈ POS p) : Asc p.n q.2 := by
  obtain ⟨h1, h2⟩ := mem_POS.mp h
  exact ((mem_kept leS p.L1 p.L2 n1 n4 h1.asc).mp h2).1.1
theorem POS_nil (n1 : 1 ≤ p.n) (n4 : p.n ≤ 4) : (([], []) : Pos) ∈ POS p := mem_POS.mpr ⟨Wi.nil _ _, kept_nil leS p.L1 p.L2 n1 n4⟩
/-! ## small readings -/
variable {σ : L2.St} {ta tb te : TE} {D : Ends} {tz : TS} {Tt : List (Addr × Str)} {d r : Addr} {b : Nat}
theorem ev_ixV {a : Addr} {i : Int} {xs : List V} {v : V} (ha : Ev ta σ H (.ref a)) (hb : Ev tb σ H (.int i)) (hs : SqT K H a xs) (hi : atI xs i = some v) : Ev (tOp (rIxT K) ta tb) σ H v := fun H1 e Q q =>
  ha H1 e _ fun H2 e2 => hb H2 (e.trans e2) _ fun H3 e3 => ⟨a, xs, i, v, rfl, rfl, ex_t ((e.trans e2).trans e3) hs, hi, q H3 (e2.trans e3)⟩
theorem q_asgCall {sp : Sp} {tr : TA} {bs : List AS} {E : XK} {i : Nat} (ha : EvAr K tr σ H bs) (k : ∀ us H4, Ex H H4 → ArOk K H4 us bs → sp (us ++ []) H4 (fun v H5 => tz D (σ.set i (some v)) H5) E) : tSeq (tAsg (tCall sp [] E tr) (gName i)) tz D σ H :=
  ha H (Ex.refl H) _ fun us H4 e h => k us H4 e h
/-- a pick of a tuple, of a list -/
theorem q_pick {i j m : Nat} {a : Addr} {xs : List V} {E : XK} (hd : σ[i]? = some (some (.ref d))) (ha : σ[j]? = some (some (.ref a))) (c : Co Tt d r b H) (hb : b ≤ 1000000) (hs : SqT K (vw d r H) a xs) (n1 : 1 ≤ xs.length) (n2 : xs.length ≤ 1000000)
    (k : ∀ v H', v ∈ xs → Co Tt d r (b + 1) H' → Bd d r H H' → tz D (σ.set m (some v)) H') : tSeq (tAsg (tCall (spPick K) [] E (tCons (tVar i) (tCons (tVar j) tNil))) (gName m)) tz D σ H :=
  ⟨.ref d, hd, .ref a, ha, d, r, a, b, xs, rfl, c.dk, c.ne, hb, .inr (ex_t vw_hid hs), n1, n2, fun v H' hv dk bd => k v H' hv (c.bd bd dk) bd⟩
theorem q_pickSets {i j m n : Nat} {E E' : XK} (hd : σ[i]? = some (some (.ref d))) (hn : σ[j]? = some (some (.int (n : Int)))) (c : Co Tt d r b H) (hb : b ≤ 1000000) (n1 : 1 ≤ n) (n4 : n ≤ 4)
    (k : ∀ v s H', s ∈ allSets n → Dp K H' v (eS s) → Co Tt d r (b + 1) H' → Lx d r H H' → tz D (σ.set m (some v)) H') :
    tSeq (tAsg (tCall (spPick K) [] E (tCons (tVar i) (tCons (tCall (spLSets K Tt) [] E' (tCons (tVar j) tNil)) tNil))) (gName m)) tz D σ H := by
  refine ⟨.ref d, hd, .int n, hn, n, rfl, n1, n4, c.tb, fun H1 p ys eN T1 hp hy => ?_⟩
  have c1 := c.exN eN T1
  have hnil : ([] : List Int) ∈ allSets n := asc_all n1 n4 (Asc.nil n)
  have hl := dpAll_len hy
  rw [List.length_map] at hl
  have h16 := all_len n1 n4
  have hl1 : 1 ≤ (allSets n).length := List.length_pos_iff.mpr fun z => by rw [z] at hnil; cases hnil
  have hyv := dpAll_tx c1.tx (flatTs_map flat_S _) hy
  -- the list of sets may not be the deck's rest: its items are no ints
  have hpr : p ≠ r := fun z => by
    obtain ⟨m0, k0, ns, h1, h2, _⟩ := c1.dk.ex
    rw [z, h2] at hp
    cases hp
    obtain ⟨y, hy1⟩ : ∃ y, (allSets n)[0]? = some y := ⟨_, List.getElem?_eq_getElem hl1⟩
    obtain ⟨u, hu1, hu2⟩ := dpAll_get (i := 0) (d := eS y) hy (by rw [List.getElem?_map, hy1]; rfl)
    rw [List.getElem?_map] at hu1
    obtain ⟨z0, _, rfl⟩ := Option.map_eq_some_iff.mp hu1
    obtain ⟨a, ez, _⟩ := dp_S hu2
    cases ez
  have hpd : p ≠ d := fun z => by
    obtain ⟨m0, k0, ns, h1, h2, _⟩ := c1.dk.ex
    rw [z, h1] at hp
    cases hp
  refine ⟨d, r, p, b, ys, rfl, c1.dk, c1.ne, hb, .inl (sq_of (by rw [hid_ne hpd hpr]; exact hp)), by omega, by omega, fun v H' hv dk bd => ?_⟩
  obtain ⟨i0, hi0⟩ := List.mem_iff_getElem?.mp hv
  obtain ⟨d0, hd0, hd1⟩ := dpAll_at hyv hi0
  rw [List.getElem?_map] at hd0
  obtain ⟨s, hs, rfl⟩ := Option.map_eq_some_iff.mp hd0
  exact k v s H' (List.mem_of_getElem? hs) (dp_mono ((Lx.vw (Lx.bd bd)).trans vw_ex) hd1) (c1.bd bd dk) ((Lx.exN eN).trans (Lx.bd bd))
/-- x in a dict of a dated set -/
theorem val_dkv (x : Int) : ∀ d : Dt, (valV (dkv d) (Sum.inl x : Key)).isSome = decide (x ∈ offs d)
  | [] => rfl
  | q :: d => by
    have ih := val_dkv x d
    unfold valV at ih ⊢
    show ((((Sum.inl q.1 : Key), V.int q.2) :: dkv d).find? _ |>.map _).isSome = _
    rw [List.find?_cons]
    by_cases e : q.1 = x
    · have e2 : decide ((Sum.inl q.1 : Key) = Sum.inl x) = true := decide_eq_true (by rw [e])
      rw [e2]
      show true = _
      rw [decide_eq_true (show x ∈ offs (q :: d) by unfold offs; rw [List.map_cons, e]; exact List.mem_cons_self)]
    · have e2 : decide ((Sum.inl q.1 : Key) = Sum.inl x) = false := decide_eq_false fun z => e (Sum.inl.inj z)
      rw [e2]
      show _ = decide (x ∈ offs (q :: d))
      rw [show decide (x ∈ offs (q :: d)) = decide (x ∈ offs d) from decide_eq_decide.mpr ⟨fun h => (List.mem_cons.mp h).resolve_left fun z => e z.symm, List.mem_cons_of_mem _⟩]
      exact ih
theorem ev_din {x : Int} {bk : Dt} (hy : Ev ta σ H (.int x)) (hd : EvK tb σ H (dkv bk)) : Ev (tDIn ta tb) σ H (.bl (decide (x ∈ offs bk))) := fun H1 e Q q =>
  hy H1 e _ fun H2 e2 => hd H2 (e.trans e2) _ fun p H3 hp e3 h3 => ⟨p, _, rfl, DGet.k (k := Sum.inl x) h3, by rw [val_dkv]; exact q H3 (e2.trans e3)⟩
def rNotBl : R2 := fun x y H Q => ∃ a b, x = .bl a ∧ y = .bl b ∧ Q (.bl (!decide (a = b))) H
theorem op_notBlc {X : Cx} : OpR X (compareOp .IsNot) rNotBl := op_isnot_bl
theorem rv_notBl {a c : Bool} : RV rNotBl (.bl a) (.bl c) H (.bl (!decide (a = c))) := fun H1 _ Q q => ⟨a, c, rfl, rfl, q H1 (Ex.refl _)⟩
theorem shaped_bool (c : Bool) : SeqAt.shaped (.bool c) = true := shaped_of (n := 0) (by simp [PyData.canLay0]) (by simp [PyData.depth]) (by decide)
theorem eqv_bool (a c : Bool) : PyData.eqv (.bool a) (.bool c) = decide (a = c) := by cases a <;> cases c <;> simp [PyData.eqv]
end
end K49
namespace K49
open PySem PySem.Spec PySem.W PyProof.Rows L2 Evl LamX
abbrev LX (P : Program) (w : World) (K : PySem.W.Frag) (mg : Str → Option Value) (base : Heap) (f : Addr) (cdv : Value) (A : Around) (outer : List Env) (s : Shared) (H0 : Hp) (E : XK) : Cx :=
  (cxOf CX0 P w K mg base lawN "law" (defScope sLaw) f cdv A outer s H0 E).nox
/-- the body from the n-th statement on gives True from every state that S allows -/
def Suf (X : Cx) (n : Nat) (S : L2.St → Hp → Prop) : Prop := ∃ t, PSs X ((defBody sLaw).drop n) t ∧ ∀ (D : Ends) σ H, (∀ H', D.rt (.bl true) H') → S σ H → t D σ H
abbrev fr (p : LP) (x0 x3 x5 x10 x12 x13 x15 x16 x17 x18 x19 x20 x21 x22 x23 x24 x25 x26 x27 : Option V) : L2.St :=
  [x0, some (.ref p.d), some (.int (p.n : Int)), x3, some p.vlv, x5, some p.va, some p.vb, some p.vt, some (.ref p.kd), x10, some (.ref p.adue), x12, x13, some p.vdeeds, x15, x16, x17, x18, x19, x20, x21, x22, x23, x24, x25, x26, x27]
section
variable {P : Program} {w : World} {K : PySem.W.Frag} {mg : Str → Option Value} {base : Heap} {C T : Addr} {Tt : List (Addr × Str)}
/-- the law's values stand, whatever has been drawn -/
def SW (K : PySem.W.Frag) (P : Program) (w : World) (C T : Addr) (Tt : List (Addr × Str)) (p : LP) (b : Nat) (σ : L2.St) (H : Hp) : Prop :=
  (∃ x0 x3 x5 x10 x12 x13 x15 x16 x17 x18 x19 x20 x21 x22 x23 x24 x25 x26 x27, σ = fr p x0 x3 x5 x10 x12 x13 x15 x16 x17 x18 x19 x20 x21 x22 x23 x24 x25 x26 x27) ∧ ∃ G, LF K P w C T p G ∧ Ex G (vw p.d p.r H) ∧ Co Tt p.d p.r b H
theorem SW.ex {p : LP} {b : Nat} {σ : L2.St} {H H' : Hp} (h : SW K P w C T Tt p b σ H) (e : Ex H H') : SW K P w C T Tt p b σ H' := by
  obtain ⟨h1, G, h2, h3, h4⟩ := h
  exact ⟨h1, G, h2, h3.trans (Lx.vw (Lx.ex e)), h4.ex e⟩
theorem paired_mem {α β : Type} {R : α → β → Prop} : ∀ {l : List α} {m : List β}, Paired R l m → ∀ {a : α}, a ∈ l → ∃ b ∈ m, R a b
  | _, _, .nil, _, h => by cases h
  | _, _, .cons x t, a, h => (List.mem_cons.mp h).elim (fun e => ⟨_, List.mem_cons_self, e ▸ x⟩) fun h => let ⟨b, h1, h2⟩ := paired_mem t h; ⟨b, List.mem_cons_of_mem _ h1, h2⟩
theorem wi_len {lives : List Int} {n : Nat} {d : Dt} (h : Wi lives n d) : d.length ≤ n := datsP_wi ((mem_datsP lives n d).mpr h)
theorem broken_eq (q m : Pos) : (q.2.filter fun o => decide (o ∈ offs m.1) && !decide (o ∈ m.2)) = brokenP q m := rfl
theorem law_turns {f : Addr} {cdv : Value} {A : Around} {outer : List Env} {s : Shared} {H0 : Hp} {E : XK} {k b : Nat} (L : LD P w K mg base C T Tt k) (hr : Room (k + 1) (LX P w K mg base f cdv A outer s H0 E).A) (hb : b ≤ 100000)
    (N : Suf (LX P w K mg base f cdv A outer s H0 E) 15 fun σ H => ∃ p, SW K P w C T Tt p (b + 6) σ H) : Suf (LX P w K mg base f cdv A outer s H0 E) 14 fun σ H => ∃ p, SW K P w C T Tt p b σ H := by
  obtain ⟨t, pN, rN⟩ := N
  have T' := L.T'
  have hu := hu_64 hr
  refine ⟨_, pss_cons (ps_for PassesOwn.never rfl (pi_range1 (by rfl) T'.range (pa_cons pe_int pa_nil)) (pg_name (i := 15) scLaw.nd rfl (.inl rfl))
      (pss_cons (ps_set (i := 16) scLaw.nd rfl (.inl rfl) (pe_fn L.pick hr (pa_cons (pv 1) (pa_cons (pv 11) pa_nil))))
      (pss_cons (ps_set (i := 12) scLaw.nd rfl (.inl rfl) (pe_fn L.pick hr (pa_cons (pv 1) (pa_cons (pe_fn L.sets hr (pa_cons (pv 2) pa_nil)) pa_nil))))
      (pss_cons (ps_if (pt_cmpR op_notBlc (pe_fn L.ispos hr (pa_cons (pv 6) (pa_cons (pv 7) (pa_cons (pv 8) (pa_cons (pv 16) pa_nil))))) pe_bl (nomark _)) (pss_one (ps_ret pe_bl)) pss_nil)
      (pss_cons (ps_if (pt_cmpR (op_neD hu) (pe_fn L.ispos hr (pa_cons (pv 6) (pa_cons (pv 7) (pa_cons (pv 8) (pa_cons (pe_tup (pa_cons (pe_ix ix_tup (pv 16) pe_int (fun _ _ => rfl)) (pa_cons (pv 12) pa_nil))) pa_nil)))))
          (pe_cmpR (op_inD (hu_65 hr)) (pv 12) (pe_nget hu (pv 9) (pe_ix ix_tup (pv 16) pe_int (fun _ _ => rfl)) (fun _ _ => rfl)) (by with_unfolding_all rfl)) (nomark _)) (pss_one (ps_ret pe_bl)) pss_nil)
      (pss_one (ps_for PassesOwn.never rfl (pi_list (pv 14)) (pg_name (i := 17) scLaw.nd rfl (.inl rfl))
        (pss_cons (ps_set (i := 18) scLaw.nd rfl (.inr rfl) (pe_fn L.book hr (pa_cons (pv 4) (pa_cons (pe_ix ix_tup (pv 16) pe_int (fun _ _ => rfl)) (pa_cons (pv 17) pa_nil)))))
        (pss_cons (ps_set (i := 19) scLaw.nd rfl (.inl rfl) (pe_callTy call_tuple_of (by rfl) T'.tuple boot_tup' (pa_cons (pe_lc (own := [("_law_some", 27)]) (g := gName 27) (tt := tYes) (te := tTup (tCons (tVar 18) (tCons (tVar 27) tNil))) rfl scLaw.nd (pi_list (pe_nget hu (pv 9) (pv 18) (fun _ _ => rfl)))
            (blkOk_by (N := lawN) (sc := defScope sLaw) (by decide +kernel)) (fun _ _ _ _ _ => pg_name (i := 27) scLaw.nd rfl (.inl rfl)) (fun _ _ _ _ _ => pts_nil) (fun _ _ _ _ _ => pe_tup (pa_cons (pv 18) (pa_cons (pv 27) pa_nil)))) pa_nil)))
        (pss_cons (ps_if (pt_cmpR (op_neD hu) (pe_fn L.moves hr (pa_cons (pv 6) (pa_cons (pv 7) (pa_cons (pv 8) (pa_cons (pv 16) (pa_cons (pv 17) pa_nil)))))) (pv 19) (nomark _)) (pss_one (ps_ret pe_bl)) pss_nil)
        (pss_cons (ps_if (pt_cmpR (op_neD hu) (pe_fnK L.movesK hr (pk_cons (pv 17) (pk_cons (pv 16) (pk_cons (pv 8) (pk_cons (pv 7) (pk_cons (pv 6) pk_nil)))))) (pv 19) (nomark _)) (pss_one (ps_ret pe_bl)) pss_nil)
        (pss_one (ps_for PassesOwn.never rfl (pi_tup (pv 19)) (pg_name (i := 20) scLaw.nd rfl (.inr rfl))
          (pss_cons (ps_setLc (i := 21) (own := [("_law_x", 26)]) (g := gName 26) (tt := tAnd (tB (tDIn (tVar 26) (tCB (rDictF K) (tCons (tVar 18) tNil)))) (tTest (tOp (rIn K true) (tVar 26) (tOp (rIxT K) (tVar 20) (tC (.int 1)))))) rfl scLaw.nd rfl rfl (sw_true rfl rfl rfl (by decide +kernel)) (pi_tup (pe_ix ix_tup (pv 16) pe_int (fun _ _ => rfl)))
            (blkOk_by (N := lawN) (sc := defScope sLaw) (by decide +kernel)) (fun _ _ _ _ _ => pg_name (i := 26) scLaw.nd rfl (.inl rfl))
            (fun _ _ _ _ _ => pts_one (PW.pt (pw_and (pt_cmp (pc_din (hu_of hr) (pv 26) (pe_callTy (call_dictF rfl) (by rfl) T'.dict boot_dict' (pa_cons (pv 18) pa_nil)))) (pw_and1 (pt_cmpR op_notIn_seq (pv 26) (pe_ix ix_tup (pv 20) pe_int (fun _ _ => rfl)) (by with_unfolding_all rfl)))))) (fun _ _ _ _ _ => pv 26))
          (pss_one (ps_if (pt_cmpR (op_neD hu) (pe_fn L.brok hr (pa_cons (pv 16) (pa_cons (pv 20) pa_nil))) (pe_callTy call_tuple_of (by rfl) T'.tuple boot_tup' (pa_cons (pv 21) pa_nil)) (nomark _)) (pss_one (ps_ret pe_bl)) pss_nil)))))))))))))))) pN, fun D σ H hD hS => ?_⟩
  obtain ⟨p, ⟨x0, x3, x5, x10, x12, x13, x15, x16, x17, x18, x19, x20, x21, x22, x23, x24, x25, x26, x27, rfl⟩, G, F, eG, c⟩ := hS
  refine q_forR1 (n := 3) (ea_cons ev_c ea_nil) ⟨by decide, by decide⟩ (fun i σ H' => SW K P w C T Tt p (b + i * 2) σ H') (fun H1 e1 => ⟨⟨_, _, _, _, _, _, _, _, _, _, _, _, _, _, _, _, _, _, _, rfl⟩, G, F, eG.trans (Lx.vw (Lx.ex e1)), c.ex e1⟩) (fun i σ H' hi pw => ?_) fun σ H' pw => rN D σ H' hD ⟨p, pw⟩
  clear F eG c
  obtain ⟨⟨x0, x3, x5, x10, x12, x13, x15, x16, x17, x18, x19, x20, x21, x22, x23, x24, x25, x26, x27, rfl⟩, G, F, eG, c⟩ := pw
  have n1 := F.tr.n1
  have n4 := F.tr.n4
  have hxl := Paired.length F.dx
  have hpos : 1 ≤ (POS p).length := List.length_pos_iff.mpr fun z => by
    have := POS_nil (p := p) n1 n4
    rw [z] at this
    cases this
  have hsm := F.sm
  refine q_pick (d := p.d) (r := p.r) (b := b + i * 2) (a := p.adue) (xs := p.xdue) rfl rfl c (by omega) (ex_t eG F.du) (by omega) (by omega) fun vp H1 hv c1 bd1 => ?_
  obtain ⟨q, hq, hPA⟩ := paired_mem F.dx hv
  have eG1 := eG.trans (Lx.vw (Lx.bd bd1))
  refine q_pickSets (n := p.n) (d := p.d) (r := p.r) rfl rfl c1 (by omega) n1 n4 fun vk sk H2 hsk hvk c2 lx2 => ?_
  have eGv := eG1.trans (Lx.vw lx2)
  have eG2 : Ex G H2 := eGv.trans vw_ex
  have F2 := F.mono eG2
  obtain ⟨hqw, hqk⟩ := mem_POS.mp hq
  have hqa := POS_asc n1 n4 hq
  obtain ⟨ap, px, py, rfl, hsq, hpx, plx, hpy⟩ := hPA.mono eG2
  have hpl : Dp K H2 (.ref ap) (eP q) := .tup hsq (.cons hpx (.cons hpy .nil))
  have hska := all_asc n1 n4 sk hsk
  have isp : ∀ {σ : L2.St} {H3 : Hp} {te : TE} {s : List Int}, Ex H2 H3 → σ[6]? = some (some p.va) → σ[7]? = some (some p.vb) → σ[8]? = some (some p.vt) → EvD K te σ H3 (eP (q.1, s)) → Asc p.n s →
      EvD K (tCall (spA K (rIsPos K P w C T)) [] E0 (tCons (tVar 6) (tCons (tVar 7) (tCons (tVar 8) (tCons te tNil))))) σ H3 (.bool (decide (s ∈ keptOf p.L1 p.L2 q.1))) := fun {σ H3 te s} e3 h6 h7 h8 ht hs =>
    ed_call (ar_v (ev_var h6) (ar_v (ev_var h7) (ar_v (ev_var h8) (ar_d ht ar_nil)))) fun _ e => ⟨p.va, p.vb, p.vt, p.n, p.L1, p.L2, p.lives, p.loose, (q.1, s), rfl, F2.tr.mono (e3.trans e), hqw, hs, rfl⟩
  refine q_when (et_test (ev_op (EvD.bl (isp (s := q.2) (Ex.refl _) rfl rfl rfl (ed_var rfl hpl) hqa)) ev_c rv_notBl)) (fun z => ?_) fun _ H3 e3 => ?_
  · rw [decide_eq_true hqk] at z
    cases z
  have place0 : ∀ {σ : L2.St} {H4 : Hp}, Ex H2 H4 → σ[16]? = some (some (.ref ap)) → EvD K (tOp (rIxT K) (tVar 16) (tC (.int 0))) σ H4 (eD q.1) := fun {σ H4} e4 h => ed_ixT (ds := [eD q.1, eS q.2]) (i := 0) (ed_var h (dp_mono e4 hpl)) ev_c rfl
  refine q_when (et_test (ev_neD (K := K) (isp (s := sk) e3 rfl rfl rfl (ed_tup (eds_cons (place0 e3 rfl) (eds_cons (ed_var rfl (dp_mono e3 hvk)) eds_nil)) (by show 2 ≤ 100000; decide)) hska)
    (ed_bl (ev_inL (es := (keptOf p.L1 p.L2 q.1).map eS) (ed_var rfl (dp_mono e3 hvk)) (ed_tget (g := fun d => kl p.L1 p.L2 (offs d)) keyD (ev_var rfl) (place0 e3 rfl) (tupD _) (F2.tb.mono e3) ((mem_datsL p.lives p.n q.1).mpr hqw)) (shaped_S _) (shaped_list lay_S depth_S (by decide) _))) (shaped_bool _) (shaped_bool _))) (fun z => ?_) fun _ H4 e4 => ?_
  · rw [any_eqv eqv_S, eqv_bool] at z
    exact absurd z (by simp)
  have e24 := e3.trans e4
  refine s_forV (K := K) (as := DLs p) (e1 := eDeed) (ev_var rfl) (dp_mono e24 F2.dd) (fun l σ' H' => Ex H4 H' ∧ ∃ y17 y18 y19 y20 y21, σ' = fr p x0 x3 x5 x10 (some vk) x13 (some (.int (i : Int))) (some (.ref ap)) y17 y18 y19 y20 y21 x22 x23 x24 x25 x26 x27)
    (fun H5 e5 => ⟨e5, _, _, _, _, _, rfl⟩) (fun l σ' H' pw => pw.1) (fun l a rr hsp x σ' H5 pw hx => ?_) fun σ' H5 pw => ?_
  · obtain ⟨e5, y17, y18, y19, y20, y21, rfl⟩ := pw
    have hdd : DeedOk p.n p.loose a := DLs_ok F.ls (by rw [hsp]; simp)
    have hdl : DeedOk p.lives.length p.loose a := by rw [F.tr.ln]; exact hdd
    have e25 := e24.trans e5
    refine q_asgCall (K := K) (bs := [.inl p.vlv, .inl px, .inl x]) (ar_v (ev_var rfl) (ar_v (ev_ixV (ev_var rfl) ev_c (ex_t e25 hsq) rfl) (ar_v (ev_var rfl) ar_nil))) fun us H6 e6 hu6 => ?_
    obtain ⟨us, rfl, _, hu6⟩ := hu6.hv
    obtain ⟨us, rfl, _, hu6⟩ := hu6.hv
    obtain ⟨us, rfl, _, hu6⟩ := hu6.hv
    obtain rfl := hu6.nilv
    have e26 := e25.trans e6
    refine ⟨p.vlv, px, x, p.lives, p.loose, p.n, q.1, a, rfl, dp_mono e26 F2.lv, dp_mono e26 hpx, plx.mono e26, dp_mono e6 hx, F.tr.ln.symm, n4, hqw, hdd, fun vbh H7 e7 hbh pbh => ?_⟩
    generalize hB : K49.behind leI p.lives q.1 a = bh at hbh
    have hbw : Wi p.lives p.n bh := by
      rw [← hB]
      exact behind_wi by_offer F.one hqw hdd
    have hbl := wi_len hbw
    have hmv : movesOf p.L1 p.L2 p.lives q a = (keptOf p.L1 p.L2 bh).map fun s => (bh, s) := by
      unfold movesOf
      rw [hB]
    have e27 := e26.trans e7
    have hkl := kept_len leS p.L1 p.L2 n1 n4 hbw.asc
    refine q_asgD (K := K) (d := .tuple ((movesOf p.L1 p.L2 p.lives q a).map eP)) (ed_is (ed_tupOf (EvN.toD (en_lcL (K := K) (as := keptOf p.L1 p.L2 bh) (e1 := eS) (e2 := eP) (Tg := fun s => TgN K _ 27 (eS s)) (fun _ => true) (fun s => (bh, s))
      (ed_tget (g := fun d => kl p.L1 p.L2 (offs d)) keyD (ev_var rfl) (ed_var rfl hbh) (tupD _) (F2.tb.mono e27) ((mem_datsL p.lives p.n bh).mpr hbw)) (by show (kept leS p.L1 p.L2 (offs bh)).length ≤ 40000; omega) flat_P
      (fun s hs x H8 e8 hx Q q => tg_name hx (fun _ => rfl) Q q) (fun s hs σ2 H8 e8 hT => ev_yes) (fun s hs σ2 H8 H9 e8 hT e9 _ => ?_)))) ?_) fun vm H8 e8 hvm => ?_
    · obtain ⟨z, rfl, hz⟩ := hT
      exact ed_tup (eds_cons (ed_var rfl (dp_mono (e8.trans e9) hbh)) (eds_cons (ed_var rfl (dp_mono e9 hz)) eds_nil)) (by show 2 ≤ 100000; decide)
    · rw [lcRes_all, hmv]
    have e28 := e27.trans e8
    have hx8 := dp_mono ((e6.trans e7).trans e8) hx
    have hRm : ∀ {H9 : Hp}, Ex H2 H9 → rMoves K P w C T H9 [.inl p.va, .inl p.vb, .inl p.vt, .inr (eP q), .inr (eDeed a)] (.tuple ((movesOf p.L1 p.L2 p.lives q a).map eP)) := fun e => ⟨p.va, p.vb, p.vt, p.n, p.L1, p.L2, p.lives, p.loose, q, a, rfl, F2.tr.mono e, hqw, hqa, hqk, hdl, rfl⟩
    have shm := shaped_tuple lay_P depth_P (by decide) (movesOf p.L1 p.L2 p.lives q a)
    refine q_when (et_test (ev_neD (K := K) (ed_call (ar_v (ev_var rfl) (ar_v (ev_var rfl) (ar_v (ev_var rfl) (ar_d (ed_var rfl (dp_mono e28 hpl)) (ar_d (ed_var rfl hx8) ar_nil))))) fun _ e => hRm (e28.trans e)) (ed_var rfl hvm) shm shm)) (fun z => ?_) fun _ H9 e9 => ?_
    · rw [eqv_LP, decide_eq_true rfl] at z
      cases z
    have e29 := e28.trans e9
    refine q_when (et_test (ev_neD (K := K) (ed_callK (as := [.inr (eDeed a), .inr (eP q), .inl p.vt, .inl p.vb, .inl p.va]) (ar_d (ed_var rfl (dp_mono e9 hx8)) (ar_d (ed_var rfl (dp_mono e29 hpl)) (ar_v (ev_var rfl) (ar_v (ev_var rfl) (ar_v (ev_var rfl) ar_nil))))) rfl (fun vs H1 h => ?_) fun _ e => hRm (e29.trans e)) (ed_var rfl (dp_mono e9 hvm)) shm shm)) (fun z => ?_) fun _ Ha ea => ?_
    · obtain ⟨v1, vs, rfl, h1, h⟩ := h.hd
      obtain ⟨v2, vs, rfl, h2, h⟩ := h.hd
      obtain ⟨vs, rfl, _, h⟩ := h.hv
      obtain ⟨vs, rfl, _, h⟩ := h.hv
      obtain ⟨vs, rfl, _, h⟩ := h.hv
      obtain rfl := h.nilv
      exact ⟨rfl, rfl, rfl, h2, h1, trivial⟩
    · rw [eqv_LP, decide_eq_true rfl] at z
      cases z
    have e2a := e29.trans ea
    have ebig := (((e5.trans e6).trans e7).trans e8).trans (e9.trans ea)
    refine s_forT (K := K) (as := movesOf p.L1 p.L2 p.lives q a) (e1 := eP) (ed_var rfl (dp_mono (e9.trans ea) hvm)) flat_P (fun H1 l σ' H' => Ex Ha H' ∧ Ex H1 H' ∧ ∃ y20 y21, σ' = fr p x0 x3 x5 x10 (some vk) x13 (some (.int (i : Int))) (some (.ref ap)) (some x) (some vbh) (some vm) y20 y21 x22 x23 x24 x25 x26 x27)
      (fun H1 e1 => ⟨e1, Ex.refl _, _, _, rfl⟩) (fun H1 l σ' H' _ pw => Tx.of pw.2.1) (fun H1 l m rr hb1 hsp y σ' Hb pw hy => ?_) fun H1 σ' Hb e1 pw => ?_
    · obtain ⟨eb, eb1, y20, y21, rfl⟩ := pw
      have e2b := e2a.trans eb
      have hm1 : m.1 = bh := by
        have : m ∈ movesOf p.L1 p.L2 p.lives q a := by rw [hsp]; simp
        rw [hmv] at this
        obtain ⟨s, _, rfl⟩ := List.mem_map.mp this
        rfl
      have hbhb := dp_mono ((e8.trans (e9.trans ea)).trans eb) hbh
      have pbhb := pbh.mono ((e8.trans (e9.trans ea)).trans eb)
      have hq4 := asc_len4 n1 n4 hqa
      refine q_asgN (K := K) (ds := (brokenP q m).map .int) (en_is (en_lcT (K := K) (as := q.2) (e1 := PyData.int) (e2 := PyData.int) (Tg := fun o => TgN K _ 26 (.int o)) (fun o => decide (o ∈ offs m.1) && !decide (o ∈ m.2)) id
        (ed_ixT (ds := [eD q.1, eS q.2]) (i := 1) (ed_var rfl (dp_mono e2b hpl)) ev_c rfl) (by omega) flat_int
        (fun o ho x H8 e8 hx Q q => tg_name hx (fun _ => rfl) Q q) (fun o ho σ2 H8 e8 hT => ?_) (fun o ho σ2 H8 H9 e8 hT e9 _ => ?_)) (by rw [lcRes_id]; rfl)) fun pb bs Hc hpb ec hbs hbd => ?_
      · obtain ⟨z, rfl, hz⟩ := hT
        refine et_and (et_B (ev_din (EvD.int (ed_var rfl hz)) ?_)) fun _ => et_test (ev_niS (ed_var rfl hz) (ed_ixT (ds := [eD m.1, eS m.2]) (i := 1) (ed_var rfl (dp_mono e8 hy)) ev_c rfl))
        rw [hm1]
        exact ek_dictF (dx_var rfl (dp_mono e8 hbhb) (pbhb.mono e8)) hbw.nodup
      · obtain ⟨z, rfl, hz⟩ := hT
        exact ed_var rfl (dp_mono e9 hz)
      refine s_when (et_test (ev_neD (K := K) (ed_call (ar_d (ed_var rfl (dp_mono (e2b.trans ec) hpl)) (ar_d (ed_var rfl (dp_mono ec hy)) ar_nil)) fun _ _ => ⟨q, m, rfl, by omega, by rw [hm1]; omega, rfl⟩) (ed_tupOf (ed_var rfl (.lst (sq_of hbs) hbd))) (shaped_S _) (shaped_S _))) (fun z => ?_) fun _ Hd ed => ?_
      · rw [show PyData.tuple ((brokenP q m).map .int) = eS (brokenP q m) from rfl, eqv_S, decide_eq_true rfl] at z
        cases z
      · exact ⟨(eb.trans ec).trans ed, (eb1.trans ec).trans ed, _, _, rfl⟩
    · obtain ⟨eb, eb1, y20, y21, rfl⟩ := pw
      exact ⟨ebig.trans eb, _, _, _, _, _, rfl⟩
  · obtain ⟨e5, y17, y18, y19, y20, y21, rfl⟩ := pw
    exact ⟨⟨_, _, _, _, _, _, _, _, _, _, _, _, _, _, _, _, _, _, _, rfl⟩, G, F, eGv.trans (Lx.vw (Lx.ex (e24.trans e5))), (c2.ex (e24.trans e5)).up (by omega)⟩
end
end K49
namespace K49
open PySem PySem.Spec PySem.W PyProof.Rows L2 Evl LamX
section
variable {K : PySem.W.Frag} {σ : L2.St} {H : Hp} {ta tb : TE} {tr : TA} {ds es : List PyData} {d : PyData}
theorem ArOk.snoc {m : Int} : ∀ {vs : List V} {as : List AS}, ArOk K H vs as → ArOk K H (vs ++ [.int m]) (as ++ [.inr (.int m)])
  | [], [], _ => ⟨.int m, trivial⟩
  | _ :: _, .inl _ :: _, h => ⟨h.1, ArOk.snoc h.2⟩
  | _ :: _, .inr _ :: _, h => ⟨h.1, ArOk.snoc h.2⟩
theorem ed_callD {R : Hp → List AS → PyData → Prop} {as : List AS} {m : Int} {E : XK} (h : EvAr K tr σ H as) (hR : ∀ H1, Ex H H1 → R H1 (as ++ [.inr (.int m)]) d) : EvD K (tCall (spA K R) [.int m] E tr) σ H d := fun H1 a Q q =>
  h H1 a _ fun vs H2 e2 ha => ⟨as ++ [.inr (.int m)], d, ha.snoc, hR H2 (a.trans e2), fun v H3 e3 hd => q v H3 (e2.trans e3) hd⟩
end
section
variable {P : Program} {w : World} {K : PySem.W.Frag} {mg : Str → Option Value} {base : Heap} {C T : Addr} {Tt : List (Addr × Str)}
abbrev frV (p : LP) (vl : V) (x0 x3 x10 x12 x13 x14 x15 x16 x17 x18 x19 x20 x21 x22 x23 x24 x25 x26 x27 : Option V) : L2.St :=
  [x0, some (.ref p.d), some (.int (p.n : Int)), x3, some p.vlv, some vl, some p.va, some p.vb, some p.vt, some (.ref p.kd), x10, some (.ref p.adue), x12, x13, x14, x15, x16, x17, x18, x19, x20, x21, x22, x23, x24, x25, x26, x27]
structure LV (K : PySem.W.Frag) (P : Program) (w : World) (C T : Addr) (p : LP) (vl : V) (G : Hp) : Prop where
  tr : Tri K P w C T p.n p.L1 p.L2 p.lives p.loose G p.va p.vb p.vt
  lv : Dp K G p.vlv (eS p.lives)
  ls : Asc p.n p.loose
  lo : Dp K G vl (eS p.loose)
  tb : TabD K P w nkD eD (fun d => kl p.L1 p.L2 (offs d)) (fun _ => True) G p.kd (datsL p.lives p.n)
  du : SqT K G p.adue p.xdue
  dx : Paired (PosAt K G) p.xdue (POS p)
  sm : (POS p).length ≤ 400
def SV (K : PySem.W.Frag) (P : Program) (w : World) (C T : Addr) (Tt : List (Addr × Str)) (p : LP) (b : Nat) (σ : L2.St) (H : Hp) : Prop :=
  ∃ vl, (∃ x0 x3 x10 x12 x13 x14 x15 x16 x17 x18 x19 x20 x21 x22 x23 x24 x25 x26 x27, σ = frV p vl x0 x3 x10 x12 x13 x14 x15 x16 x17 x18 x19 x20 x21 x22 x23 x24 x25 x26 x27) ∧ ∃ G, LV K P w C T p vl G ∧ Ex G (vw p.d p.r H) ∧ Co Tt p.d p.r b H
theorem law_told {f : Addr} {cdv : Value} {A : Around} {outer : List Env} {s : Shared} {H0 : Hp} {E : XK} {k b : Nat} (L : LD P w K mg base C T Tt k) (hr : Room (k + 1) (LX P w K mg base f cdv A outer s H0 E).A)
    (N : Suf (LX P w K mg base f cdv A outer s H0 E) 14 fun σ H => ∃ p, SW K P w C T Tt p b σ H) : Suf (LX P w K mg base f cdv A outer s H0 E) 11 fun σ H => ∃ p, SV K P w C T Tt p b σ H := by
  obtain ⟨t, pN, rN⟩ := N
  have T' := L.T'
  have hu := hu_64 hr
  refine ⟨_, pss_cons (ps_set (i := 13) scLaw.nd rfl (.inl rfl) (pe_fn L.pos hr (pa_cons (pv 6) (pa_cons (pv 7) (pa_cons (pv 8) pa_nil)))))
    (pss_cons (ps_if (PW.pt (pw_or (pt_cmpR (op_neD hu) (pv 13) (pv 11) (nomark _)) (pw_or1 (pt_cmpR (op_neD hu) (pe_fnK L.posK hr (pk_cons (pv 6) (pk_cons (pv 7) (pk_cons (pv 8) (pk_cons (pe_callB call_len_seq (by rfl) T'.len PySem.boot_len (pa_cons (pv 11) pa_nil)) pk_nil))))) (pv 11) (nomark _))))) (pss_one (ps_ret pe_bl)) pss_nil)
    (pss_cons (ps_set (i := 14) scLaw.nd rfl (.inl rfl) (pe_op op_cat (pe_op op_cat (pe_lst (pa_cons (pe_tup (pa_cons pe_str pa_nil)) pa_nil))
        (pe_lc (own := [("_law_offer", 24)]) (g := gName 24) (tt := tYes) rfl scLaw.nd (pi_range1 (by rfl) T'.range (pa_cons (pv 2) pa_nil)) (blkOk_by (N := lawN) (sc := defScope sLaw) (by decide +kernel)) (fun _ _ _ _ _ => pg_name (i := 24) scLaw.nd rfl (.inl rfl)) (fun _ _ _ _ _ => pts_nil) (fun _ _ _ _ _ => pe_tup (pa_cons pe_str (pa_cons (pv 24) pa_nil)))))
        (pe_lc (own := [("_law_offer", 24)]) (g := gName 24) (tt := tYes) rfl scLaw.nd (pi_tup (pv 5)) (blkOk_by (N := lawN) (sc := defScope sLaw) (by decide +kernel)) (fun _ _ _ _ _ => pg_name (i := 24) scLaw.nd rfl (.inl rfl)) (fun _ _ _ _ _ => pts_nil) (fun _ _ _ _ _ => pe_tup (pa_cons pe_str (pa_cons (pv 24) pa_nil))))))
    pN)), fun D σ H hD hS => ?_⟩
  obtain ⟨p, vl, ⟨x0, x3, x10, x12, x13, x14, x15, x16, x17, x18, x19, x20, x21, x22, x23, x24, x25, x26, x27, rfl⟩, G, F, eG, c⟩ := hS
  have n1 := F.tr.n1
  have n4 := F.tr.n4
  have eGH := eG.trans vw_ex
  have sm := F.sm
  have hdue : ∀ {H1 : Hp}, Ex H H1 → Dp K H1 (.ref p.adue) (.tuple ((POS p).map eP)) := fun e => dp_mono (eGH.trans e) (.tup F.du (posAt_all F.dx))
  have tr : ∀ {H1 : Hp}, Ex H H1 → Tri K P w C T p.n p.L1 p.L2 p.lives p.loose H1 p.va p.vb p.vt := fun e => F.tr.mono (eGH.trans e)
  have hps : (pairs (keptOf p.L1 p.L2) (datS p.lives p.n)).length = (POS p).length := rfl
  refine q_asgD (K := K) (d := .tuple ((POS p).map eP)) (ed_callD (ar_v (ev_var rfl) (ar_v (ev_var rfl) (ar_v (ev_var rfl) ar_nil))) fun H1 e => ⟨p.va, p.vb, p.vt, p.n, p.L1, p.L2, p.lives, p.loose, 400, rfl, tr e, by omega, by decide, rfl⟩) fun v13 H1 e1 h13 => ?_
  have shm := shaped_tuple lay_P depth_P (by decide) (POS p)
  refine q_when (et_or (et_test (ev_neD (K := K) (ed_var rfl h13) (ed_var rfl (hdue e1)) shm shm)) fun _ => et_test (ev_neD (K := K) (e := .tuple ((POS p).map eP)) (ed_callK (K := K) (R := rPosOf K P w C T) (m := 4) (g := fun l => l) (E := E0) (as := [.inl p.va, .inl p.vb, .inl p.vt, .inr (.int ((POS p).length : Int))]) (ar_v (ev_var rfl) (ar_v (ev_var rfl) (ar_v (ev_var rfl) (ar_d (ed_int (ev_is (ev_lenT (ed_var rfl (hdue e1))) (by rw [List.length_map]))) ar_nil)))) rfl (fun vs H1 h => h) fun H2 e =>
      ⟨p.va, p.vb, p.vt, p.n, p.L1, p.L2, p.lives, p.loose, ((POS p).length : Int), rfl, tr (e1.trans e), by omega, by omega, rfl⟩) (ed_var rfl (hdue e1)) shm shm)) (fun z => ?_) fun _ H2 e2 => ?_
  · rw [show pairs (keptOf p.L1 p.L2) (datS p.lives p.n) = POS p from rfl, eqv_LP] at z
    exact absurd z (by simp)
  have e12 := e1.trans e2
  have hlo := dp_mono (eGH.trans e12) F.lo
  have hll := asc_len4 n1 n4 F.ls
  refine q_asgN (K := K) (ds := (DLs p).map eDeed) (en_is (en_catNN (en_catNN (ds := [eDeed .day]) (en_lst (eds_cons (ed_tup (eds_cons (ed_str ev_c) eds_nil) (by show 1 ≤ 100000; decide)) eds_nil) (by show 1 ≤ 100000; decide))
      (en_lcR1 (K := K) (n := p.n) (e2 := eDeed) (Tg := fun o => TgN K _ 24 (.int o)) (fun _ => true) (fun o => Deed.come o) (ea_cons (ev_var rfl) ea_nil) (by omega) flat_deed (fun o _ _ H1 e1 Q q => tg_name (.int o) (fun _ => rfl) Q q) (fun o _ _ σ2 H2 e2 hT => ev_yes) (fun o _ _ σ2 H2 H3 e2 hT e3 _ => ?_)) ?_)
      (en_lcT (K := K) (as := p.loose) (e1 := PyData.int) (e2 := eDeed) (Tg := fun o => TgN K _ 24 (.int o)) (fun _ => true) (fun o => Deed.gone o) (ed_var rfl hlo) (by omega) flat_deed (fun o _ x H1 e1 hx Q q => tg_name hx (fun _ => rfl) Q q) (fun o _ σ2 H2 e2 hT => ev_yes) (fun o _ σ2 H2 H3 e2 hT e3 _ => ?_)) ?_) ?_) fun pd xs H3 hpd e3 hxs hds => ?_
  · obtain ⟨z, rfl, hz⟩ := hT
    exact ed_tup (eds_cons (ed_str ev_c) (eds_cons (ed_var rfl (dp_mono e3 hz)) eds_nil)) (by show 2 ≤ 100000; decide)
  · have := lcRes_len (fun _ => true) (fun o => Deed.come o) eDeed ((List.range p.n).map fun (i : Nat) => (i : Int))
    rw [List.length_map, List.length_range] at this
    show 1 + _ ≤ 100000
    omega
  · obtain ⟨z, rfl, hz⟩ := hT
    exact ed_tup (eds_cons (ed_str ev_c) (eds_cons (ed_var rfl (dp_mono e3 hz)) eds_nil)) (by show 2 ≤ 100000; decide)
  · have h1 := lcRes_len (fun _ => true) (fun o => Deed.come o) eDeed ((List.range p.n).map fun (i : Nat) => (i : Int))
    have h2 := lcRes_len (fun _ => true) (fun o => Deed.gone o) eDeed p.loose
    rw [List.length_map, List.length_range] at h1
    rw [List.length_append]
    show (1 + _) + _ ≤ 100000
    omega
  · rw [lcRes_all, lcRes_all]
    unfold DLs
    rw [List.map_cons, List.map_append]
    simp only [List.map_map]
    rfl
  · have e13 := e12.trans e3
    have c3 := c.ex e13
    have eG3 := eG.trans (Lx.vw (Lx.ex e13))
    have hpr : pd ≠ p.r := fun z => by
      obtain ⟨m0, k0, ns, h1, h2, _⟩ := (c.ex e12).dk.ex
      rw [z, h2] at hpd
      cases hpd
    refine rN D _ H3 hD ⟨{ p with vdeeds := .ref pd }, ⟨_, _, _, _, _, _, _, _, _, _, _, _, _, _, _, _, _, _, _, rfl⟩, vw p.d p.r H3, ⟨F.tr.mono eG3, dp_mono eG3 F.lv, F.ls, F.tb.mono eG3, ex_t eG3 F.du, paired_mono (fun _ _ x => x.mono eG3) F.dx, ?_, F.sm⟩, Ex.refl _, c3⟩
    exact .lst (sq_of (c3.lst hxs hpr)) (dpAll_tx c3.tx (flatTs_map flat_deed _) hds)
end
end K49
namespace K49
open PySem PySem.Spec PySem.W PyProof.Rows L2 Evl LamX
section
variable {P : Program} {w : World} {K : PySem.W.Frag} {σ : L2.St} {H G : Hp} {td tl ta te : TE} {g : TG} {tu tz : TS} {D : Ends}
/-- over a dict's keys, the dict being left as it is -/
theorem for_nk {d : Addr} {o : Obj} {xs : List (NestedKey × Addr × V)} (Pv : Nat → L2.St → Hp → Prop) (h0 : Pv 0 σ H) (hk : ∀ i σ' H', i ≤ xs.length → Pv i σ' H' → H' d = some (DictN P w d o xs))
    (hs : ∀ i y σ' H', xs[i]? = some y → Pv i σ' H' → g (.ref y.2.1) σ' H' fun σ2 H2 => tu { D with nx := Pv (i + 1), ct := Pv (i + 1), bk := D.nx } σ2 H2) (hd : ∀ σ' H', Pv xs.length σ' H' → D.nx σ' H') :
    ∃ W : Nat → Nat → L2.St → Hp → Prop, (∃ m, W 0 m σ H) ∧ ∀ i m σ H, W i m σ H →
      ((ItN P w d o xs).stop i H ∧ D.nx σ H) ∨ ((ItN P w d o xs).go i H ∧ ∃ N : L2.St → Hp → Prop, (∀ σ' H', N σ' H' → ∃ m', m' < m ∧ W (i + 1) m' σ' H') ∧ ∀ x H', (ItN P w d o xs).yld i H x H' → g x σ H' fun σ2 H2 => tu { D with nx := N, ct := N, bk := D.nx } σ2 H2) := by
  refine ⟨fun i m σ H => m = xs.length - i ∧ i ≤ xs.length ∧ Pv i σ H, ⟨xs.length, by simp, Nat.zero_le _, h0⟩, ?_⟩
  rintro i m σ H ⟨rfl, hi, p⟩
  have q := hk i σ H hi p
  by_cases hlt : i < xs.length
  · refine .inr ⟨⟨q, hlt⟩, Pv (i + 1), fun σ' H' p' => ⟨xs.length - (i + 1), by omega, rfl, hlt, p'⟩, fun x H' y => ?_⟩
    obtain ⟨rfl, y0, hy, rfl⟩ := y
    exact hs i y0 σ _ hy p
  · obtain rfl : i = xs.length := by omega
    exact .inl ⟨⟨q, Nat.le_refl _⟩, hd σ H p⟩
theorem q_forNK {d : Addr} {o : Obj} {xs : List (NestedKey × Addr × V)} (ht : Ev td σ H (.ref d)) (h : H d = some (DictN P w d o xs)) (Pv : Nat → L2.St → Hp → Prop) (h0 : ∀ H1, Ex H H1 → Pv 0 σ H1) (hk : ∀ i σ' H', i ≤ xs.length → Pv i σ' H' → H' d = some (DictN P w d o xs))
    (hs : ∀ i y σ' H', xs[i]? = some y → Pv i σ' H' → g (.ref y.2.1) σ' H' fun σ2 H2 => tu { D with nx := Pv (i + 1), ct := Pv (i + 1), bk := tz D } σ2 H2) (hd : ∀ σ' H', Pv xs.length σ' H' → tz D σ' H') : tSeq (tFor (iNKeys P w td) g tu) tz D σ H :=
  ht H (Ex.refl H) _ fun H1 e => ⟨d, o, xs, rfl, e _ _ h, for_nk (D := { D with nx := tz D }) Pv (h0 H1 e) hk hs hd⟩
theorem PosAt.upd {p : Addr} {xs : List V} {o : HO} {v : V} {q : Pos} (hp : H p = some (.lst xs)) (h : PosAt K H v q) : PosAt K (upd H p o) v q := by
  obtain ⟨a, x, y, h1, h2, h3, h4, h5⟩ := h
  have t : Tx H (L2.upd H p o) := Tx.upd hp trivial
  exact ⟨a, x, y, h1, tx_t t h2, dp_tx t (flat_D _) h3, h4.upd hp, dp_tx t (flat_S _) h5⟩
theorem paired_app {α β : Type} {R : α → β → Prop} : ∀ {l l' : List α} {m m' : List β}, Paired R l m → Paired R l' m' → Paired R (l ++ l') (m ++ m')
  | _, _, _, _, .nil, h => h
  | _, _, _, _, .cons x t, h => .cons x (paired_app t h)
/-- [(d, s) for s in a list of sets] -/
theorem np_lc {j : Nat} {vs : List Nat} {ks : List (List Int)} {d : Dt} {v0 : V} {Q : VK} (hl : EvD K tl σ H (.list (ks.map eS))) (hz : ks.length ≤ 40000) (hw : ∀ x, wipe ((wipe σ vs).set j (some x)) vs = wipe σ vs)
    (ha : ∀ x H1, Ev ta ((wipe σ vs).set j (some x)) H1 v0) (hj : ∀ x H1, Ev te ((wipe σ vs).set j (some x)) H1 x) (hd : Dp K H v0 (eD d)) (hp : PlT H v0)
    (q : ∀ p xs H2, H p = none → Ex H H2 → H2 p = some (.lst xs) → Paired (PosAt K H2) xs (ks.map fun s => (d, s)) → Q (.ref p) H2) : tLc (iList K tl) (gName j) tYes (tTup (tCons ta (tCons te tNil))) vs σ H Q :=
  hl H (Ex.refl H) _ fun v H1 ev hv => by
    obtain ⟨a, xs, rfl, hs, hx⟩ := dp_lst hv
    refine ⟨a, rfl, ⟨xs, hs⟩, fun Dl hD => lc_list (xs := xs) (fun i H' => Ex H1 H' ∧ ∃ ys, H' Dl = some (.lst ys) ∧ Paired (PosAt K H') ys ((ks.take i).map fun s => (d, s))) ⟨Ex.new hD, [], upd_same, .nil⟩
      (fun i H' _ w => ex_l w.1 hs) (fun i x H' hi w => ?_) fun H' w => ?_⟩
    · obtain ⟨e, he, hxd⟩ := dpAll_at hx hi
      rw [List.getElem?_map] at he
      obtain ⟨b, hb, rfl⟩ := Option.map_eq_some_iff.mp he
      obtain ⟨w1, ys, w2, w3⟩ := w
      refine ⟨hw x, ?_⟩
      unfold tYes
      dsimp only
      rw [if_pos rfl, take_snoc hb]
      refine ha x H' H' (Ex.refl _) _ fun H3 e3 => hj x H3 H3 (Ex.refl _) _ fun H4 e4 => ⟨by show 2 ≤ sizeLine; decide, fun l hln => ?_⟩
      have e5 : Ex H4 (upd H4 l (.tup [v0, x])) := Ex.new hln
      have e15 := (w1.trans (e3.trans e4)).trans e5
      have w2' := e5 _ _ (e4 _ _ (e3 _ _ w2))
      have hpa : PosAt K (upd H4 l (.tup [v0, x])) (.ref l) (d, b) := ⟨l, v0, x, rfl, st_of upd_same, dp_mono (ev.trans e15) hd, hp.mono (ev.trans e15), dp_mono e15 hxd⟩
      refine ⟨ys, w2', ?_, Ex.mut e15 hD, _, upd_same, ?_⟩
      · refine sz_lt ?_
        have h1 := List.length_take_le' i ks
        rw [Paired.length w3, List.length_map]
        omega
      · rw [List.map_append]
        exact Paired.snoc (paired_mono (fun _ _ z => (z.mono ((e3.trans e4).trans e5)).upd w2') w3) (hpa.upd w2')
    · have hlen : xs.length = ks.length := by rw [dpAll_len hx, List.length_map]
      rw [hlen, List.take_length] at w
      obtain ⟨w1, ys, w2, w3⟩ := w
      exact q Dl ys H' (fresh_back ev hD) (ev.trans w1) w2 w3
theorem vw_upd {d r a : Addr} {o : HO} (e : Ex G (vw d r H)) (h : G a = none) : Ex G (vw d r (upd H a o)) := fun x u hx => by
  obtain ⟨h1, h2, h3, h4⟩ := vw_some (e x u hx)
  exact vw_of h1 h2 (by rw [upd_ne (ne_of_none hx h)]; exact h3) h4
theorem Co.upd {Tt : List (Addr × Str)} {d r a : Addr} {b : Nat} {u o : HO} (c : Co Tt d r b H) (ha : H a = some u) (n1 : ∀ l, u ≠ .dK l) (nr : a ≠ r) (n2 : ∀ ps, u ≠ .tbl ps) (n3 : ∀ q p, u ≠ CodeO q p) : Co Tt d r b (upd H a o) := by
  obtain ⟨m, k, ns, h1, h2, h3⟩ := c.dk.ex
  have nd : a ≠ d := fun z => by
    rw [z, h1] at ha
    exact n1 _ (Option.some.inj ha).symm
  refine ⟨⟨m, k, ns, by rw [upd_ne nd.symm]; exact h1, by rw [upd_ne nr.symm]; exact h2, h3⟩, c.ne, fun p hp => ?_⟩
  obtain ⟨ps, t1, t2, t3⟩ := c.tb p hp
  refine ⟨ps, ?_, t2, fun pos cv hc => ?_⟩
  · rw [upd_ne (fun z => by rw [z, ha] at t1; exact n2 _ (Option.some.inj t1))]
    exact t1
  · obtain ⟨c', e1, e2⟩ := t3 pos cv hc
    refine ⟨c', e1, ?_⟩
    rw [upd_ne (fun z => by rw [z, ha] at e2; exact n3 _ _ (Option.some.inj e2))]
    exact e2
theorem Co.free {Tt : List (Addr × Str)} {d r a : Addr} {b : Nat} (c : Co Tt d r b H) (h : H a = none) : a ≠ d ∧ a ≠ r := by
  obtain ⟨m, k, ns, h1, h2, _⟩ := c.dk.ex
  exact ⟨(fun z => by rw [z, h1] at h; cases h), (fun z => by rw [z, h2] at h; cases h)⟩
theorem PosAt.vw {Tt : List (Addr × Str)} {d r : Addr} {b : Nat} {v : V} {q : Pos} (c : Co Tt d r b H) (h : PosAt K H v q) : PosAt K (vw d r H) v q := by
  obtain ⟨a, x, y, h1, h2, h3, h4, h5⟩ := h
  exact ⟨a, x, y, h1, tx_t c.tx h2, dp_tx c.tx (flat_D _) h3, c.plT h4, dp_tx c.tx (flat_S _) h5⟩
end
/-- the law's table: the keys are tuples without a dict -/
def TabX (K : PySem.W.Frag) (P : Program) (w : World) (L1 L2 : List (List Int)) (G : Hp) (kd : Addr) (as : List Dt) : Prop := ∃ (o : Obj) (m : List (Dt × Addr × V)), m.map (·.1) = as ∧ G kd = some (DictN P w kd o (m.map fun x => (nkD x.1, x.2))) ∧
  ∀ x ∈ m, Dp K G (.ref x.2.1) (eD x.1) ∧ Dp K G x.2.2 (kl L1 L2 (offs x.1)) ∧ PlT G (.ref x.2.1)
theorem TabX.d {K : PySem.W.Frag} {P : Program} {w : World} {L1 L2 : List (List Int)} {G : Hp} {kd : Addr} {as : List Dt} (h : TabX K P w L1 L2 G kd as) : TabD K P w nkD eD (fun d => kl L1 L2 (offs d)) (fun _ => True) G kd as := by
  obtain ⟨o, m, h1, h2, h3⟩ := h
  exact ⟨o, m, h1, h2, fun x hx => ⟨(h3 x hx).1, (h3 x hx).2.1, trivial⟩⟩
theorem TabX.mono {K : PySem.W.Frag} {P : Program} {w : World} {L1 L2 : List (List Int)} {G G' : Hp} {kd : Addr} {as : List Dt} (e : Ex G G') (h : TabX K P w L1 L2 G kd as) : TabX K P w L1 L2 G' kd as := by
  obtain ⟨o, m, h1, h2, h3⟩ := h
  exact ⟨o, m, h1, e _ _ h2, fun x hx => ⟨dp_mono e (h3 x hx).1, dp_mono e (h3 x hx).2.1, (h3 x hx).2.2.mono e⟩⟩
end K49
namespace K49
open PySem PySem.Spec PySem.W PyProof.Rows L2 Evl LamX
section
variable {P : Program} {w : World} {K : PySem.W.Frag} {mg : Str → Option Value} {base : Heap} {C T : Addr} {Tt : List (Addr × Str)}
abbrev frU (p : LP) (vl : V) (x0 x3 x10 x11 x12 x13 x14 x15 x16 x17 x18 x19 x20 x21 x22 x23 x24 x25 x26 x27 : Option V) : L2.St :=
  [x0, some (.ref p.d), some (.int (p.n : Int)), x3, some p.vlv, some vl, some p.va, some p.vb, some p.vt, some (.ref p.kd), x10, x11, x12, x13, x14, x15, x16, x17, x18, x19, x20, x21, x22, x23, x24, x25, x26, x27]
structure LU (K : PySem.W.Frag) (P : Program) (w : World) (C T : Addr) (p : LP) (vl : V) (G : Hp) : Prop where
  tr : Tri K P w C T p.n p.L1 p.L2 p.lives p.loose G p.va p.vb p.vt
  lv : Dp K G p.vlv (eS p.lives)
  ls : Asc p.n p.loose
  lo : Dp K G vl (eS p.loose)
  tb : TabX K P w p.L1 p.L2 G p.kd (datsL p.lives p.n)
  sm : (POS p).length ≤ 400
def SU (K : PySem.W.Frag) (P : Program) (w : World) (C T : Addr) (Tt : List (Addr × Str)) (p : LP) (b : Nat) (σ : L2.St) (H : Hp) : Prop :=
  ∃ vl, (∃ x0 x3 x10 x11 x12 x13 x14 x15 x16 x17 x18 x19 x20 x21 x22 x23 x24 x25 x26 x27, σ = frU p vl x0 x3 x10 x11 x12 x13 x14 x15 x16 x17 x18 x19 x20 x21 x22 x23 x24 x25 x26 x27) ∧ ∃ G, LU K P w C T p vl G ∧ Ex G (vw p.d p.r H) ∧ Co Tt p.d p.r b H
theorem law_due {f : Addr} {cdv : Value} {A : Around} {outer : List Env} {s : Shared} {H0 : Hp} {E : XK} {k b : Nat} (L : LD P w K mg base C T Tt k) (hr : Room (k + 1) (LX P w K mg base f cdv A outer s H0 E).A)
    (N : Suf (LX P w K mg base f cdv A outer s H0 E) 11 fun σ H => ∃ p, SV K P w C T Tt p b σ H) : Suf (LX P w K mg base f cdv A outer s H0 E) 8 fun σ H => ∃ p, SU K P w C T Tt p b σ H := by
  obtain ⟨t, pN, rN⟩ := N
  have T' := L.T'
  have hu := hu_64 hr
  refine ⟨_, pss_cons (ps_set (i := 11) scLaw.nd rfl (.inr rfl) (pe_lst pa_nil))
    (pss_cons (ps_for PassesOwn.never rfl (pi_nkeys (pv 9)) (pg_name (i := 10) scLaw.nd rfl (.inr rfl))
      (pss_one (ps_expr (pe_bm PySem.F.plainAttrs_list PySem.F.slot_list_extend PySem.F.type_list_extend mt_extend (pv 11) (pa_cons (pe_lc (own := [("_law_kept", 12)]) (g := gName 12) (tt := tYes) (te := tTup (tCons (tVar 10) (tCons (tVar 12) tNil))) rfl scLaw.nd (pi_list (pe_nget hu (pv 9) (pv 10) (fun _ _ => rfl)))
        (blkOk_by (N := lawN) (sc := defScope sLaw) (by decide +kernel)) (fun _ _ _ _ _ => pg_name (i := 12) scLaw.nd rfl (.inl rfl)) (fun _ _ _ _ _ => pts_nil) (fun _ _ _ _ _ => pe_tup (pa_cons (pv 10) (pa_cons (pv 12) pa_nil)))) pa_nil)))))
    (pss_cons (ps_set (i := 11) scLaw.nd rfl (.inr rfl) (pe_callTy call_tuple_of (by rfl) T'.tuple boot_tup' (pa_cons (pe_callB (cr_sortE (en := eP) (ex := fun H v q => PosAt K H v q) hu) (by rfl) T'.sorted boot_sorted (pa_cons (pv 11) pa_nil)) pa_nil)))
    pN)), fun D σ H hD hS => ?_⟩
  obtain ⟨p, vl, ⟨x0, x3, x10, x11, x12, x13, x14, x15, x16, x17, x18, x19, x20, x21, x22, x23, x24, x25, x26, x27, rfl⟩, G, F, eG, c⟩ := hS
  have n1 := F.tr.n1
  have n4 := F.tr.n4
  refine q_asgN (K := K) (ds := []) (en_lst eds_nil (Nat.zero_le _)) fun pd x0' H1 hpd e1 hx0 hd0 => ?_
  cases hd0
  obtain ⟨npd, npr⟩ := c.free hpd
  have eG1 := eG.trans (Lx.vw (Lx.ex e1))
  have c1 := c.ex e1
  have gpd : G pd = none := by
    cases e : G pd with
    | none => rfl
    | some o =>
      have := (vw_some (eG pd o e)).2.2.1
      rw [hpd] at this
      cases this
  obtain ⟨o, m, hm1, hm2, hm3⟩ := F.tb
  have hml : m.length = (datsL p.lives p.n).length := by rw [← hm1, List.length_map]
  have hl3 : ∀ x ∈ p.lives, x ≤ 3 := fun x hx => (F.tr.li x hx).2
  have hsml := datsL_small hl3 n4
  have hkd : ∀ {H2 : Hp}, Ex G (vw p.d p.r H2) → H2 p.kd = some (DictN P w p.kd o (m.map fun x => (nkD x.1, x.2))) := fun e => vw_ex _ _ (e _ _ hm2)
  refine q_forNK (P := P) (w := w) (d := p.kd) (o := o) (xs := m.map fun (x : Dt × Addr × V) => (nkD x.1, x.2)) (ev_var rfl) (hkd eG1) (fun i σ' H' => Ex G (vw p.d p.r H') ∧ Co Tt p.d p.r b H' ∧ (∃ y10, σ' = frU p vl x0 x3 y10 (some (.ref pd)) x12 x13 x14 x15 x16 x17 x18 x19 x20 x21 x22 x23 x24 x25 x26 x27) ∧
      ∃ xs, H' pd = some (.lst xs) ∧ Paired (PosAt K H') xs (pairs (keptOf p.L1 p.L2) ((datsL p.lives p.n).take i)) ∧ xs.length ≤ 16 * i)
    (fun H2 e2 => ⟨eG1.trans (Lx.vw (Lx.ex e2)), c1.ex e2, ⟨_, rfl⟩, [], e2 _ _ hx0, .nil, Nat.le_refl _⟩) (fun i σ' H' _ pw => hkd pw.1) (fun i y σ' H' hi pw => ?_) fun σ' H' pw => ?_
  · obtain ⟨eG2, c2, ⟨y10, rfl⟩, xs, hxs, hpx, hxl⟩ := pw
    rw [List.getElem?_map] at hi
    obtain ⟨z, hz, rfl⟩ := Option.map_eq_some_iff.mp hi
    have hzm := List.mem_of_getElem? hz
    obtain ⟨hz1, hz2, hz3⟩ := hm3 z hzm
    have hdi : (datsL p.lives p.n)[i]? = some z.1 := by rw [← hm1, List.getElem?_map, hz]; rfl
    have hzw := (mem_datsL p.lives p.n z.1).mp (List.mem_of_getElem? hdi)
    have hi256 : i < m.length := (List.getElem?_eq_some_iff.mp hz).1
    have eGf := eG2.trans vw_ex
    have hkl := kept_len leS p.L1 p.L2 n1 n4 hzw.asc
    refine ⟨.ref pd, rfl, .inl ⟨rfl, _, sq_of hxs⟩, ?_⟩
    refine np_lc (K := K) (ks := keptOf p.L1 p.L2 z.1) (d := z.1) (v0 := .ref z.2.1) (ed_tget (g := fun d => kl p.L1 p.L2 (offs d)) keyD (ev_var rfl) (ed_var rfl (dp_mono eGf hz1)) (tupD _) ((TabX.d ⟨o, m, hm1, hm2, hm3⟩).mono eGf) ((mem_datsL p.lives p.n z.1).mpr hzw)) (by show (kept leS p.L1 p.L2 (offs z.1)).length ≤ 40000; omega)
      (fun _ => rfl) (fun _ _ => ev_var rfl) (fun _ _ => ev_var rfl) (dp_mono eGf hz1) (hz3.mono eGf) fun pn ys H3 hpn e3 hys hpy => ?_
    have hxs3 := e3 _ _ hxs
    have hly := Paired.length hpy
    rw [List.length_map] at hly
    have hk16 : (keptOf p.L1 p.L2 z.1).length ≤ 16 := hkl
    refine ⟨pd, pn, xs, ys, rfl, rfl, hxs3, hys, sz_of (by omega), ?_⟩
    have c3 := c2.ex e3
    refine ⟨vw_upd (eG2.trans (Lx.vw (Lx.ex e3))) gpd, c3.upd hxs3 (fun l z => by cases z) npr (fun ps z => by cases z) (fun q p z => by cases z), ⟨_, rfl⟩, _, upd_same, ?_, by rw [List.length_append]; omega⟩
    rw [take_snoc hdi, pairs_app]
    refine paired_app (paired_mono (fun _ _ h => (h.mono e3).upd hxs3) hpx) ?_
    have : pairs (keptOf p.L1 p.L2) [z.1] = (keptOf p.L1 p.L2 z.1).map fun s => (z.1, s) := by
      unfold pairs
      rw [List.flatMap_cons, List.flatMap_nil, List.append_nil]
    rw [this]
    exact paired_mono (fun _ _ h => h.upd hxs3) hpy
  · obtain ⟨eG2, c2, ⟨y10, rfl⟩, xs, hxs, hpx, hxl⟩ := pw
    rw [List.length_map, hml, List.take_length] at hpx
    rw [List.length_map, hml] at hxl
    refine ⟨.ref pd, rfl, pd, xs, _, rfl, sq_of hxs, hpx, posAt_all hpx, ?_, .inl fun y hy => ?_, fun y _ => Nat.le_trans (depth_P y) (by decide), by rw [← Paired.length hpx]; omega, fun pn zs hpn hz hzp => ?_⟩
    · intro d1 h1 d2 h2
      obtain ⟨y, _, rfl⟩ := List.mem_map.mp h1
      obtain ⟨z, _, rfl⟩ := List.mem_map.mp h2
      exact alike_P y z
    · obtain ⟨z, _, rfl⟩ := List.mem_map.mp hy
      exact ⟨_, rfl⟩
    · refine ⟨pn, zs, rfl, .inl ⟨sq_of upd_same, fun l hl => ?_⟩⟩
      have e3 : Ex H' (upd (upd H' pn (.lst zs)) l (.tup zs)) := (Ex.new hpn).trans (Ex.new hl)
      have c3 := c2.ex e3
      have hdue : (pairs (keptOf p.L1 p.L2) (datsL p.lives p.n)).mergeSort (dataLe false eP) = POS p := due_eq lin_leD by_dated (datsL_nodup p.lives p.n) (dats_perm p.lives p.n) fun d _ => lin_leS.sorted _
      rw [hdue] at hzp
      have eG3 := eG2.trans (Lx.vw (Lx.ex e3))
      refine rN D _ _ hD ⟨{ p with adue := l, xdue := zs }, vl, ⟨_, _, _, _, _, _, _, _, _, _, _, _, _, _, _, _, _, _, _, rfl⟩, vw p.d p.r _, ⟨F.tr.mono eG3, dp_mono eG3 F.lv, F.ls, dp_mono eG3 F.lo, (TabX.d ⟨o, m, hm1, hm2, hm3⟩).mono eG3, ?_, ?_, F.sm⟩, Ex.refl _, c3⟩
      · exact tx_t c3.tx (st_of upd_same)
      · exact paired_mono (fun _ _ h => (h.mono e3).vw c3) hzp
end
end K49
namespace K49
open PySem PySem.Spec PySem.W PyProof.Rows L2 Evl LamX
theorem vw_updE {d r a : Addr} {H : Hp} {o : HO} (h1 : a ≠ d) (h2 : a ≠ r) (n : ∀ ps, o ≠ .tbl ps) : vw d r (upd H a o) = upd (vw d r H) a o := by
  funext x
  by_cases e : x = a
  · rw [e, upd_same]
    exact vw_of h1 h2 upd_same n
  · rw [upd_ne e]
    unfold vw
    rw [upd_ne e]
theorem PlT.updE {H : Hp} {p : Addr} {u o : HO} {v : V} (hp : H p = some u) (n : ∀ q xs, u ≠ .frz q (.tup xs)) (h : PlT H v) : PlT (L2.upd H p o) v := by
  obtain ⟨a, q, ys, h1, h2, h3⟩ := h
  refine ⟨a, q, ys, h1, ?_, h3⟩
  rw [upd_ne (fun z => by rw [z, hp] at h2; exact n _ _ (Option.some.inj h2))]
  exact h2
/-- a table is no code object -/
theorem dn_ne_code {P : Program} {w : World} {a c : Addr} {o : Obj} {xs : List (NestedKey × Addr × V)} {q : Str} : DictN P w a o xs ≠ CodeO c q := fun z => by
  have e : (fun h => DN P w h a o xs) = fun h => ∃ (oc : Obj) (vs : Array Value) (t : Tok), h.get? c = some oc ∧ oc.data = .fields vs ∧ vs[1]? = some (.str q t) := HO.ext.inj z
  have get : ∀ b u, ({ objs := Array.replicate (c + 1) { cls := .none, data := .fields #[.none, .str q 0] } } : Heap).get? b = some u → u = { cls := .none, data := .fields #[.none, .str q 0] } := fun b u hb => by
    unfold Heap.get? at hb
    rw [Array.getElem?_replicate] at hb
    by_cases hbc : b < c + 1
    · rw [if_pos hbc] at hb
      exact (Option.some.inj hb).symm
    · rw [if_neg hbc] at hb
      cases hb
  have hc : ({ objs := Array.replicate (c + 1) { cls := .none, data := .fields #[.none, .str q 0] } } : Heap).get? c = some { cls := .none, data := .fields #[.none, .str q 0] } := by
    unfold Heap.get?
    rw [Array.getElem?_replicate, if_pos (Nat.lt_succ_self c)]
  have h1 := (congrFun e { objs := Array.replicate (c + 1) { cls := .none, data := .fields #[.none, .str q 0] } }).mpr ⟨_, _, 0, hc, rfl, rfl⟩
  have h2 := get a o h1.ob
  have h3 := h1.ex.1
  rw [h2] at h3
  cases h3
theorem s_nputCall {K : PySem.W.Frag} {P : Program} {w : World} {σ : L2.St} {H : Hp} {td ty : TE} {ta : TA} {bs : List AS} {sp : Sp} {E : XK} {D : Ends} (ha : EvAr K ta σ H bs) (k : ∀ us H4, Ex H H4 → ArOk K H4 us bs → sp (us ++ []) H4 (fun v H5 => sNPut K P w td ty (tC v) D σ H5) E) : sNPut K P w td ty (tCall sp [] E ta) D σ H :=
  ha H (Ex.refl H) _ fun us H4 e h => k us H4 e h
section
variable {P : Program} {w : World} {K : PySem.W.Frag} {mg : Str → Option Value} {base : Heap} {C T : Addr} {Tt : List (Addr × Str)}
abbrev frT (p : LP) (vs vl : V) (x0 x9 x10 x11 x12 x13 x14 x15 x16 x17 x18 x19 x20 x21 x22 x23 x24 x25 x26 x27 : Option V) : L2.St :=
  [x0, some (.ref p.d), some (.int (p.n : Int)), some vs, some p.vlv, some vl, some p.va, some p.vb, some p.vt, x9, x10, x11, x12, x13, x14, x15, x16, x17, x18, x19, x20, x21, x22, x23, x24, x25, x26, x27]
structure LT (K : PySem.W.Frag) (P : Program) (w : World) (C T : Addr) (p : LP) (vs vl : V) (G : Hp) : Prop where
  tr : Tri K P w C T p.n p.L1 p.L2 p.lives p.loose G p.va p.vb p.vt
  lv : Dp K G p.vlv (eS p.lives)
  ls : Asc p.n p.loose
  lo : Dp K G vl (eS p.loose)
  sd : Dp K G vs (.list [eL p.L1, eL p.L2])
  b1 : p.L1.length ≤ 50
  b2 : ∀ r ∈ p.L1, r.length ≤ 100
  b3 : p.L2.length ≤ 50
  b4 : ∀ r ∈ p.L2, r.length ≤ 100
  sm : (POS p).length ≤ 400
def ST (K : PySem.W.Frag) (P : Program) (w : World) (C T : Addr) (Tt : List (Addr × Str)) (p : LP) (b : Nat) (σ : L2.St) (H : Hp) : Prop :=
  ∃ vs vl, (∃ x0 x9 x10 x11 x12 x13 x14 x15 x16 x17 x18 x19 x20 x21 x22 x23 x24 x25 x26 x27, σ = frT p vs vl x0 x9 x10 x11 x12 x13 x14 x15 x16 x17 x18 x19 x20 x21 x22 x23 x24 x25 x26 x27) ∧ ∃ G, LT K P w C T p vs vl G ∧ Ex G (vw p.d p.r H) ∧ Co Tt p.d p.r b H
theorem law_table {f : Addr} {cdv : Value} {A : Around} {outer : List Env} {s : Shared} {H0 : Hp} {E : XK} {k b : Nat} (L : LD P w K mg base C T Tt k) (hr : Room (k + 1) (LX P w K mg base f cdv A outer s H0 E).A)
    (N : Suf (LX P w K mg base f cdv A outer s H0 E) 8 fun σ H => ∃ p, SU K P w C T Tt p b σ H) : Suf (LX P w K mg base f cdv A outer s H0 E) 6 fun σ H => ∃ p, ST K P w C T Tt p b σ H := by
  obtain ⟨t, pN, rN⟩ := N
  have T' := L.T'
  have hu := hu_64 hr
  refine ⟨_, pss_cons (ps_set (i := 9) scLaw.nd rfl (.inl rfl) pe_dnewN)
    (pss_cons (ps_for PassesOwn.never rfl (pi_list (pe_fn L.alld hr (pa_cons (pv 4) pa_nil))) (pg_name (i := 10) scLaw.nd rfl (.inr rfl))
      (pss_one (ps_nput hu (pv 9) (pv 10) (pe_fn L.kept hr (pa_cons (pv 3) (pa_cons (pv 2) (pa_cons (pe_lc (own := [("_law_offer", 24), ("_law_days", 25)]) (g := gTup K 2 (gCons (gName 24) (gCons (gName 25) gNil))) (tt := tYes) (te := tVar 24) rfl scLaw.nd (pi_tup (pv 10))
        (blkOk_by (N := lawN) (sc := defScope sLaw) (by decide +kernel)) (fun _ _ _ _ _ => pg_tup rfl (pgs_cons (pg_name (i := 24) scLaw.nd rfl (.inl rfl)) (pgs_cons (pg_name (i := 25) scLaw.nd rfl (.inl rfl)) pgs_nil))) (fun _ _ _ _ _ => pts_nil) (fun _ _ _ _ _ => pv 24)) pa_nil)))) rfl)))
    pN), fun D σ H hD hS => ?_⟩
  obtain ⟨p, vs, vl, ⟨x0, x9, x10, x11, x12, x13, x14, x15, x16, x17, x18, x19, x20, x21, x22, x23, x24, x25, x26, x27, rfl⟩, G, F, eG, c⟩ := hS
  have n1 := F.tr.n1
  have n4 := F.tr.n4
  have hl3 : ∀ x ∈ p.lives, x ≤ 3 := fun x hx => (F.tr.li x hx).2
  have hll : p.lives.length ≤ 4 := by rw [F.tr.ln]; exact n4
  intro kd o hkd
  obtain ⟨nkd_, nkr⟩ := c.free hkd
  have e1 : Ex H (upd H kd (DictN P w kd o [])) := Ex.new hkd
  have c1 := c.ex e1
  have eG1 := eG.trans (Lx.vw (Lx.ex e1))
  have gkd : G kd = none := by
    cases e : G kd with
    | none => rfl
    | some u =>
      have := (vw_some (eG kd u e)).2.2.1
      rw [hkd] at this
      cases this
  refine q_forCall (K := K) (bs := [.inl p.vlv]) (ar_v (ev_var rfl) ar_nil) fun us H4 e4 hu4 => ?_
  obtain ⟨us, rfl, _, hu4⟩ := hu4.hv
  obtain rfl := hu4.nilv
  have eG4 := eG1.trans (Lx.vw (Lx.ex e4))
  refine ⟨p.vlv, p.lives, rfl, dp_mono (eG4.trans vw_ex) F.lv, hll, F.tr.li, fun pl xs H5 hpl e5 hxs hds hpls => ?_⟩
  have c5 := c1.ex (e4.trans e5)
  have eG5' := eG4.trans (Lx.vw (Lx.ex e5))
  have hkd5 : H5 kd = some (DictN P w kd o []) := e5 _ _ (e4 _ _ upd_same)
  have vkd5 : vw p.d p.r H5 kd = some (DictN P w kd o []) := c5.keep hkd5 (fun l z => by cases z) (fun l z => by cases z) (fun ps z => by cases z)
  have hpk : pl ≠ kd := fun z => by
    rw [z, e4 _ _ upd_same] at hpl
    cases hpl
  obtain ⟨npd, npr⟩ := (c1.ex e4).free hpl
  -- what stays while the table is filled
  have eG5 : Ex G (hid kd kd (vw p.d p.r H5)) := fun a u h => by
    have ha : a ≠ kd := ne_of_none h gkd
    rw [hid_ne ha ha]
    exact eG5' a u h
  have t5 : Tx H5 (hid kd kd (vw p.d p.r H5)) := c5.tx.trans (tx_hid vkd5 vkd5 trivial trivial)
  have hpl5 : hid kd kd (vw p.d p.r H5) pl = some (.lst xs) := by
    rw [hid_ne hpk hpk]
    exact vw_of npd npr hxs fun ps z => by cases z
  have hds5 := dpAll_tx t5 (flatTs_map flat_D _) hds
  have hpls5 : ∀ x ∈ xs, PlT (hid kd kd (vw p.d p.r H5)) x := fun x hx => by
    obtain ⟨a, q, ys, h1, h2, h3⟩ := c5.plT (hpls x hx)
    have ha : a ≠ kd := fun z => by rw [z, vkd5] at h2; cases h2
    exact ⟨a, q, ys, h1, by rw [hid_ne ha ha]; exact h2, h3⟩
  have hnd := datsL_nodup p.lives p.lives.length
  have hsml := datsL_small hl3 hll
  have hln := F.tr.ln
  have hxl : xs.length = (datsL p.lives p.lives.length).length := by rw [dpAll_len hds, List.length_map]
  refine ⟨pl, rfl, ⟨xs, sq_of hxs⟩, for_list (xs := xs) (fun i σ' H' => Ex (hid kd kd (vw p.d p.r H5)) (vw p.d p.r H') ∧ Co Tt p.d p.r b H' ∧ (∃ y10, σ' = frT p vs vl x0 (some (.ref kd)) y10 x11 x12 x13 x14 x15 x16 x17 x18 x19 x20 x21 x22 x23 x24 x25 x26 x27) ∧ TabX K P w p.L1 p.L2 (vw p.d p.r H') kd ((datsL p.lives p.lives.length).take i))
    ⟨hid_ex, c5, ⟨_, rfl⟩, o, [], rfl, vkd5, fun x hx => by cases hx⟩ (fun i σ' H' _ pw => sq_of (vw_ex _ _ (pw.1 _ _ hpl5))) (fun i x σ' H' hi pw => ?_) fun σ' H' pw => ?_⟩
  · obtain ⟨eG6, c6, ⟨y10, rfl⟩, tb⟩ := pw
    obtain ⟨dd, hdd, hxd⟩ := dpAll_at hds5 hi
    rw [List.getElem?_map] at hdd
    obtain ⟨d, hd, rfl⟩ := Option.map_eq_some_iff.mp hdd
    have hdw : Wi p.lives p.n d := by
      have := (mem_datsL p.lives p.lives.length d).mp (List.mem_of_getElem? hd)
      rw [hln] at this
      exact this
    have hdl := wi_len hdw
    have hpx := hpls5 x (List.mem_of_getElem? hi)
    have eGf := eG6.trans vw_ex
    refine s_nputCall (K := K) (bs := [.inl vs, .inl (.int (p.n : Int)), .inr (eR (offs d))]) (ar_v (ev_var rfl) (ar_v (ev_var rfl) (ar_d (d := eR (offs d)) (EvN.toD (en_is (es := (offs d).map .int) (en_lcT (K := K) (as := d) (e1 := eI) (e2 := PyData.int) (Tg := fun a => TgP K _ 24 25 (.int a.1) (.int a.2)) (fun _ => true) (fun a => a.1) (ed_var rfl (dp_mono eGf hxd)) (by omega) flat_int
      (fun a ha x H1 e1 hx Q q => tg_pair hx (fun _ _ => rfl) Q q) (fun a ha σ2 H2 e2 hT => ev_yes) (fun a ha σ2 H2 H3 e2 hT e3 _ => ?_)) (lcRes_all _ _))) ar_nil))) fun us H6 e6 hu6 => ?_
    · obtain ⟨y, z, rfl, hy, hz⟩ := hT
      exact ed_var rfl (dp_mono e3 hy)
    obtain ⟨us, rfl, _, hu6⟩ := hu6.hv
    obtain ⟨us, rfl, _, hu6⟩ := hu6.hv
    obtain ⟨v3, us, rfl, h3, hu6⟩ := hu6.hd
    obtain rfl := hu6.nilv
    have eGf6 := eGf.trans e6
    have c66 := c6.ex e6
    refine ⟨vs, v3, p.n, p.L1, p.L2, offs d, rfl, n1, n4, c66.tb, dp_mono (eG5.trans eGf6) F.sd, F.b1, F.b2, F.b3, F.b4, h3, hdw.asc, fun pk ks H7 eN7 T7 fr7 hpk7 hks7 => ?_⟩
    have c7 := c66.exN eN7 T7
    have lx : Lx p.d p.r H' H7 := (Lx.ex e6).trans (Lx.exN eN7)
    have eG7 := eG6.trans (Lx.vw lx)
    have hpkr : pk ≠ p.r := fun z => by
      obtain ⟨m0, k0, ns, h1, h2, _⟩ := c66.dk.ex
      obtain ⟨ps, hps⟩ := fr7 _ (z ▸ h2)
      cases hps
    have hkv : Dp K (vw p.d p.r H7) (.ref pk) (kl p.L1 p.L2 (offs d)) := .lst (sq_of (c7.lst hpk7 hpkr)) (dpAll_tx c7.tx (flatTs_map flat_S _) hks7)
    obtain ⟨o1, m, g1, g2, g3⟩ := tb.mono (Lx.vw lx)
    have g2f := vw_ex _ _ g2
    obtain ⟨ax, q, yx, rfl, hfx, hox⟩ := hpx
    have hxv := dp_mono eG7 hxd
    have hxf := dp_mono vw_ex hxv
    have hnot : d ∉ (datsL p.lives p.lives.length).take i := fun z => by
      obtain ⟨j, hj⟩ := List.mem_iff_getElem?.mp z
      rw [List.getElem?_take] at hj
      split at hj
      · rename_i hji
        have := (List.getElem?_inj (List.getElem?_eq_some_iff.mp hj).1 hnd).mp (hj.trans hd.symm)
        omega
      · cases hj
    have hml : m.length ≤ 256 := by
      have := congrArg List.length g1
      rw [List.length_map, List.length_take] at this
      omega
    refine ⟨.ref kd, rfl, .ref ax, rfl, kd, ax, o1, _, nkD d, rfl, rfl, g2f, fun y hy => ?_, by rw [data_D]; exact hxf, ndepth_D d, fun y hy ez => ?_, by rw [List.length_map]; omega, fun o' => ?_⟩
    · obtain ⟨z, hz, rfl⟩ := List.mem_map.mp hy
      exact ⟨by rw [data_D]; exact dp_mono vw_ex (g3 z hz).1, ndepth_D _⟩
    · obtain ⟨z, hz, rfl⟩ := List.mem_map.mp hy
      exact hnot (g1 ▸ List.mem_map.mpr ⟨z, hz, inj_D _ _ ez⟩)
    · have c8 := c7.upd (o := DictN P w kd o' ((m.map fun x => (nkD x.1, x.2)) ++ [(nkD d, ax, .ref pk)])) g2f (fun l z => by cases z) nkr (fun ps z => by cases z) (fun q p z => dn_ne_code z)
      refine ⟨vw_upd eG7 hid_d, c8, ⟨_, rfl⟩, o', m ++ [(d, ax, .ref pk)], ?_, ?_, fun y hy => ?_⟩
      · rw [List.map_append, g1, take_snoc hd]
        rfl
      · rw [vw_updE nkd_ nkr (fun ps z => by cases z), upd_same, List.map_append]
        rfl
      · rw [vw_updE nkd_ nkr (fun ps z => by cases z)]
        have sx : Sx (vw p.d p.r H7) (upd (vw p.d p.r H7) kd (DictN P w kd o' ((m.map fun x => (nkD x.1, x.2)) ++ [(nkD d, ax, .ref pk)]))) := Sx.upd g2 trivial
        rcases List.mem_append.mp hy with hy | hy
        · exact ⟨dp_sx sx (g3 y hy).1, dp_sx sx (g3 y hy).2.1, (g3 y hy).2.2.updE g2 fun q xs z => by cases z⟩
        · rw [List.mem_singleton] at hy
          subst hy
          exact ⟨dp_sx sx hxv, dp_sx sx hkv, PlT.updE g2 (fun q xs z => by cases z) (PlT.mono eG7 ⟨ax, q, yx, rfl, hfx, hox⟩)⟩
  · obtain ⟨eG6, c6, ⟨y10, rfl⟩, tb⟩ := pw
    rw [hxl, List.take_length] at tb
    have eG7 := eG5.trans eG6
    refine rN D _ H' hD ⟨{ p with kd := kd }, vl, ⟨_, _, _, _, _, _, _, _, _, _, _, _, _, _, _, _, _, _, _, _, rfl⟩, vw p.d p.r H', ⟨F.tr.mono eG7, dp_mono eG7 F.lv, F.ls, dp_mono eG7 F.lo, ?_, F.sm⟩, Ex.refl _, c6⟩
    rw [hln] at tb
    exact tb
end
end K49
namespace K49
open PySem PySem.Spec PySem.W PyProof.Rows L2 Evl LamX
/-! the lives by the number of offers; few positions -/
def lifeOf (n : Nat) : List Int := [[1, 2, 2, 3], [1, 2, 2, 3], [1, 2], [1]].getD (n - 1) []
theorem life_ok : ∀ n < 5, 1 ≤ n → 1 ≤ (lifeOf n).length ∧ (lifeOf n).length ≤ 4 ∧ (∀ x ∈ lifeOf n, 1 ≤ x ∧ x ≤ 3) ∧ (n = 3 → ∀ x ∈ lifeOf n, x ≤ 2) ∧ (n = 4 → ∀ x ∈ lifeOf n, x ≤ 1) := by decide
theorem datsP_pow {lives : List Int} {c : Nat} (h : ∀ x ∈ lives, x ≤ (c : Int)) : ∀ k, (datsP lives k).length ≤ (c + 1) ^ k
  | 0 => Nat.le_refl _
  | k + 1 => by
    have ih := datsP_pow h k
    have hk : (lives.getD k 0).toNat ≤ c := by
      rw [List.getD_eq_getElem?_getD]
      cases e : lives[k]? with
      | none => exact Nat.zero_le _
      | some x =>
        have := h x (List.mem_of_getElem? e)
        show x.toNat ≤ c
        omega
    have h1 := rowX_len k (lives.getD k 0).toNat (datsP lives k)
    have e : datsP lives (k + 1) = (datsP lives k).flatMap (rowX k (lives.getD k 0).toNat) := rfl
    rw [e, h1, Nat.pow_succ]
    exact Nat.mul_le_mul ih (Nat.succ_le_succ hk)
theorem pairs_len {f : Dt → List (List Int)} {c : Nat} : ∀ {l : List Dt}, (∀ d ∈ l, (f d).length ≤ c) → (pairs f l).length ≤ l.length * c
  | [], _ => Nat.zero_le _
  | d :: l, h => by
    have ih := pairs_len (f := f) (c := c) fun x hx => h x (List.mem_cons_of_mem _ hx)
    have h1 := h d List.mem_cons_self
    unfold pairs at ih ⊢
    rw [List.flatMap_cons, List.length_append, List.length_map, List.length_cons, Nat.add_mul]
    omega
theorem all_len3 : ∀ k < 4, (allSets k).length ≤ 8 := by decide +kernel
theorem pos_few {n : Nat} {L1 L2 : List (List Int)} {lives : List Int} (n1 : 1 ≤ n) (n4 : n ≤ 4) (hl : ∀ x ∈ lives, x ∈ lifeOf n) : (pairs (keptOf L1 L2) (datS lives n)).length ≤ 400 := by
  have hd : (datS lives n).length = (datsP lives n).length := List.length_mergeSort _
  have hw : ∀ d ∈ datS lives n, Wi lives n d := fun d h => (mem_datsP lives n d).mp (mem_msort.mp h)
  obtain ⟨_, _, l3, l4, l5⟩ := life_ok n (by omega) n1
  by_cases h3 : n = 3
  · have h1 := datsP_pow (lives := lives) (c := 2) (fun x hx => l4 h3 x (hl x hx)) n
    have h2 := pairs_len (f := keptOf L1 L2) (c := 8) (l := datS lives n) fun d hd => by
      have ha := (hw d hd).asc
      have h4 : (offs d).length ≤ n := by
        have := wi_len (hw d hd)
        unfold offs
        rw [List.length_map]
        exact this
      unfold keptOf kept
      rw [List.length_mergeSort]
      refine Nat.le_trans (List.length_filter_le _ _) ?_
      unfold subs
      rw [List.length_map]
      exact all_len3 _ (by omega)
    subst h3
    have : (2 + 1) ^ 3 = 27 := by decide
    omega
  · have h2 := pairs_len (f := keptOf L1 L2) (c := 16) (l := datS lives n) fun d hd => kept_len leS L1 L2 n1 n4 (hw d hd).asc
    by_cases h4 : n = 4
    · have h1 := datsP_pow (lives := lives) (c := 1) (fun x hx => l5 h4 x (hl x hx)) n
      subst h4
      have : (1 + 1) ^ 4 = 16 := by decide
      omega
    · have h1 := datsP_pow (lives := lives) (c := 3) (fun x hx => (l3 x (hl x hx)).2) n
      have h5 : (3 + 1) ^ n ≤ (3 + 1) ^ 2 := Nat.pow_le_pow_right (by decide) (by omega)
      have : (3 + 1) ^ 2 = 16 := by decide
      omega
section
variable {P : Program} {w : World} {K : PySem.W.Frag} {σ : L2.St} {H G : Hp} {ta te : TE} {tr : TA} {g : TG} {tt : TT} {D : Ends} {tz : TS} {C T : Addr} {Tt : List (Addr × Str)} {d r : Addr} {b : Nat}
theorem hid_vw {d r : Addr} : Sx (hid d r H) (vw d r H) := fun a xs => by
  have key : ∀ o, (∀ ps, o ≠ .tbl ps) → hid d r H a = some o → vw d r H a = some o := fun o n h => by
    unfold hid at h
    split at h
    · cases h
    · rename_i hn
      exact vw_of (fun z => hn (.inl z)) (fun z => hn (.inr z)) h n
  exact ⟨fun h => h.elim (fun h => .inl (key _ (fun ps z => by cases z) h)) fun ⟨o, h⟩ => .inr ⟨o, key _ (fun ps z => by cases z) h⟩, fun h => h.elim (fun h => .inl (key _ (fun ps z => by cases z) h)) fun ⟨o, h⟩ => .inr ⟨o, key _ (fun ps z => by cases z) h⟩⟩
theorem TabD.vw {α : Type} {nk : α → NestedKey} {en gg : α → PyData} {ok : V → Prop} {a : Addr} {as : List α} (c : Co Tt d r b H) (f1 : ∀ a, flatT (en a) = true) (f2 : ∀ a, flatT (gg a) = true) (h : TabD K P w nk en gg ok H a as) : TabD K P w nk en gg ok (K49.vw d r H) a as := by
  obtain ⟨o, m, h1, h2, h3⟩ := h.ex
  exact ⟨o, m, h1, c.keep h2 (fun l z => by cases z) (fun l z => by cases z) (fun ps z => by cases z), fun x hx => ⟨dp_tx c.tx (f1 _) (h3 x hx).1, dp_tx c.tx (f2 _) (h3 x hx).2.1, (h3 x hx).2.2⟩⟩
theorem Chz.vw {n : Nat} {L : List (List Int)} {v : V} (c : Co Tt d r b H) (h : Chz K P w C n L H v) : Chz K P w C n L (K49.vw d r H) v := by
  obtain ⟨a, dx, fs, t, pl, h1, h2, h3, h4, h5, l, h6, h7⟩ := h
  exact ⟨a, dx, fs, t, pl, h1, c.keep h2 (fun l z => by cases z) (fun l z => by cases z) (fun ps z => by cases z), h3, h4, h5.vw c flat_S (fun _ => flat_S _), l, h6, dp_tx c.tx (flat_S _) h7⟩
theorem Trd.vw {lives loose : List Int} {v : V} (c : Co Tt d r b H) (h : Trd K T lives loose H v) : Trd K T lives loose (K49.vw d r H) v := by
  obtain ⟨a, dx, fs, x, y, h1, h2, h3, h4, h5, h6⟩ := h
  exact ⟨a, dx, fs, x, y, h1, c.keep h2 (fun l z => by cases z) (fun l z => by cases z) (fun ps z => by cases z), h3, h4, dp_tx c.tx (flat_S _) h5, dp_tx c.tx (flat_S _) h6⟩
/-- tuple([.. for x in range(n) ..]) goes to a name -/
theorem q_tupLc {vs : List Nat} {n m : Nat} (h : EvA tr σ H [.int (n : Int)]) (hn : n ≤ 40000) (Pv : Addr → Nat → Hp → Prop) (h0 : ∀ H1 Dl, Ex H H1 → H1 Dl = none → Pv Dl 0 (upd H1 Dl (.lst [])))
    (hs : ∀ Dl (i : Nat) H', i < n → Pv Dl i H' → g (.int (i : Int)) (wipe σ vs) H' fun σ2 H2 => wipe σ2 vs = wipe σ vs ∧ tt σ2 H2 fun b H3 => if b = true then te σ2 H3 fun y H4 => ∃ acc, H4 Dl = some (.lst acc) ∧ acc.length < sizeLine ∧ Pv Dl (i + 1) (upd H4 Dl (.lst (acc ++ [y]))) else Pv Dl (i + 1) H3)
    (hd : ∀ Dl H', Pv Dl n H' → ∃ xs, H' Dl = some (.lst xs) ∧ ∀ l, H' l = none → tz D (σ.set m (some (.ref l))) (upd H' l (.tup xs))) : tSeq (tAsg (tCB (rTupD K) (tCons (tLc (iRng1 tr) g tt te vs) tNil)) (gName m)) tz D σ H :=
  h H (Ex.refl H) _ fun H1 ev => by
    refine ⟨(n : Int), rfl, by omega, by omega, fun Dl hD => ?_⟩
    refine lc_range (lo := 0) (n := (n : Int).toNat) (Pv Dl) (h0 H1 Dl ev hD) (fun i H' hi pw => ?_) fun H' pw => ?_
    · have hi' : i < n := by omega
      rw [show (0 : Int) + (i : Int) = (i : Int) from Int.zero_add _]
      exact hs Dl i H' hi' pw
    · rw [show (n : Int).toNat = n by omega] at pw
      obtain ⟨xs, h1, h2⟩ := hd Dl H' pw
      exact ⟨Dl, xs, rfl, .inl ⟨sq_of h1, h2⟩⟩
end
end K49
namespace K49
open PySem PySem.Spec PySem.W PyProof.Rows L2 Evl LamX
section
variable {P : Program} {w : World} {K : PySem.W.Frag} {mg : Str → Option Value} {base : Heap} {C T : Addr} {Tt : List (Addr × Str)}
/-- one of four written lists -/
theorem el_ix4 {σ : L2.St} {H : Hp} {t1 t2 t3 t4 tx : TE} {x1 x2 x3 x4 xs : List V} {n : Nat} (l1 : ∀ H, EvL t1 σ H x1) (l2 : ∀ H, EvL t2 σ H x2) (l3 : ∀ H, EvL t3 σ H x3) (l4 : ∀ H, EvL t4 σ H x4) (hx : ∀ H, Ev tx σ H (.int ((n : Int) - 1))) (n1 : 1 ≤ n) (n4 : n ≤ 4)
    (ex : [x1, x2, x3, x4].getD (n - 1) [] = xs) : EvL (tOp (rIxL K) (tLst (tCons t1 (tCons t2 (tCons t3 (tCons t4 tNil))))) tx) σ H xs := fun H1 e Q q => by
  refine l1 H1 H1 (Ex.refl _) _ fun p1 Ha h1 e1 g1 => ?_
  refine l2 Ha Ha (Ex.refl _) _ fun p2 Hb h2 e2 g2 => ?_
  refine l3 Hb Hb (Ex.refl _) _ fun p3 Hc h3 e3 g3 => ?_
  refine l4 Hc Hc (Ex.refl _) _ fun p4 Hd h4 e4 g4 => ?_
  refine ⟨by show 4 ≤ sizeLine; decide, fun p5 h5 => ?_⟩
  have e5 : Ex Hd (upd Hd p5 (.lst [.ref p1, .ref p2, .ref p3, .ref p4])) := Ex.new h5
  refine hx _ _ (Ex.refl _) _ fun H6 e6 => ?_
  have hs : SqL K H6 p5 [.ref p1, .ref p2, .ref p3, .ref p4] := sq_of (e6 _ _ upd_same)
  have z1 := e1
  have z2 := e1.trans e2
  have z3 := z2.trans e3
  have z4 := z3.trans e4
  have z6 := (z4.trans e5).trans e6
  have hn : n = 1 ∨ n = 2 ∨ n = 3 ∨ n = 4 := by omega
  rcases hn with rfl | rfl | rfl | rfl
  · cases ex
    exact ⟨p5, _, 0, .ref p1, rfl, rfl, hs, rfl, q p1 H6 h1 z6 (e6 _ _ (e5 _ _ (e4 _ _ (e3 _ _ (e2 _ _ g1)))))⟩
  · cases ex
    exact ⟨p5, _, 1, .ref p2, rfl, rfl, hs, rfl, q p2 H6 (fresh_back z1 h2) z6 (e6 _ _ (e5 _ _ (e4 _ _ (e3 _ _ g2))))⟩
  · cases ex
    exact ⟨p5, _, 2, .ref p3, rfl, rfl, hs, rfl, q p3 H6 (fresh_back z2 h3) z6 (e6 _ _ (e5 _ _ (e4 _ _ g3)))⟩
  · cases ex
    exact ⟨p5, _, 3, .ref p4, rfl, rfl, hs, rfl, q p4 H6 (fresh_back z3 h4) z6 (e6 _ _ (e5 _ _ g4))⟩
theorem life_at {n : Nat} (n1 : 1 ≤ n) (n4 : n ≤ 4) : [[V.int 1, .int 2, .int 2, .int 3], [.int 1, .int 2, .int 2, .int 3], [.int 1, .int 2], [.int 1]].getD (n - 1) [] = (lifeOf n).map V.int := by
  have hn : n = 1 ∨ n = 2 ∨ n = 3 ∨ n = 4 := by omega
  rcases hn with rfl | rfl | rfl | rfl <;> rfl
theorem q_draw1 {σ : L2.St} {H : Hp} {d r : Addr} {b i m : Nat} {E : XK} {D : Ends} {tz : TS} (hd : σ[i]? = some (some (.ref d))) (c : Co Tt d r b H) (hb : b ≤ 1000000) (k : ∀ (n : Nat) H', 1 ≤ n → n ≤ 4 → Co Tt d r (b + 1) H' → Bd d r H H' → tz D (σ.set m (some (.int (n : Int)))) H') :
    tSeq (tAsg (tOp (rI0 fun i j => .int (i + j)) (tC (.int 1)) (tCall spDraw [] E (tCons (tVar i) (tCons (tC (.int 4)) tNil)))) (gName m)) tz D σ H := by
  refine ⟨.ref d, hd, d, r, b, 4, rfl, c.dk, c.ne, hb, by decide, by decide, fun x H2 x0 x4 dk2 bd2 => ⟨1, x, rfl, rfl, ?_⟩⟩
  obtain ⟨n, n1, n4, hn⟩ : ∃ n : Nat, 1 ≤ n ∧ n ≤ 4 ∧ (1 : Int) + x = (n : Int) := ⟨(1 + x).toNat, by omega, by omega, by omega⟩
  have h := k n H2 n1 n4 (c.bd bd2 dk2) bd2
  rw [← hn] at h
  exact h
theorem Co.bt {H H' : Hp} {d r x C dx : Addr} {b : Nat} {fs : List (Str × V)} (c : Co Tt d r b H) (h : H x = some (.ins C dx fs)) (bt : Bt x H H') : Co Tt d r b H' := by
  obtain ⟨m, k, ns, h1, h2, h3⟩ := c.dk.ex
  refine ⟨⟨m, k, ns, bt _ _ (fun z => ?_) h1, bt _ _ (fun z => ?_) h2, h3⟩, c.ne, Tabs.bt c.tb h (fun ps z => by cases z) (fun φ z => by cases z) bt⟩
  · rw [z, h] at h1
    cases h1
  · rw [z, h] at h2
    cases h2
/-- the script is handed in -/
def SR (K : PySem.W.Frag) (Tt : List (Addr × Str)) (σ : L2.St) (H : Hp) : Prop := ∃ (a : Addr) (ns : List Int), σ = L2.start lawN [.ref a] ∧ SqL K H a (ns.map V.int) ∧ ns.length ≤ 63 ∧ Tabs Tt H
theorem law_start {f : Addr} {cdv : Value} {A : Around} {outer : List Env} {s : Shared} {H0 : Hp} {E : XK} {k : Nat} (L : LD P w K mg base C T Tt k) (hr : Room (k + 1) (LX P w K mg base f cdv A outer s H0 E).A)
    (N : Suf (LX P w K mg base f cdv A outer s H0 E) 6 fun σ H => ∃ p, ST K P w C T Tt p 1000 σ H) : Suf (LX P w K mg base f cdv A outer s H0 E) 0 (SR K Tt) := by
  obtain ⟨t, pN, rN⟩ := N
  have T' := L.T'
  have hu := hu_64 hr
  obtain ⟨fI, fdI, MT, bT, GT, gT⟩ := L.trade
  refine ⟨_, pss_cons (ps_set (i := 1) scLaw.nd rfl (.inr rfl) (pe_fn L.deck hr (pa_cons (pv 0) pa_nil)))
    (pss_cons (ps_set (i := 2) scLaw.nd rfl (.inr rfl) (pe_op op_add pe_int (pe_fn L.draw hr (pa_cons (pv 1) (pa_cons pe_int pa_nil)))))
    (pss_cons (ps_set (i := 3) scLaw.nd rfl (.inl rfl) (pe_lst (pa_cons (pe_fn L.lists hr (pa_cons (pv 1) (pa_cons (pv 2) pa_nil))) (pa_cons (pe_fn L.lists hr (pa_cons (pv 1) (pa_cons (pv 2) pa_nil))) pa_nil))))
    (pss_cons (ps_set (i := 4) scLaw.nd rfl (.inl rfl) (pe_callTy call_tuple_of (by rfl) T'.tuple boot_tup' (pa_cons (pe_lc (own := [("_law_offer", 24)]) (g := gName 24) (tt := tYes)
        (te := tCall (spPick K) [] E0 (tCons (tVar 1) (tCons (tOp (rIxL K) (tLst (tCons (tLst (tCons (tC (.int 1)) (tCons (tC (.int 2)) (tCons (tC (.int 2)) (tCons (tC (.int 3)) tNil))))) (tCons (tLst (tCons (tC (.int 1)) (tCons (tC (.int 2)) (tCons (tC (.int 2)) (tCons (tC (.int 3)) tNil))))) (tCons (tLst (tCons (tC (.int 1)) (tCons (tC (.int 2)) tNil))) (tCons (tLst (tCons (tC (.int 1)) tNil)) tNil)))))
          (tOp (rI0 fun i j => .int (i - j)) (tVar 2) (tC (.int 1)))) tNil)))
        rfl scLaw.nd (pi_range1 (by rfl) T'.range (pa_cons (pv 2) pa_nil)) (blkOk_by (N := lawN) (sc := defScope sLaw) (by decide +kernel)) (fun _ _ _ _ _ => pg_name (i := 24) scLaw.nd rfl (.inl rfl)) (fun _ _ _ _ _ => pts_nil)
        (fun _ _ _ _ _ => pe_fn L.pick hr (pa_cons (pv 1) (pa_cons (pe_ix ix_list (pe_lst (pa_cons (pe_lst (pa_cons pe_int (pa_cons pe_int (pa_cons pe_int (pa_cons pe_int pa_nil))))) (pa_cons (pe_lst (pa_cons pe_int (pa_cons pe_int (pa_cons pe_int (pa_cons pe_int pa_nil))))) (pa_cons (pe_lst (pa_cons pe_int (pa_cons pe_int pa_nil))) (pa_cons (pe_lst (pa_cons pe_int pa_nil)) pa_nil))))) (pe_op op_sub (pv 2) pe_int) (fun _ _ => rfl)) pa_nil)))) pa_nil)))
    (pss_cons (ps_set (i := 5) scLaw.nd rfl (.inl rfl) (pe_callTy call_tuple_of (by rfl) T'.tuple boot_tup' (pa_cons (pe_lc (own := [("_law_offer", 24)]) (g := gName 24) (tt := tTest (tOp rEq (tCall spDraw [] E0 (tCons (tVar 1) (tCons (tC (.int 3)) tNil))) (tC (.int 0)))) (te := tVar 24)
        rfl scLaw.nd (pi_range1 (by rfl) T'.range (pa_cons (pv 2) pa_nil)) (blkOk_by (N := lawN) (sc := defScope sLaw) (by decide +kernel)) (fun _ _ _ _ _ => pg_name (i := 24) scLaw.nd rfl (.inl rfl))
        (fun _ _ _ _ _ => pts_one (pt_cmpR op_eq (pe_fn L.draw hr (pa_cons (pv 1) (pa_cons pe_int pa_nil))) pe_int (nomark _))) (fun _ _ _ _ _ => pv 24)) pa_nil)))
    (pss_cons (ps_par3 (i := 6) (j := 7) (l := 8) rfl scLaw.nd rfl rfl rfl (by decide) (by decide) (by decide) rfl rfl rfl (pa_cons (pe_fn L.chooser hr (pa_cons (pv 2) (pa_cons (pe_ix ix_list (pv 3) pe_int (fun _ _ => rfl)) pa_nil)))
        (pa_cons (pe_fn L.chooser hr (pa_cons (pv 2) (pa_cons (pe_ix ix_list (pv 3) pe_int (fun _ _ => rfl)) pa_nil))) (pa_cons (pe_make MT GT hr (by rfl) gT bT .nil pass0 (pa_cons (pv 4) (pa_cons (pv 5) pa_nil))) pa_nil))) (by rfl))
    pN))))), fun D σ H hD hS => ?_⟩
  obtain ⟨a, ns, rfl, hs, hl, hT⟩ := hS
  -- the deck
  refine ⟨.ref a, rfl, a, ns, rfl, hs, hl, fun d r H1 hd0 hr0 e1 dk => ?_⟩
  have hdr : d ≠ r := fun z => by
    obtain ⟨m0, k0, ns0, h1, h2, _⟩ := dk.ex
    rw [z, h2] at h1
    cases h1
  have c1 : Co Tt d r 0 H1 := ⟨dk, hdr, hT.ext e1⟩
  -- the number of offers
  refine q_draw1 (d := d) (r := r) rfl c1 (by decide) fun n H2 n1 n4 c2 bd2 => ?_
  -- the sides
  refine ⟨.ref d, rfl, .int (n : Int), rfl, d, r, 1, n, rfl, c2.dk, hdr, by decide, n1, n4, fun v1 L1 H3 hv1 hl1 hr1 dk3 bd3 => ?_⟩
  have c3 := c2.bd bd3 dk3
  refine ⟨.ref d, rfl, .int (n : Int), rfl, d, r, _, n, rfl, c3.dk, hdr, by decide, n1, n4, fun v2 L2 H4 hv2 hl2 hr2 dk4 bd4 => ?_⟩
  have c4 := c3.bd bd4 dk4
  refine ⟨by show 2 ≤ sizeLine; decide, fun ps hps => ?_⟩
  have e5 : Ex H4 (upd H4 ps (.lst [v1, v2])) := Ex.new hps
  have c5 := c4.ex e5
  obtain ⟨npd, npr⟩ := c4.free hps
  have hv1' : Dp K (vw d r H4) v1 (eL L1) := dp_mono (Lx.vw (Lx.bd bd4)) (dp_sx hid_vw hv1)
  have hv2' : Dp K (vw d r H4) v2 (eL L2) := dp_sx hid_vw hv2
  have ev5 := Lx.vw (Lx.ex (d := d) (r := r) e5)
  have hps5 : vw d r (upd H4 ps (.lst [v1, v2])) ps = some (.lst [v1, v2]) := vw_of npd npr upd_same fun ps z => by cases z
  have hsd : Dp K (vw d r (upd H4 ps (.lst [v1, v2]))) (.ref ps) (.list [eL L1, eL L2]) := .lst (sq_of hps5) (.cons (dp_mono ev5 hv1') (.cons (dp_mono ev5 hv2') .nil))
  have h5 : Dp K (vw d r (upd H4 ps (.lst [v1, v2]))) v1 (eL L1) ∧ Dp K (vw d r (upd H4 ps (.lst [v1, v2]))) v2 (eL L2) := ⟨dp_mono ev5 hv1', dp_mono ev5 hv2'⟩
  generalize hG5 : vw d r (upd H4 ps (.lst [v1, v2])) = G5 at hps5 hsd h5
  generalize hH5 : upd H4 ps (.lst [v1, v2]) = H5 at c5 hG5 e5
  have eG5 : Ex G5 (vw d r H5) := by rw [hG5]; exact Ex.refl _
  -- the lives
  obtain ⟨lf1, lf4, lf3, _, _⟩ := life_ok n (by omega) n1
  refine q_tupLc (K := K) (n := n) (ea_cons (ev_var rfl) ea_nil) (by omega) (fun Dl i H' => Dl ≠ d ∧ Dl ≠ r ∧ G5 Dl = none ∧ ∃ ls : List Int, ls.length = i ∧ (∀ x ∈ ls, x ∈ lifeOf n) ∧ H' Dl = some (.lst (ls.map V.int)) ∧ Co Tt d r (201 + i) H' ∧ Ex G5 (vw d r H'))
    (fun H6 Dl e6 hD => ?_) (fun Dl i H' hi pw => ?_) fun Dl H' pw => ?_
  · have c6 := c5.ex e6
    obtain ⟨z1, z2⟩ := c6.free hD
    have e7 : Ex H6 (upd H6 Dl (.lst [])) := Ex.new hD
    refine ⟨z1, z2, ?_, [], rfl, (fun _ h => by cases h), upd_same, c6.ex e7, eG5.trans (Lx.vw (Lx.ex (e6.trans e7)))⟩
    cases e : G5 Dl with
    | none => rfl
    | some o =>
      have := (vw_some (eG5 Dl o e)).2.2.1
      rw [fresh_back e6 hD] at this
      cases this
  · obtain ⟨nD1, nD2, gD, ls, hll, hls, hDl, c6, eG6⟩ := pw
    refine ⟨rfl, ?_⟩
    unfold tYes
    dsimp only
    rw [if_pos rfl]
    refine pick_ints (K := K) (ns := lifeOf n) (d := d) (r := r) rfl (el_ix4 (n := n) (fun _ => el_lst (ea_cons ev_c (ea_cons ev_c (ea_cons ev_c (ea_cons ev_c ea_nil)))) (by show 4 ≤ 100000; decide)) (fun _ => el_lst (ea_cons ev_c (ea_cons ev_c (ea_cons ev_c (ea_cons ev_c ea_nil)))) (by show 4 ≤ 100000; decide)) (fun _ => el_lst (ea_cons ev_c (ea_cons ev_c ea_nil)) (by show 2 ≤ 100000; decide))
      (fun _ => el_lst (ea_cons ev_c ea_nil) (by show 1 ≤ 100000; decide)) (fun _ => ev_op (ev_var rfl) ev_c rv_I0) n1 n4 (life_at n1 n4)) c6.dk hdr (by omega) lf1 (by omega) fun x H7 hx dk7 bd7 => ?_
    have c7 := c6.bd bd7 dk7
    have hD7 := bd7 _ _ nD1 nD2 hDl
    refine ⟨_, hD7, sz_lt (by rw [List.length_map]; omega), nD1, nD2, gD, ls ++ [x], by rw [List.length_append, hll]; rfl, fun y hy => ?_, by rw [upd_same, List.map_append]; rfl, (c7.upd hD7 (fun l z => by cases z) nD2 (fun ps z => by cases z) (fun q p z => by cases z)), vw_upd (eG6.trans (Lx.vw (Lx.bd bd7))) gD⟩
    rcases List.mem_append.mp hy with h | h
    · exact hls y h
    · rw [List.mem_singleton.mp h]
      exact hx
  obtain ⟨nD1, nD2, gD, lives, hll, hls, hDl, c6, eG6⟩ := pw
  refine ⟨_, hDl, fun al hal => ?_⟩
  have e7 : Ex H' (upd H' al (.tup (lives.map V.int))) := Ex.new hal
  have c7 := c6.ex e7
  have eG7 := eG6.trans (Lx.vw (Lx.ex e7))
  have hlv : Dp K (vw d r (upd H' al (.tup (lives.map V.int)))) (.ref al) (eS lives) := S_dp (tx_t c7.tx (st_of upd_same))
  generalize upd H' al (.tup (lives.map V.int)) = H7 at c7 eG7 hlv
  -- what is loose
  refine q_tupLc (K := K) (n := n) (ea_cons (ev_var rfl) ea_nil) (by omega) (fun Dl i H' => Dl ≠ d ∧ Dl ≠ r ∧ vw d r H7 Dl = none ∧ ∃ ls : List Int, Asc i ls ∧ ls.length ≤ i ∧ H' Dl = some (.lst (ls.map V.int)) ∧ Co Tt d r (300 + i) H' ∧ Ex (vw d r H7) (vw d r H'))
    (fun H8 Dl e8 hD => ?_) (fun Dl i H' hi pw => ?_) fun Dl H'_1 pw => ?_
  · have c8 := c7.ex e8
    obtain ⟨z1, z2⟩ := c8.free hD
    have e9 : Ex H8 (upd H8 Dl (.lst [])) := Ex.new hD
    refine ⟨z1, z2, ?_, [], Asc.nil _, Nat.le_refl _, upd_same, (c8.ex e9).up (by omega), Lx.vw (Lx.ex (e8.trans e9))⟩
    cases e : vw d r H7 Dl with
    | none => rfl
    | some o =>
      have := (vw_some e).2.2.1
      rw [fresh_back e8 hD] at this
      cases this
  · obtain ⟨mD1, mD2, gD2, ls, hla, hlln, hDl2, c8, eG8⟩ := pw
    refine ⟨rfl, .ref d, rfl, d, r, 300 + i, 3, rfl, c8.dk, hdr, by omega, by decide, by decide, fun x H9 x0 x3 dk9 bd9 => ?_⟩
    have c9 := c8.bd bd9 dk9
    have hD9 := bd9 _ _ mD1 mD2 hDl2
    have eG9 := eG8.trans (Lx.vw (Lx.bd bd9))
    have hup : Asc (i + 1) ls := ⟨hla.1, fun y hy => by have := hla.2 y hy; omega⟩
    refine ⟨rfl, _, rfl, ?_⟩
    have ca := c9
    have hDa := hD9
    have eGa := eG9
    show if decide (V.int x = V.int 0) = true then _ else _
    split
    · refine ⟨.int (i : Int), rfl, _, hDa, sz_lt (by rw [List.length_map]; omega), mD1, mD2, gD2, ls ++ [(i : Int)], ⟨List.pairwise_append.mpr ⟨hla.1, by simp, fun y hy z hz => by rw [List.mem_singleton] at hz; rw [hz]; exact (hla.2 y hy).2⟩, fun y hy => ?_⟩, by rw [List.length_append]; show ls.length + 1 ≤ i + 1; omega, by rw [upd_same, List.map_append]; rfl,
        (ca.upd hDa (fun l z => by cases z) mD2 (fun ps z => by cases z) (fun q p z => by cases z)), vw_upd eGa gD2⟩
      rcases List.mem_append.mp hy with h | h
      · exact hup.2 y h
      · rw [List.mem_singleton.mp h]
        omega
    · exact ⟨mD1, mD2, gD2, ls, hup, by omega, hDa, ca, eGa⟩
  obtain ⟨mD1, mD2, gD2, loose, hlo, hloln, hDl2, c8, eG8⟩ := pw
  refine ⟨_, hDl2, fun ao hao => ?_⟩
  have e9 : Ex H'_1 (upd H'_1 ao (.tup (loose.map V.int))) := Ex.new hao
  have c9 := (c8.ex e9).up (c := 1000) (by omega)
  have eG9 := eG7.trans (eG8.trans (Lx.vw (Lx.ex e9)))
  have hlv9 := dp_mono (eG8.trans (Lx.vw (Lx.ex e9))) hlv
  have hlo9 : Dp K (vw d r (upd H'_1 ao (.tup (loose.map V.int)))) (.ref ao) (eS loose) := S_dp (tx_t c9.tx (st_of upd_same))
  generalize upd H'_1 ao (.tup (loose.map V.int)) = H9 at c9 eG9 hlv9 hlo9
  have hps9 : SqL K (vw d r H9) ps [v1, v2] := sq_of (eG9 _ _ hps5)
  have hd1 : Dp K (vw d r H9) v1 (eL L1) ∧ Dp K (vw d r H9) v2 (eL L2) := ⟨dp_mono eG9 h5.1, dp_mono eG9 h5.2⟩
  -- the choosers
  refine ⟨.int (n : Int), rfl, .ref ps, rfl, ps, [v1, v2], 0, v1, rfl, rfl, ex_l vw_ex hps9, rfl, v1, n, L1, rfl, n1, n4, c9.tb, dp_mono vw_ex hd1.1, by omega, fun row h => by have := hr1 row h; omega, fun va H10 eN10 T10 hca => ?_⟩
  have c10 := c9.exN eN10 T10
  have ev10 := Lx.vw (Lx.exN (d := d) (r := r) eN10)
  refine ⟨.int (n : Int), rfl, .ref ps, rfl, ps, [v1, v2], 1, v2, rfl, rfl, ex_l (ev10.trans vw_ex) hps9, rfl, v2, n, L2, rfl, n1, n4, c10.tb, dp_mono (ev10.trans vw_ex) hd1.2, by omega, fun row h => by have := hr2 row h; omega, fun vb H11 eN11 T11 hcb => ?_⟩
  have c11 := c10.exN eN11 T11
  have ev11 := Lx.vw (Lx.exN (d := d) (r := r) eN11)
  have ev911 := ev10.trans ev11
  -- the trade
  have hli : ∀ x ∈ lives, 1 ≤ x ∧ x ≤ 3 := fun x hx => lf3 x (hls x hx)
  refine ⟨.ref al, rfl, .ref ao, rfl, fun x dx hx hdx hne => ?_⟩
  have hx1 : (upd H11 dx (.own x)) x = none := by rw [upd_ne (fun z => hne z.symm)]; exact hx
  have e12 : Ex H11 (upd (upd H11 dx (.own x)) x (.ins T dx [])) := (Ex.new hdx).trans (Ex.new hx1)
  refine ⟨x, dx, .ref al, .ref ao, lives, loose, rfl, upd_same, dp_mono ((ev911.trans vw_ex).trans e12) hlv9, dp_mono ((ev911.trans vw_ex).trans e12) hlo9, by omega, by omega, fun y hy => by have := hli y hy; omega, by rw [hll]; exact hlo, fun H12 bt trd => ⟨rfl, va, vb, .ref x, rfl, ?_⟩⟩
  have lx : Lx d r H11 H12 := fun a o _ _ _ ha => bt a o (ne_of_none ha hx) (e12 _ _ ha)
  have c12 := (c11.ex e12).bt upd_same bt
  have ev12 := Lx.vw lx
  have ev := ev911.trans ev12
  refine rN D _ H12 hD ⟨⟨d, r, n, L1, L2, lives, loose, va, vb, .ref x, .ref al, 0, 0, [], .non⟩, .ref ps, .ref ao, ⟨_, _, _, _, _, _, _, _, _, _, _, _, _, _, _, _, _, _, _, _, rfl⟩, vw d r H12,
    ⟨⟨(hca.vw c10).mono (ev11.trans ev12), (hcb.vw c11).mono ev12, trd.vw c12, n1, n4, hll, hli⟩, dp_mono ev hlv9, hlo, dp_mono ev hlo9, .lst (ex_l ev hps9) (.cons (dp_mono ev hd1.1) (.cons (dp_mono ev hd1.2) .nil)), by show L1.length ≤ 50; omega, fun row h => by have := hr1 row h; omega, by show L2.length ≤ 50; omega, fun row h => by have := hr2 row h; omega, pos_few n1 n4 hls⟩, Ex.refl _, c12⟩
end
end K49
namespace K49
open PySem PySem.Spec PySem.W PyProof.Rows L2 Evl LamX
/-! plain: what is met -/
section
variable {bh : Dt → Deed → Dt} {f : Dt → List (List Int)} {deeds : List Deed} {Q : Pos → Prop} {i : Nat} {met : List Pos}
theorem met_next (M : Met bh f deeds Q i deeds met) : Met bh f deeds Q (i + 1) [] met := by
  refine ⟨M.nd, M.ok, fun j q hj hq => ?_, fun _ _ _ h => (by cases h), M.st⟩
  rcases Nat.lt_or_eq_of_le (Nat.le_of_lt_succ hj) with z | z
  · exact M.cl j q z hq
  · rw [z] at hq
    exact M.now q hq
theorem met_skip (M : Met bh f deeds Q i [] met) (hi : ¬ i < met.length) : Met bh f deeds Q (i + 1) [] met := by
  refine ⟨M.nd, M.ok, fun j q hj hq => ?_, fun _ _ _ h => (by cases h), M.st⟩
  rcases Nat.lt_or_eq_of_le (Nat.le_of_lt_succ hj) with z | z
  · exact M.cl j q z hq
  · have := (List.getElem?_eq_some_iff.mp hq).1
    omega
end
abbrev bhP (p : LP) : Dt → Deed → Dt := K49.behind leI p.lives
abbrev fP (p : LP) : Dt → List (List Int) := keptOf p.L1 p.L2
abbrev MetP (p : LP) (i : Nat) (done : List Deed) (met : List Pos) : Prop := Met (bhP p) (fP p) (DLs p) (fun q => q ∈ POS p) i done met
theorem met_hmv {p : LP} (n1 : 1 ≤ p.n) (n4 : p.n ≤ 4) (h1 : ∀ o : Int, 0 ≤ o ∧ o < (p.n : Int) → 1 ≤ p.lives.getD o.toNat 0) (hl : Asc p.n p.loose) : ∀ q, q ∈ POS p → ∀ dd ∈ DLs p, (mv (bhP p) (fP p) q.1 dd).Nodup ∧ ∀ m ∈ mv (bhP p) (fP p) q.1 dd, m ∈ POS p := fun q hq dd hd => by
  have hw := behind_wi by_offer h1 (mem_POS.mp hq).1 (DLs_ok hl hd)
  refine ⟨nodup_map_inj (kept_nodup leS p.L1 p.L2 n1 n4 hw.asc) fun a b e => congrArg Prod.snd e, fun m hm => ?_⟩
  obtain ⟨s, hs, rfl⟩ := List.mem_map.mp hm
  exact mem_POS.mpr ⟨hw, hs⟩
theorem met_few {p : LP} {i : Nat} {done : List Deed} {met : List Pos} (M : MetP p i done met) (h : (POS p).length < 16) : met.length ≤ 15 := by
  have := nodup_len M.nd fun q hq => M.ok q hq
  omega
/-- every dated set is met -/
theorem met_all {p : LP} (n1 : 1 ≤ p.n) (n4 : p.n ≤ 4) (h : (POS p).length < 16) {met : List Pos} (M : MetP p 40 [] met) (d : Dt) : Wi p.lives p.n d ↔ ∃ q ∈ met, q.1 = d := by
  have h15 := met_few M h
  have cl : ∀ q ∈ met, ∀ dd ∈ DLs p, ∀ m ∈ mv (bhP p) (fP p) q.1 dd, m ∈ met := fun q hq => by
    obtain ⟨j, hj⟩ := List.mem_iff_getElem?.mp hq
    have := (List.getElem?_eq_some_iff.mp hj).1
    exact M.cl j q (by omega) hj
  have go : ∀ (e : Dt) (dd : Deed), dd ∈ DLs p → Wi p.lives p.n (K49.behind leI p.lives e dd) → (∃ q ∈ met, q.1 = e) → ∃ q ∈ met, q.1 = K49.behind leI p.lives e dd := fun e dd hd hw ⟨q, hq, he⟩ => by
    obtain ⟨s, hs⟩ := kept_some leS p.L1 p.L2 n1 n4 hw.asc
    subst he
    exact ⟨(K49.behind leI p.lives q.1 dd, s), cl q hq dd hd _ (List.mem_map.mpr ⟨s, hs, rfl⟩), rfl⟩
  constructor
  · intro hw
    refine come_to by_offer (lives := p.lives) (n := p.n) (D := fun e => Wi p.lives p.n e → ∃ q ∈ met, q.1 = e) (fun _ => ⟨_, M.st, rfl⟩) (fun e he ih hw' => go e .day List.mem_cons_self hw' (ih he)) (fun e o he ih ho hw' => go e (.come o) ?_ hw' (ih he)) _ d (Nat.le_refl _) hw hw
    refine List.mem_cons_of_mem _ (List.mem_append_left _ (List.mem_map.mpr ⟨o.toNat, List.mem_range.mpr (by omega), ?_⟩))
    rw [show ((o.toNat : Nat) : Int) = o by omega]
  · rintro ⟨q, hq, rfl⟩
    exact (mem_POS.mp (M.ok q hq)).1
/-! rules -/
section
variable {K : PySem.W.Frag} {σ : L2.St} {H : Hp} {tl ta tb te : TE} {t : TT} {g : TG} {tu tz : TS} {D : Ends} {d : PyData} {ds es : List PyData}
def rNotInT (K : PySem.W.Frag) : R2 := fun x y H Q => ∃ d ds, Dp K H x d ∧ Dp K H y (.tuple ds) ∧ SeqAt.shaped d = true ∧ SeqAt.shaped (.tuple ds) = true ∧ Q (.bl (!ds.any fun z => PyData.eqv z d)) H
theorem op_notInT {X : Cx} (hu : X.A.units + 65 < cLine) : OpR X (compareOp .NotIn) (rNotInT X.K) := by
  intro pins s σ H x y v u Q I rx ry h
  obtain ⟨d, ds, hd, he, sd, se, q⟩ := h
  obtain ⟨as, r1⟩ := Dp.reads I d x v hd rx
  obtain ⟨bs, r2⟩ := Dp.reads I (.tuple ds) y u he ry
  exact SeqAt.notIn_tuple_reads r2 r1 (SeqAt.canLay_of_shaped se) (SeqAt.canLay_of_shaped sd) (room_in_shaped sd hu) ⟨.bl _, H, I, rfl, q⟩
theorem ev_niT (ha : EvD K ta σ H d) (hb : EvD K tb σ H (.tuple es)) (sd : SeqAt.shaped d = true) (se : SeqAt.shaped (.tuple es) = true) : Ev (tOp (rNotInT K) ta tb) σ H (.bl (!es.any fun z => PyData.eqv z d)) := fun H1 a Q q =>
  ha H1 a _ fun x H2 e2 dx => hb H2 (a.trans e2) _ fun y H3 e3 dy => ⟨d, es, dp_mono e3 dx, dy, sd, se, q H3 (e2.trans e3)⟩
theorem EvT.mono' {b : Bool} {H1 : Hp} (e : Ex H H1) (h : EvT t σ H b) : EvT t σ H1 b := fun H2 e2 Q q => h H2 (e.trans e2) Q q
theorem EvD.mono' {H1 : Hp} (e : Ex H H1) (h : EvD K te σ H d) : EvD K te σ H1 d := fun H2 e2 Q q => h H2 (e.trans e2) Q q
theorem EvN.mono' {H1 : Hp} (e : Ex H H1) (h : EvN K te σ H ds) : EvN K te σ H1 ds := fun H2 e2 Q q => h H2 (e.trans e2) Q q
theorem ed_if {b : Bool} (h : EvT t σ H b) (h1 : b = true → EvD K ta σ H d) (h2 : b = false → EvD K tb σ H d) : EvD K (tIf t ta tb) σ H d := fun H1 e Q q => h H1 e _ fun H2 e2 => by
  cases b with
  | true =>
    rw [if_pos rfl]
    exact h1 rfl H2 (e.trans e2) Q fun v H3 e3 hd => q v H3 (e2.trans e3) hd
  | false =>
    rw [if_neg Bool.false_ne_true]
    exact h2 rfl H2 (e.trans e2) Q fun v H3 e3 hd => q v H3 (e2.trans e3) hd
theorem en_if {b : Bool} (h : EvT t σ H b) (h1 : b = true → EvN K ta σ H ds) (h2 : b = false → EvN K tb σ H ds) : EvN K (tIf t ta tb) σ H ds := fun H1 e Q q => h H1 e _ fun H2 e2 => by
  cases b with
  | true =>
    rw [if_pos rfl]
    exact h1 rfl H2 (e.trans e2) Q fun p xs H3 hp e3 hx hd => q p xs H3 (fresh_back e2 hp) (e2.trans e3) hx hd
  | false =>
    rw [if_neg Bool.false_ne_true]
    exact h2 rfl H2 (e.trans e2) Q fun p xs H3 hp e3 hx hd => q p xs H3 (fresh_back e2 hp) (e2.trans e3) hx hd
/-- over a list of data; nothing changes -/
theorem s_forDl {α : Type} {as : List α} {e1 : α → PyData} (h : EvD K tl σ H (.list (as.map e1))) (Pv : Hp → List α → L2.St → Hp → Prop) (h0 : ∀ H1, Ex H H1 → Pv H1 [] σ H1) (hk : ∀ H1 l σ' H', Ex H H1 → Pv H1 l σ' H' → Ex H1 H')
    (hg : ∀ H1 l a r, Ex H H1 → as = l ++ a :: r → ∀ x σ' H', Pv H1 l σ' H' → Dp K H' x (e1 a) → g x σ' H' fun σ2 H2 => tu { D with nx := Pv H1 (l ++ [a]), ct := Pv H1 (l ++ [a]), bk := D.nx } σ2 H2) (hd : ∀ H1 σ' H', Ex H H1 → Pv H1 as σ' H' → D.nx σ' H') : tFor (iList K tl) g tu D σ H :=
  h H (Ex.refl H) _ fun v H1 ev hv => by
    obtain ⟨a, xs, rfl, hs, hx⟩ := dp_lst hv
    have hlen : xs.length = as.length := by rw [dpAll_len hx, List.length_map]
    refine ⟨a, rfl, ⟨xs, hs⟩, for_list (xs := xs) (fun i σ' H' => Pv H1 (as.take i) σ' H') (h0 H1 ev) (fun i σ' H' _ w => ex_l (hk _ _ _ _ ev w) hs) (fun i x σ' H' hi w => ?_) fun σ' H' w => ?_⟩
    · obtain ⟨d, hd', hxd⟩ := dpAll_at hx hi
      rw [List.getElem?_map] at hd'
      obtain ⟨b, hb, rfl⟩ := Option.map_eq_some_iff.mp hd'
      rw [take_snoc hb]
      exact hg _ _ b _ ev (split_at hb) x σ' H' w (dp_mono (hk _ _ _ _ ev w) hxd)
    · rw [hlen, List.take_length] at w
      exact hd _ σ' H' ev w
end
end K49
namespace K49
open PySem PySem.Spec PySem.W PyProof.Rows L2 Evl LamX
section
variable {P : Program} {w : World} {K : PySem.W.Frag} {mg : Str → Option Value} {base : Heap} {C T : Addr} {Tt : List (Addr × Str)}
abbrev frZ (p : LP) (pm : Addr) (x0 x3 x5 x10 x12 x13 x15 x16 x17 x18 x19 x20 x21 x23 x24 x25 x26 x27 : Option V) : L2.St := fr p x0 x3 x5 x10 x12 x13 x15 x16 x17 x18 x19 x20 x21 (some (.ref pm)) x23 x24 x25 x26 x27
/-- what is met, when every position has been followed -/
def SZ (K : PySem.W.Frag) (P : Program) (w : World) (C T : Addr) (σ : L2.St) (H : Hp) : Prop := ∃ (p : LP) (pm : Addr) (xs : List V) (met : List Pos),
  (∃ x0 x3 x5 x10 x12 x13 x15 x16 x17 x18 x19 x20 x21 x23 x24 x25 x26 x27, σ = frZ p pm x0 x3 x5 x10 x12 x13 x15 x16 x17 x18 x19 x20 x21 x23 x24 x25 x26 x27) ∧ LF K P w C T p H ∧ H pm = some (.lst xs) ∧ DpAll K H xs (met.map eP) ∧
  (∀ q ∈ met, q ∈ POS p) ∧ met.length ≤ 15 ∧ (met = [] ∨ ∀ d, Wi p.lives p.n d ↔ ∃ q ∈ met, q.1 = d)
/-- what holds of the positions met so far -/
def Gm (p : LP) (i : Nat) (done : List Deed) (met : List Pos) : Prop := (16 ≤ (POS p).length ∧ met = []) ∨ ((POS p).length < 16 ∧ MetP p i done met)
theorem Gm.len {p : LP} {i : Nat} {done : List Deed} {met : List Pos} (h : Gm p i done met) : met.length ≤ 15 := by
  rcases h with ⟨_, rfl⟩ | ⟨h, M⟩
  · exact Nat.zero_le _
  · exact met_few M h
theorem law_met {f : Addr} {cdv : Value} {A : Around} {outer : List Env} {s : Shared} {H0 : Hp} {E : XK} {k b : Nat} (L : LD P w K mg base C T Tt k) (hr : Room (k + 1) (LX P w K mg base f cdv A outer s H0 E).A)
    (N : Suf (LX P w K mg base f cdv A outer s H0 E) 17 (SZ K P w C T)) : Suf (LX P w K mg base f cdv A outer s H0 E) 15 fun σ H => ∃ p, SW K P w C T Tt p b σ H := by
  obtain ⟨t, pN, rN⟩ := N
  have T' := L.T'
  have hu := hu_64 hr
  refine ⟨_, pss_cons (ps_set (i := 22) scLaw.nd rfl (.inr rfl) (pe_ifExp (pt_cmpR op_lt (pe_callB call_len_seq (by rfl) T'.len PySem.boot_len (pa_cons (pv 11) pa_nil)) pe_int (nomark _)) (pe_lst (pa_cons (pe_tup (pa_cons (pe_tup pa_nil) (pa_cons (pe_tup pa_nil) pa_nil))) pa_nil)) (pe_lst pa_nil)))
    (pss_cons (ps_for PassesOwn.never rfl (pi_range1 (by rfl) T'.range (pa_cons pe_int pa_nil)) (pg_name (i := 23) scLaw.nd rfl (.inl rfl))
      (pss_one (ps_for PassesOwn.never rfl (pi_list (pe_ifExp (pt_cmpR op_lt (pv 23) (pe_callB call_len_seq (by rfl) T'.len PySem.boot_len (pa_cons (pv 22) pa_nil)) (nomark _)) (pv 14) (pe_lst pa_nil))) (pg_name (i := 17) scLaw.nd rfl (.inl rfl))
        (pss_cons (ps_set (i := 19) scLaw.nd rfl (.inl rfl) (pe_fn L.moves hr (pa_cons (pv 6) (pa_cons (pv 7) (pa_cons (pv 8) (pa_cons (pe_ix ix_list (pv 22) (pv 23) (fun _ _ => rfl)) (pa_cons (pv 17) pa_nil)))))))
        (pss_one (ps_set (i := 22) scLaw.nd rfl (.inr rfl) (pe_op op_cat (pv 22) (pe_lc (own := [("_law_move", 20)]) (g := gName 20) (tt := tTest (tOp (rNotInD K) (tVar 20) (tVar 22))) rfl scLaw.nd (pi_tup (pv 19))
          (blkOk_by (N := lawN) (sc := defScope sLaw) (by decide +kernel)) (fun _ _ _ _ _ => pg_name (i := 20) scLaw.nd rfl (.inl rfl)) (fun _ _ _ _ _ => pts_one (pt_cmpR (op_notInD (hu_65 hr)) (pv 20) (pv 22) (by with_unfolding_all rfl))) (fun _ _ _ _ _ => pv 20)))))))))
    pN), fun D σ H hD hS => ?_⟩
  obtain ⟨p, ⟨x0, x3, x5, x10, x12, x13, x15, x16, x17, x18, x19, x20, x21, x22, x23, x24, x25, x26, x27, rfl⟩, G, F0, eG, c⟩ := hS
  have F := F0.mono (eG.trans vw_ex)
  clear F0 eG c
  have n1 := F.tr.n1
  have n4 := F.tr.n4
  have hmv := met_hmv n1 n4 F.one F.ls
  have hlt : ∀ {σ : L2.St} {H1 : Hp}, Ex H H1 → σ[11]? = some (some (.ref p.adue)) → EvT (tTest (tOp (rI0 fun i j => .bl (decide (i < j))) (tCB (rLenD K) (tCons (tVar 11) tNil)) (tC (.int 16)))) σ H1 (decide ((POS p).length < 16)) := fun {σ H1} e h =>
    et_is (et_test (ev_op (ev_lenT (ed_var h (dp_mono e F.due))) ev_c rv_I0)) (by rw [List.length_map]; exact decide_eq_decide.mpr ⟨fun z => by omega, fun z => by omega⟩)
  refine q_asgN (K := K) (ds := (if (POS p).length < 16 then [(([], []) : Pos)] else []).map eP) (en_if (hlt (Ex.refl _) rfl) (fun hb => ?_) fun hb => ?_) fun pm xs H1 hpm e1 hxs hds => ?_
  · rw [if_pos (of_decide_eq_true hb)]
    exact en_lst (eds_cons (ed_tup (eds_cons ed_nilT (eds_cons ed_nilT eds_nil)) (by show 2 ≤ 100000; decide)) eds_nil) (by show 1 ≤ 100000; decide)
  · rw [if_neg (of_decide_eq_false hb)]
    exact en_lst eds_nil (Nat.zero_le _)
  have G0 : Gm p 0 [] (if (POS p).length < 16 then [(([], []) : Pos)] else []) := by
    by_cases h : (POS p).length < 16
    · rw [if_pos h]
      exact .inr ⟨h, met_bfs hmv (POS_nil n1 n4) 0⟩
    · rw [if_neg h]
      exact .inl ⟨by omega, rfl⟩
  generalize (if (POS p).length < 16 then [(([], []) : Pos)] else []) = met0 at hds G0
  refine q_forR1 (n := 40) (ea_cons ev_c ea_nil) ⟨by decide, by decide⟩ (fun i σ H' => Ex H H' ∧ ∃ (pm : Addr) (xs : List V) (met : List Pos), (∃ x17 x19 x20 x23, σ = frZ p pm x0 x3 x5 x10 x12 x13 x15 x16 x17 x18 x19 x20 x21 x23 x24 x25 x26 x27) ∧ H' pm = some (.lst xs) ∧ DpAll K H' xs (met.map eP) ∧ Gm p i [] met)
    (fun H2 e2 => ⟨e1.trans e2, pm, xs, met0, ⟨_, _, _, _, rfl⟩, e2 _ _ hxs, dpAll_mono e2 hds, G0⟩) (fun i σ H' hi pw => ?_) fun σ H' pw => ?_
  · clear hpm hxs hds G0
    obtain ⟨e2, pm, xs, met, ⟨x17, x19, x20, x23, rfl⟩, hxs, hds, gm⟩ := pw
    have h15 := gm.len
    refine s_forDl (K := K) (as := if i < met.length then DLs p else []) (e1 := eDeed) (ed_if (b := decide (i < met.length)) (et_is (et_test (ev_op (ev_var rfl) (ev_lenL (K := K) (ed_var rfl (.lst (sq_of hxs) hds))) rv_I0)) (by rw [List.length_map]; exact decide_eq_decide.mpr ⟨fun z => by omega, fun z => by omega⟩)) (fun hb => ?_) fun hb => ?_)
      (fun H1 l σ' H'' => Ex H H'' ∧ Ex H1 H'' ∧ ∃ (pm : Addr) (xs : List V) (met' : List Pos), (∃ x17 x19 x20, σ' = frZ p pm x0 x3 x5 x10 x12 x13 x15 x16 x17 x18 x19 x20 x21 (some (.int (i : Int))) x24 x25 x26 x27) ∧ H'' pm = some (.lst xs) ∧ DpAll K H'' xs (met'.map eP) ∧ Gm p i l met' ∧ (l = [] → met' = met) ∧ (i < met.length → i < met'.length))
      (fun H3 e3 => ⟨e2.trans e3, Ex.refl _, pm, xs, met, ⟨_, _, _, rfl⟩, e3 _ _ hxs, dpAll_mono e3 hds, gm, fun _ => rfl, id⟩) (fun H3 l σ' H'' _ pw => pw.2.1) (fun H3 l dd rr e3 hsp x σ' H4 pw hx => ?_) fun H3 σ' H4 e3 pw => ?_
    · rw [if_pos (of_decide_eq_true hb)]
      exact ed_var rfl (dp_mono e2 F.dd)
    · rw [if_neg (of_decide_eq_false hb)]
      exact EvN.toD (en_lst eds_nil (Nat.zero_le _))
    · obtain ⟨e4, e34, pm4, xs4, met4, ⟨y17, y19, y20, rfl⟩, hxs4, hds4, gm4, _, hlen⟩ := pw
      have him : i < met.length := by
        by_cases h : i < met.length
        · exact h
        · rw [if_neg h] at hsp
          cases l <;> cases hsp
      rw [if_pos him] at hsp
      have hdd : dd ∈ DLs p := by rw [hsp]; simp
      have him4 := hlen him
      -- the case without positions to follow is out
      rcases gm4 with ⟨_, rfl⟩ | ⟨hP, M4⟩
      · cases him4
      have hq : met4[i]? = some met4[i] := List.getElem?_eq_getElem him4
      generalize met4[i] = q at hq
      have hqP := M4.ok q (List.mem_of_getElem? hq)
      obtain ⟨hqw, hqk⟩ := mem_POS.mp hqP
      have hqa := POS_asc n1 n4 hqP
      have hdl : DeedOk p.lives.length p.loose dd := by rw [F.tr.ln]; exact DLs_ok F.ls hdd
      have hbw := behind_wi by_offer F.one hqw (DLs_ok F.ls hdd)
      have hkl := kept_len leS p.L1 p.L2 n1 n4 hbw.asc
      have hml : (movesOf p.L1 p.L2 p.lives q dd).length ≤ 16 := by
        unfold movesOf
        rw [List.length_map]
        exact hkl
      have h154 := met_few M4 hP
      refine q_asgD (K := K) (d := .tuple ((movesOf p.L1 p.L2 p.lives q dd).map eP)) (ed_call (ar_v (ev_var rfl) (ar_v (ev_var rfl) (ar_v (ev_var rfl) (ar_d (d := eP q) (ed_ixL (ds := met4.map eP) (i := (i : Int)) (ed_var rfl (.lst (sq_of hxs4) hds4)) (ev_var rfl) (atI_nn (by omega) (by rw [Int.toNat_natCast, List.getElem?_map, hq]; rfl))) (ar_d (ed_var rfl hx) ar_nil))))) fun H1 e =>
        ⟨p.va, p.vb, p.vt, p.n, p.L1, p.L2, p.lives, p.loose, q, dd, rfl, F.tr.mono (e4.trans e), hqw, hqa, hqk, hdl, rfl⟩) fun vm H5 e5 hvm => ?_
      have hxs5 := e5 _ _ hxs4
      have hds5 := dpAll_mono e5 hds4
      refine s_asgN (K := K) (ds := (stepD (bhP p) (fP p) i met4 dd).map eP) (en_is (en_catL (K := K) (r := pm4) (ys := xs4) (ev_var rfl) hxs5 hds5 (en_lcT (K := K) (as := movesOf p.L1 p.L2 p.lives q dd) (e1 := eP) (e2 := eP) (Tg := fun m => TgN K _ 20 (eP m)) (fun m => !decide (m ∈ met4)) id (ed_var rfl hvm) (by omega) flat_P
          (fun m hm x H1 e1 hx Q q => tg_name hx (fun _ => rfl) Q q) (fun m hm σ2 H2 e2 hT => ?_) (fun m hm σ2 H2 H3 e2 hT e3 _ => ?_)) ?_) ?_) fun pn ys H6 hpn e6 hys hyd => ?_
      · obtain ⟨y, rfl, hy⟩ := hT
        refine et_is (et_test (ev_niL (ed_var rfl hy) (ed_var rfl (.lst (sq_of (e2 _ _ hxs5)) (dpAll_mono e2 hds5))) (shaped_P _) (shaped_list lay_P depth_P (by decide) _))) ?_
        rw [any_eqv eqv_P]
        exact congrArg (fun b => !b) (decide_eq_decide.mpr Iff.rfl)
      · obtain ⟨y, rfl, hy⟩ := hT
        exact ed_var rfl (dp_mono e3 hy)
      · have := lcRes_len (fun m => !decide (m ∈ met4)) id eP (movesOf p.L1 p.L2 p.lives q dd)
        rw [List.length_map]
        omega
      · rw [lcRes_id, ← List.map_append]
        have : stepD (bhP p) (fP p) i met4 dd = addm met4 (mv (bhP p) (fP p) q.1 dd) := by
          unfold stepD
          rw [getD_some hq]
        rw [this]
        rfl
      · obtain ⟨M5, hi5⟩ := met_deed hmv M4 him4 hdd
        exact ⟨(e4.trans e5).trans e6, (e34.trans e5).trans e6, pn, ys, _, ⟨_, _, _, rfl⟩, hys, hyd, .inr ⟨hP, M5⟩, fun z => by simp at z, fun _ => hi5⟩
    · obtain ⟨e4, e34, pm4, xs4, met4, ⟨y17, y19, y20, rfl⟩, hxs4, hds4, gm4, hsame, _⟩ := pw
      refine ⟨e4, pm4, xs4, met4, ⟨_, _, _, _, rfl⟩, hxs4, hds4, ?_⟩
      by_cases him : i < met.length
      · rw [if_pos him] at gm4
        rcases gm4 with ⟨h, rfl⟩ | ⟨h, M⟩
        · exact .inl ⟨h, rfl⟩
        · exact .inr ⟨h, met_next M⟩
      · rw [if_neg him] at gm4 hsame
        obtain rfl := hsame rfl
        rcases gm4 with ⟨h, rfl⟩ | ⟨h, M⟩
        · exact .inl ⟨h, rfl⟩
        · exact .inr ⟨h, met_skip M him⟩
  · obtain ⟨e2, pm, xs, met, ⟨y17, y19, y20, y23, rfl⟩, hxs, hds, gm⟩ := pw
    refine rN D _ H' hD ⟨p, pm, xs, met, ⟨_, _, _, _, _, _, _, _, _, _, _, _, _, _, _, _, _, _, rfl⟩, F.mono e2, hxs, hds, ?_, gm.len, ?_⟩
    · rcases gm with ⟨_, rfl⟩ | ⟨_, M⟩
      · exact fun q hq => by cases hq
      · exact M.ok
    · rcases gm with ⟨_, rfl⟩ | ⟨h, M⟩
      · exact .inl rfl
      · exact .inr (met_all n1 n4 h M)
end
end K49
namespace K49
open PySem PySem.Spec PySem.W PyProof.Rows L2
/-! ## small questions asked of nested tuples of numbers -/
mutual
def nums : NestedKey → Bool
  | .num _ => true
  | .tup ks => numsAll ks
  | _ => false
def numsAll : List NestedKey → Bool
  | [] => true
  | k :: ks => nums k && numsAll ks
end
theorem numsAll_mem : ∀ {ks : List NestedKey}, numsAll ks = true → ∀ k ∈ ks, nums k = true
  | [], _, _, h => by cases h
  | x :: ks, e, k, h => by
    rw [numsAll, Bool.and_eq_true] at e
    rcases List.mem_cons.mp h with rfl | h
    · exact e.1
    · exact numsAll_mem e.2 k h
theorem depthAll_mem : ∀ {ks : List NestedKey} {n : Nat}, NestedKey.depthAll ks ≤ n → ∀ k ∈ ks, k.depth ≤ n
  | [], _, _, _, h => by cases h
  | x :: ks, n, e, k, h => by
    rw [NestedKey.depthAll] at e
    rcases List.mem_cons.mp h with rfl | h
    · omega
    · exact depthAll_mem (by omega) k h
theorem nest_mem {h : Heap} : ∀ {ks : List NestedKey} {vs : List Value}, NestedAll h ks vs → ∀ v ∈ vs, ∃ k ∈ ks, NestedIs h k v
  | _, _, .nil, v, hv => by cases hv
  | _, _, .cons h1 h2, v, hv => by
    rcases List.mem_cons.mp hv with rfl | hv
    · exact ⟨_, List.mem_cons_self, h1⟩
    · obtain ⟨k, hk, h3⟩ := nest_mem h2 v hv
      exact ⟨k, List.mem_cons_of_mem _ hk, h3⟩
section
variable {P : Program} {w : World} {A : Around} {E : Value → Shared → Prop} {s : Shared}
theorem cls_nest : ∀ (n : Nat) (k : NestedKey) (v : Value) {Q : Bool → Shared → Prop}, NestedIs s.heap k v → nums k = true → k.depth ≤ n → Q false s → wpAny (model P w) A (ofAClassStatement n v) Q E s
  | n, .none, v, Q, h, e, _, q => by cases e
  | n, .text _, v, Q, h, e, _, q => by cases e
  | n, .num i, v, Q, h, e, _, q => by
    cases h with
    | bool _ => cases n <;> exact wpAny_pure q
    | int _ _ => cases n <;> exact wpAny_pure q
  | 0, .tup ks, v, Q, h, e, hd, q => by
    rw [NestedKey.depth] at hd
    omega
  | n + 1, .tup ks, v, Q, h, e, hd, q => by
    cases h with
    | @tup a o vs m ks ho hc hdt hall =>
      rw [nums] at e
      rw [NestedKey.depth] at hd
      unfold ofAClassStatement
      refine wpAny_bind (wpAny_typeOf (T := "tuple") ⟨o, ho, hc⟩ ?_)
      dsimp only
      have et : (("tuple" : String) == "tuple") = true := by decide
      simp only [et, if_true, Bool.not_true, Bool.false_eq_true, if_false, pure_bind]
      refine wpAny_bind (wpAny_seqItems ho hdt ?_)
      dsimp only
      refine wpAny_bind ?_
      rw [← Array.forIn_toList]
      have hmem := nest_mem hall
      refine wpAny_forIn_list _ (fun rest r s' => r.1 = none ∧ s' = s ∧ ∀ y ∈ rest, y ∈ vs.toList) _ ?_ ?_ _ _ ⟨rfl, rfl, fun y hy => hy⟩
      · intro y rest r s' hh
        obtain ⟨_, hs, hin⟩ := hh
        rw [hs]
        obtain ⟨k, hk, hky⟩ := hmem y (hin y List.mem_cons_self)
        refine wpAny_bind (cls_nest n k y hky (numsAll_mem e k hk) (depthAll_mem (by omega) k hk) ?_)
        rw [if_neg Bool.false_ne_true]
        exact wpAny_pure ⟨rfl, rfl, fun z hz => hin z (List.mem_cons_of_mem _ hz)⟩
      · intro r s' hh
        obtain ⟨r1, r2⟩ := r
        obtain ⟨h1, hs, _⟩ := hh
        rw [hs]
        obtain rfl : r1 = none := h1
        exact wpAny_pure q
theorem val_nest : ∀ (n : Nat) (k : NestedKey) (v : Value) {Q : Bool → Shared → Prop}, NestedIs s.heap k v → nums k = true → k.depth ≤ n → Q true s → wpAny (model P w) A (hashByValue n v) Q E s
  | n, .none, v, Q, h, e, _, q => by cases e
  | n, .text _, v, Q, h, e, _, q => by cases e
  | n, .num i, v, Q, h, e, _, q => by
    cases h with
    | bool _ => cases n <;> exact wpAny_pure q
    | int _ _ => cases n <;> exact wpAny_pure q
  | 0, .tup ks, v, Q, h, e, hd, q => by
    rw [NestedKey.depth] at hd
    omega
  | n + 1, .tup ks, v, Q, h, e, hd, q => by
    cases h with
    | @tup a o vs m ks ho hc hdt hall =>
      rw [nums] at e
      rw [NestedKey.depth] at hd
      unfold hashByValue
      refine wpAny_bind (wpAny_specialOf (T := "tuple") ⟨o, ho, hc⟩ PySem.F.slot_tuple_hash.lookup ?_)
      show wpAny _ _ (seqItems? (.ref a) >>= _) _ _ s
      refine wpAny_bind (wpAny_seqItems ho hdt ?_)
      refine wpAny_bind ?_
      show wpAny _ _ (forIn vs _ _) _ _ s
      rw [← Array.forIn_toList]
      have hmem := nest_mem hall
      refine wpAny_forIn_list _ (fun rest r s' => r.1 = none ∧ s' = s ∧ ∀ y ∈ rest, y ∈ vs.toList) _ ?_ ?_ _ _ ⟨rfl, rfl, fun y hy => hy⟩
      · intro y rest r s' hh
        obtain ⟨_, hs, hin⟩ := hh
        rw [hs]
        obtain ⟨k, hk, hky⟩ := hmem y (hin y List.mem_cons_self)
        refine wpAny_bind (val_nest n k y hky (numsAll_mem e k hk) (depthAll_mem (by omega) k hk) ?_)
        simp only [Bool.not_true, Bool.false_eq_true, if_false]
        exact wpAny_pure ⟨rfl, rfl, fun z hz => hin z (List.mem_cons_of_mem _ hz)⟩
      · intro r s' hh
        obtain ⟨r1, r2⟩ := r
        obtain ⟨h1, hs, _⟩ := hh
        rw [hs]
        obtain rfl : r1 = none := h1
        exact wpAny_pure q
end
end K49
namespace K49
open PySem PySem.Spec PySem.W PyProof.Rows L2
/-- such a key stands at b -/
def At (P : Program) (w : World) (h : Heap) (k : NestedKey) (b : Addr) : Prop := (nestedKind P w).is h k b ∧ nums k = true
section
variable {P : Program} {w : World} {A : Around} {E : Value → Shared → Prop} {s : Shared}
theorem At.cls {k : NestedKey} {b : Addr} {Q : Bool → Shared → Prop} (h : At P w s.heap k b) (q : Q false s) : wpAny (model P w) A (ofAClassStatement 8 (.ref b)) Q E s := cls_nest 8 k _ h.1.1 h.2 h.1.2 q
theorem At.val {k : NestedKey} {b : Addr} {Q : Bool → Shared → Prop} (h : At P w s.heap k b) (q : Q true s) : wpAny (model P w) A (hashByValue 8 (.ref b)) Q E s := val_nest 8 k _ h.1.1 h.2 h.1.2 q
theorem At.quiet {k : NestedKey} {b : Addr} {Q : Bool → Shared → Prop} (h : At P w s.heap k b) (q : Q true s) : wpAny (model P w) A (eqIsQuiet 8 (.ref b)) Q E s := (nestedKind P w).quiet h.1 q
/-- a search among such keys is not to be seen -/
theorem unseen {k : NestedKey} {b : Addr} {ys : List Value} {Q : Bool → Shared → Prop} (h : At P w s.heap k b) (hy : ∀ y ∈ ys, ∃ k' c, y = Value.ref c ∧ At P w s.heap k' c) (q : Q false s) : wpAny (model P w) A (searchCouldBeSeen (.ref b) ys) Q E s := by
  unfold searchCouldBeSeen
  refine wpAny_bind (wpAny_forIn_list _ (fun rest r s' => r.1 = none ∧ s' = s ∧ ∀ y ∈ rest, ∃ k' c, y = Value.ref c ∧ At P w s.heap k' c) _ (fun y rest r s' hh => ?_) (fun r s' hh => ?_) _ _ ⟨rfl, rfl, hy⟩)
  · obtain ⟨_, hs, hin⟩ := hh
    rw [hs]
    obtain ⟨k', c, rfl, hc⟩ := hin y List.mem_cons_self
    have next : (none : Option Bool) = none ∧ s = s ∧ ∀ z ∈ rest, ∃ k' c, z = Value.ref c ∧ At P w s.heap k' c := ⟨rfl, rfl, fun z hz => hin z (List.mem_cons_of_mem _ hz)⟩
    dsimp only
    split
    · exact wpAny_pure next
    · refine wpAny_bind (h.quiet ?_)
      rw [if_neg (by decide)]
      refine wpAny_bind (hc.quiet ?_)
      rw [if_neg (by decide)]
      refine wpAny_bind (h.cls ?_)
      rw [if_neg (by decide)]
      refine wpAny_bind (hc.cls ?_)
      rw [if_neg (by decide)]
      exact wpAny_pure next
  · obtain ⟨r1, r2⟩ := r
    obtain ⟨h1, hs, _⟩ := hh
    rw [hs]
    obtain rfl : r1 = none := h1
    exact wpAny_pure q
end
end K49
namespace K49
open PySem PySem.Spec PySem.W PyProof.Rows L2
/-! ## a set of nested tuples -/
/-- where the way of a hash stands after c steps -/
def pr (m : Nat) (H : Int) (c : Nat) : SetTable.Probe := nth m (runAt m (SetTable.bits H % (m + 1)) (SetTable.bits H)) c
theorem pr_way (m : Nat) (H : Int) (c : Nat) : (pr m H c).j = way m H c := rfl
theorem pr_add (m : Nat) (H : Int) (c q : Nat) : nth m (pr m H c) q = pr m H (c + q) := (nth_add m c _ q).symm
theorem nth_dm (m : Nat) : ∀ (n : Nat) (p : SetTable.Probe), p.dummy = none → (nth m p n).dummy = none
  | 0, _, h => h
  | n + 1, p, h => nth_dm m n (adv m p) (by unfold adv; split <;> exact h)
theorem pr_dm (m : Nat) (H : Int) (c : Nat) : (pr m H c).dummy = none := nth_dm m c _ rfl
def rowN (w : World) (L : List (NestedKey × Addr)) : List (Int × Value) := L.map fun q => (q.1.hash w, Value.ref q.2)
structure NS (P : Program) (w : World) (h : Heap) (a : Addr) (L : List (NestedKey × Addr)) (es : Array (Int × Value)) (ep : Nat) (t : SetTable) : Prop where
  ob : ∃ o, h.get? a = some o ∧ o.ExactSet ∧ o.data = .set es ep t
  rw_ : es.toList = rowN w L
  tb : TabOk t (L.map fun q => q.1.hash w)
  one : (L.map (·.1)).Nodup
  mem : ∀ q ∈ L, At P w h q.1 q.2
  pl : t.plain = true
  ld : w.params.followText "set-order" = true ∨ t.led = true
  rm : L.length * 5 < t.mask * 3
  lt : L.length < 64
section
variable {P : Program} {w : World} {A : Around} {E : Value → Shared → Prop} {s : Shared} {a : Addr} {L : List (NestedKey × Addr)} {es : Array (Int × Value)} {ep : Nat} {t : SetTable}
theorem NS.len (R : NS P w s.heap a L es ep t) : es.size = L.length := by
  have h := congrArg List.length R.rw_
  rwa [rowN, List.length_map, Array.length_toList] at h
theorem NS.pls (R : NS P w s.heap a L es ep t) : t.place.size = L.length := by
  have h := R.tb.sz
  rwa [List.length_map] at h
theorem NS.fit (R : NS P w s.heap a L es ep t) : t.fits es.size = true := by
  have h1 := R.len
  have h2 := R.pls
  have h3 := R.rm
  rw [SetTable.fits, SetTable.fill, R.tb.dm, Bool.and_eq_true]
  exact ⟨beq_iff_eq.mpr (by omega), decide_eq_true (by show t.place.size + 0 ≤ t.mask; omega)⟩
theorem NS.ent (R : NS P w s.heap a L es ep t) {i : Nat} {q : NestedKey × Addr} (h : L[i]? = some q) : es[i]? = some (q.1.hash w, Value.ref q.2) := by
  rw [← Array.getElem?_toList, R.rw_, rowN, List.getElem?_map, h]
  rfl
theorem NS.still (R : NS P w s.heap a L es ep t) : ¬ t.gaveWay = true := by
  rw [SetTable.gaveWay, mask_odd R.tb.mok]
  decide
end
end K49
namespace K49
open PySem PySem.Spec PySem.W PyProof.Rows L2
section
variable {P : Program} {w : World} {A : Around} {E : Value → Shared → Prop} {s : Shared} {a : Addr} {L : List (NestedKey × Addr)} {es : Array (Int × Value)} {ep : Nat} {t : SetTable}
/-- the search, from the c-th step of the way on; K is the first empty slot -/
theorem look_on (R : NS P w s.heap a L es ep t) {x : Addr} {k : NestedKey} (hx : At P w s.heap k x) (hu : A.units + 8 < cLine) {H : Int} (hH : k.hash w = H) {K : Nat} (k1 : K < 10 * SetTable.turns t.mask) (k2 : way t.mask H K ∉ t.place.toList)
    (k3 : ∀ c, c < K → way t.mask H c ∈ t.place.toList) {Q : SetFound → Shared → Prop} (yes : k ∈ L.map (·.1) → Q (.there none) s) (no : k ∉ L.map (·.1) → Q (.free (way t.mask H K) false) s) :
    ∀ (f c : Nat) (from_ : Option SetTable.Probe), from_.getD (t.probeStart H) = pr t.mask H c → c ≤ K → K < f + c →
      (∀ (i : Nat) q, L[i]? = some q → q.1 = k → ∃ c', c ≤ c' ∧ c' < K ∧ t.place.toList[i]? = some (way t.mask H c')) → wpAny (model P w) A (setSearchFrom a (.ref x) H true f from_) Q E s := by
  obtain ⟨o, ho, hex, hd⟩ := R.ob
  have hat : ∀ (i : Nat) q, L[i]? = some q → (fun i => (es[i]?.map (·.1)).getD 0) i = q.1.hash w := fun i q hq => by
    show (es[i]?.map (·.1)).getD 0 = _
    rw [R.ent hq]
    rfl
  intro f
  induction f with
  | zero => intro c _ _ h1 h2; omega
  | succ f ih =>
    intro c from_ hfrom hc hf hre
    rw [setSearchFrom_succ]
    refine wpAny_bind (wpAny_setState_of ho hd R.fit ?_)
    dsimp only
    refine wp_if_neg R.still ?_
    have jq : ∀ q, (nth t.mask (pr t.mask H c) q).j = way t.mask H (c + q) := fun q => by rw [pr_add]; rfl
    have spec := go_spec t R.tb.ris R.tb.dm (fun i => (es[i]?.map (·.1)).getD 0) H (10 * SetTable.turns t.mask) (K - c) (pr t.mask H c) (pr_dm _ _ _) (by omega) (fun q hq => by rw [jq]; exact k3 _ (by omega)) (by rw [jq, Nat.add_sub_cancel' hc]; exact k2)
    rcases spec with ⟨q, i, hq, hi, _, hno, hpr⟩ | ⟨hno, hpr⟩
    · -- one of this hash
      rw [jq] at hi
      rw [jq, pr_add] at hpr
      have e1 : t.probe (fun i => (es[i]?.map (·.1)).getD 0) H (from_.getD (t.probeStart H)) = some (.candidate (way t.mask H (c + q)) i (pr t.mask H (c + (q + 1)))) := by
        rw [hfrom]
        exact hpr
      rw [e1]
      dsimp only
      obtain ⟨r, hr⟩ : ∃ r, L[i]? = some r := by
        have h1 := (List.getElem?_eq_some_iff.mp hi).1
        rw [Array.length_toList, R.pls] at h1
        exact ⟨_, List.getElem?_eq_getElem h1⟩
      have hrL := List.mem_of_getElem? hr
      have hslot : t.slot (way t.mask H (c + q)) = .live i := slot_live R.tb.ris hi
      have rest : wpAny (model P w) A (searchRest a (.ref x) H true f es t (way t.mask H (c + q)) i (pr t.mask H (c + (q + 1)))) Q E s := by
        rw [searchRest, R.ent hr]
        dsimp only
        refine wpAny_bind (wpAny_holding ((nestedKind P w).eqBool hu (R.mem r hrL).1 hx.1 (wpAny_bind (wpAny_setState_of ho hd R.fit ?_))))
        dsimp only
        by_cases hk : r.1 = k
        · refine wp_if_pos (by simp [hk]) (wpAny_pure (yes (List.mem_map.mpr ⟨r, hrL, hk⟩)))
        · refine wp_if_neg (by simp [hk]) ?_
          rw [sameMem]
          dsimp only
          rw [if_pos rfl, hslot]
          dsimp only
          rw [R.ent hr]
          dsimp only
          refine wpAny_bind (wpAny_isSame_ref_self (wpAny_bind (wpAny_pure ?_)))
          rw [if_pos rfl]
          dsimp only
          refine wp_if_neg (by simp [hk]) (ih (c + (q + 1)) _ rfl (by omega) (by omega) fun i0 r0 h0 hk0 => ?_)
          obtain ⟨c', a1, a2, a3⟩ := hre i0 r0 h0 hk0
          refine ⟨c', ?_, a2, a3⟩
          have hh0 : (fun i => (es[i]?.map (·.1)).getD 0) i0 = H := (hat i0 r0 h0).trans (by rw [hk0, hH])
          rcases Nat.lt_trichotomy c' (c + q) with z | z | z
          · exact absurd hh0 (hno (c' - c) i0 (by omega) (by rw [jq, Nat.add_sub_cancel' a1]; exact a3))
          · rw [z] at a3
            have s0 := slot_live R.tb.ris a3
            rw [hslot] at s0
            injection s0 with s0
            rw [← s0, hr] at h0
            exact absurd ((congrArg Prod.fst (Option.some.inj h0)).trans hk0) hk
          · omega
      by_cases hl : t.led = true
      · exact wp_if_neg (by simp [hl]) rest
      · refine wp_if_pos (by simp [hl]) (wpAny_bind (unseen hx (fun y hy => ?_) (wp_if_neg Bool.false_ne_true rest)))
        obtain ⟨e, he, ee⟩ := List.mem_map.mp hy
        have he2 : e ∈ es.toList := by
          have : e ∈ es ∧ e.1 = H := by simpa using he
          simpa using this.1
        rw [R.rw_, rowN] at he2
        obtain ⟨r2, hr2, rfl⟩ := List.mem_map.mp he2
        exact ⟨r2.1, r2.2, ee.symm, R.mem r2 hr2⟩
    · -- the empty slot
      have e1 : t.probe (fun i => (es[i]?.map (·.1)).getD 0) H (from_.getD (t.probeStart H)) = some (.empty (way t.mask H K) none) := by
        rw [jq, Nat.add_sub_cancel' hc] at hpr
        rw [hfrom]
        exact hpr
      rw [e1]
      dsimp only
      refine wpAny_pure (no fun hm => ?_)
      obtain ⟨r, hr, hk⟩ := List.mem_map.mp hm
      obtain ⟨i, hi⟩ := List.mem_iff_getElem?.mp hr
      obtain ⟨c', a1, a2, a3⟩ := hre i r hi hk
      refine hno (c' - c) i (by omega) (by rw [jq, Nat.add_sub_cancel' a1]; exact a3) ?_
      exact (hat i r hi).trans (by rw [hk, hH])
end
end K49
namespace K49
open PySem PySem.Spec PySem.W PyProof.Rows L2
section
variable {P : Program} {w : World} {A : Around} {E : Value → Shared → Prop} {s : Shared} {a : Addr} {L : List (NestedKey × Addr)} {es : Array (Int × Value)} {ep : Nat} {t : SetTable}
/-- the search that comes ahead of an add -/
theorem look (R : NS P w s.heap a L es ep t) {x : Addr} {k : NestedKey} (hx : At P w s.heap k x) (hu : A.units + 8 < cLine) {Q : SetFound → Shared → Prop} (yes : k ∈ L.map (·.1) → Q (.there none) s)
    (no : ∀ K, k ∉ L.map (·.1) → way t.mask (k.hash w) K ∉ t.place.toList → (∀ c, c < K → way t.mask (k.hash w) c ∈ t.place.toList) → Q (.free (way t.mask (k.hash w) K) false) s) : wpAny (model P w) A (setSearch a (.ref x) (k.hash w) true) Q E s := by
  have h1 := R.rm
  obtain ⟨K, k1, k2, k3⟩ := R.tb.first (by rw [List.length_map]; omega) (k.hash w)
  have k4 : K < 100000 := by
    have : SetTable.turns t.mask ≤ 142 := by
      rw [SetTable.turns]
      rcases R.tb.mok with e | e | e <;> omega
    omega
  rw [setSearch]
  refine look_on R hx hu rfl k1 k2 k3 yes (fun h => no K h k2 k3) 100000 0 none rfl (Nat.zero_le _) (by omega) fun i q hq hk => ?_
  have hi : (L.map fun q => q.1.hash w)[i]? = some (k.hash w) := by
    rw [List.getElem?_map, hq, ← hk]
    rfl
  have hl : i < t.place.toList.length := by
    rw [Array.length_toList, R.pls]
    exact (List.getElem?_eq_some_iff.mp hq).1
  obtain ⟨c, c1, c2⟩ := R.tb.before k2 hi (List.getElem?_eq_getElem hl)
  exact ⟨c, Nat.zero_le _, c1, by rw [List.getElem?_eq_getElem hl, c2]⟩
/-- such a key stays where the set alone changes -/
theorem At.same {h h' : Heap} {k : NestedKey} {b : Addr} {o : Obj} (x : At P w h k b) (ho : h.get? a = some o) (hd : o.data = .set es ep t) (hs : Heap.SameBut a h h') : At P w h' k b :=
  ⟨⟨NestedIs.at (fun c u vs n hc hv => (hs.2 c fun e => by
    rw [e, ho] at hc
    rw [Option.some.inj hc, hv] at hd
    cases hd).trans hc) k _ x.1.1, x.1.2⟩, x.2⟩
theorem At.keep {h h' : Heap} {k : NestedKey} {b : Addr} (x : At P w h k b) (hk : ∀ c o, h.get? c = some o → h'.get? c = some o) : At P w h' k b := ⟨⟨NestedIs.at (fun c u vs n hc hv => hk c u hc) k _ x.1.1, x.1.2⟩, x.2⟩
end
end K49
namespace K49
open PySem PySem.Spec PySem.W PyProof.Rows L2
/-! ## the table laid anew -/
theorem fm_rows {α β : Type} {es : Array β} {L : List α} {f : α → β} (hr : es.toList = L.map f) : ∀ l : List Nat, (∀ i ∈ l, i < L.length) → l.filterMap (fun i => es[i]?) = (l.filterMap fun i => L[i]?).map f
  | [], _ => rfl
  | i :: l, h => by
    have hi := h i List.mem_cons_self
    have e1 : L[i]? = some L[i] := List.getElem?_eq_getElem hi
    have e2 : es[i]? = some (f L[i]) := by rw [← Array.getElem?_toList, hr, List.getElem?_map, e1]; rfl
    rw [List.filterMap_cons_some e2, List.filterMap_cons_some e1, List.map_cons, fm_rows hr l fun j hj => h j (List.mem_cons_of_mem _ hj)]
theorem fm_range {α : Type} (L : List α) : (List.range L.length).filterMap (fun i => L[i]?) = L := by
  have key : ∀ n, n ≤ L.length → (List.range n).filterMap (fun i => L[i]?) = L.take n := by
    intro n
    induction n with
    | zero => intro _; rfl
    | succ n ih =>
      intro hn
      have e1 : L[n]? = some L[n] := List.getElem?_eq_getElem hn
      rw [List.range_succ, List.filterMap_append, ih (by omega), List.filterMap_cons_some e1, List.take_succ, e1]
      rfl
  rw [key _ (Nat.le_refl _), List.take_length]
theorem fm_keys {α : Type} {L : List α} {g : α → Int} {hs : Array Int} (h : hs.toList = L.map g) : ∀ l : List Nat, (∀ i ∈ l, i < L.length) → (l.filterMap fun i => L[i]?).map g = l.map fun i => hs.getD i 0
  | [], _ => rfl
  | i :: l, hl => by
    have hi := hl i List.mem_cons_self
    have e1 : L[i]? = some L[i] := List.getElem?_eq_getElem hi
    have e2 : hs[i]? = some (g L[i]) := by rw [← Array.getElem?_toList, h, List.getElem?_map, e1]; rfl
    rw [List.filterMap_cons_some e1, List.map_cons, List.map_cons, fm_keys h l fun j hj => hl j (List.mem_cons_of_mem _ hj)]
    congr 1
    rw [Array.getD_eq_getD_getElem?, e2]
    rfl
section
variable {P : Program} {w : World} {A : Around} {E : Value → Shared → Prop} {s : Shared} {a : Addr} {L : List (NestedKey × Addr)} {es : Array (Int × Value)} {ep : Nat} {t : SetTable}
theorem relay_n {o : Obj} (ho : s.heap.get? a = some o) (hex : o.ExactSet) (hd : o.data = .set es ep t) (hr : es.toList = rowN w L) (hsz : t.place.size = L.length) (hdm : t.dummies = #[]) (hfl : L.length ≤ t.mask) (one : (L.map (·.1)).Nodup)
    (mem : ∀ q ∈ L, At P w s.heap q.1 q.2) (pl : t.plain = true) (ld : w.params.followText "set-order" = true ∨ t.led = true) (lt : L.length < 64) {wanted M : Nat} (hw : SetTable.sizeAbove wanted - 1 = M) (hM : MaskOk M) (hw2 : SetTable.sizeAbove wanted ≤ 128)
    (hn : L.length * 5 < M * 3) {Q : Unit → Shared → Prop} (hQ : ∀ h' L' es' ep' t', Heap.SameBut a s.heap h' → NS P w h' a L' es' ep' t' → L'.Perm L → Q () { s with heap := h' }) : wpAny (model P w) A (setRelay a wanted) Q E s := by
  have hsl : es.size = L.length := by
    have h := congrArg List.length hr
    rwa [rowN, List.length_map, Array.length_toList] at h
  have hfits : t.fits es.size = true := by
    rw [SetTable.fits, SetTable.fill, hdm, Bool.and_eq_true]
    exact ⟨beq_iff_eq.mpr (by omega), decide_eq_true (by show t.place.size + 0 ≤ t.mask; omega)⟩
  obtain ⟨t', order, e, hp, T', em, el, ep', ed⟩ := relaid_ok t (hs := es.map (·.1)) (wanted := wanted) hw hM (by rw [Array.size_map, hsl]; omega)
  rw [Array.size_map, hsl] at hp
  have hin : ∀ i ∈ order.toList, i < L.length := fun i hi => List.mem_range.mp (hp.mem_iff.mp hi)
  have hkeys : (es.map (·.1)).toList = L.map fun q => q.1.hash w := by
    rw [Array.toList_map, hr, rowN, List.map_map]
    rfl
  have r1 := fm_rows (f := fun q : NestedKey × Addr => (q.1.hash w, Value.ref q.2)) hr order.toList hin
  have r2 : (order.toList.filterMap fun i => L[i]?).Perm L := by
    have h := hp.filterMap fun i => L[i]?
    rwa [fm_range] at h
  rw [← fm_keys hkeys order.toList hin] at T'
  generalize order.toList.filterMap (fun i => L[i]?) = L2 at r1 r2 T'
  have r3 : (order.filterMap (es[·]?)).toList = rowN w L2 := by
    rw [Array.toList_filterMap]
    exact r1
  have hs2 : (order.filterMap (es[·]?)).size = es.size := by
    have h := congrArg List.length r3
    rwa [rowN, List.length_map, Array.length_toList, r2.length_eq, ← hsl] at h
  rw [setRelay_eq]
  refine wpAny_bind (wpAny_setState_of ho hd hfits ?_)
  dsimp only
  refine wp_if_neg (by rw [sizeLine_eq]; omega) ?_
  rw [e]
  dsimp only
  refine wpAny_bind (wp_if_neg (by rw [hs2]; simp) (wpAny_pure ?_))
  dsimp only
  refine wpAny_storeSet_of ho hd ?_ (by rw [hs2, hsl, sizeLine_eq]; omega)
  have sb : Heap.SameBut a s.heap (s.heap.update a (Obj.putSet (order.filterMap (es[·]?)) t')) := Heap.SameBut.update ..
  exact hQ _ L2 _ (ep + 1) t' sb ⟨⟨_, store_at ho hd, ⟨hex.1, hex.2.1, hex.2.2⟩, rfl⟩, r3, T', (r2.map (·.1)).nodup_iff.mpr one, fun q hq => (mem q (r2.mem_iff.mp hq)).same ho hd sb, by rw [ep']; exact pl, by rw [el]; exact ld, by rw [r2.length_eq, em]; exact hn, by rw [r2.length_eq]; exact lt⟩ r2
end
end K49
namespace K49
open PySem PySem.Spec PySem.W PyProof.Rows L2
section
variable {P : Program} {w : World} {A : Around} {E : Value → Shared → Prop} {s : Shared} {a : Addr} {L : List (NestedKey × Addr)} {es : Array (Int × Value)} {ep : Nat} {t : SetTable}
/-- a member is added -/
theorem add_n (R : NS P w s.heap a L es ep t) {x : Addr} {k : NestedKey} (hx : At P w s.heap k x) (hu : A.units + 8 < cLine) (hf : L.length + 1 < 18) {Q : Bool → Shared → Prop}
    (hQ : ∀ b h' L' es' ep' t', Heap.SameBut a s.heap h' → NS P w h' a L' es' ep' t' → (k ∈ L.map (·.1) → L' = L) → (k ∉ L.map (·.1) → L'.Perm ((k, x) :: L)) → Q b { s with heap := h' }) : wpAny (model P w) A (setAddHashed a (.ref x) (k.hash w)) Q E s := by
  obtain ⟨o, ho, hex, hd⟩ := R.ob
  have hsl := R.len
  have hrm := R.rm
  rw [setAddHashed]
  refine wpAny_holding ?_
  rw [show (100000 : Nat) = 99999 + 1 from rfl, setAddHashedIn_succ]
  refine wpAny_bind (wpAny_setState_of ho hd R.fit ?_)
  dsimp only
  refine wp_if_neg (by simp [byScan, Value.scannable]) (wpAny_bind (look R hx hu (fun hm => wpAny_pure (hQ false s.heap L es ep t (Heap.SameBut.refl a s.heap) R (fun _ => rfl) fun z => absurd hm z)) fun K hm k2 k3 => ?_))
  dsimp only
  refine wpAny_bind (wpAny_setState_of ho hd R.fit ?_)
  dsimp only
  obtain ⟨q1, q2, q3, q4, q5, q6, _, _, q9⟩ := R.tb.put k2 k3
  have q7 : (t.put (way t.mask (k.hash w) K)).1.plain = true := by rw [q6]; exact R.pl
  generalize hpt : t.put (way t.mask (k.hash w) K) = pt at q1 q3 q4 q5 q6 q7 q9 ⊢
  obtain ⟨t1, p⟩ := pt
  dsimp only at q1 q3 q4 q5 q6 q7 q9 ⊢
  generalize SetTable.below t.place (way t.mask (k.hash w) K) = p0 at q1 q2 q3
  obtain rfl : p = p0 := q1
  rw [q7]
  refine wpAny_bind (hx.val ?_)
  rw [if_pos rfl]
  have pm : (L.take p ++ (k, x) :: L.drop p).Perm ((k, x) :: L) := by
    have h : (L.take p ++ (k, x) :: L.drop p).Perm ((k, x) :: (L.take p ++ L.drop p)) := List.perm_middle
    rwa [List.take_append_drop] at h
  have hlen : (L.take p ++ (k, x) :: L.drop p).length = L.length + 1 := pm.length_eq
  have hrows : (SetTable.insertAt es p (k.hash w, Value.ref x)).toList = rowN w (L.take p ++ (k, x) :: L.drop p) := by
    rw [SetTable.toList_insertAt, R.rw_, rowN, rowN, List.map_append, List.map_cons, List.map_take, List.map_drop]
  have htab : TabOk t1 ((L.take p ++ (k, x) :: L.drop p).map fun q => q.1.hash w) := by
    rw [List.map_append, List.map_cons, List.map_take, List.map_drop]
    exact q3
  have hone : ((L.take p ++ (k, x) :: L.drop p).map (·.1)).Nodup := (pm.map (·.1)).nodup_iff.mpr (List.nodup_cons.mpr ⟨hm, R.one⟩)
  have hes : (SetTable.insertAt es p (k.hash w, Value.ref x)).size = L.length + 1 := by
    have h := congrArg List.length hrows
    rwa [rowN, List.length_map, Array.length_toList, hlen] at h
  generalize SetTable.insertAt es p (k.hash w, Value.ref x) = es1 at hrows hes ⊢
  generalize L.take p ++ (k, x) :: L.drop p = L1 at pm hlen htab hone hrows
  refine wpAny_bind (wpAny_storeSet_of ho hd ?_ (by rw [hes, sizeLine_eq]; omega))
  have sb : Heap.SameBut a s.heap (s.heap.update a (Obj.putSet es1 t1)) := Heap.SameBut.update ..
  have ho1 := store_at (es' := es1) (t' := t1) ho hd
  generalize s.heap.update a (Obj.putSet es1 t1) = h1 at sb ho1 ⊢
  have hmem : ∀ q ∈ L1, At P w h1 q.1 q.2 := fun q hq => (List.mem_cons.mp (pm.mem_iff.mp hq)).elim (fun e => by rw [e]; exact hx.same ho hd sb) fun h => (R.mem q h).same ho hd sb
  have hled : w.params.followText "set-order" = true ∨ t1.led = true := by rw [q5]; exact R.ld
  by_cases hfull : t1.tooFull = true
  · refine wp_if_pos (by rw [hfull]; rfl) (wpAny_bind ?_)
    have hf2 := hfull
    rw [SetTable.tooFull, decide_eq_true_eq, q9, List.length_map] at hf2
    have h4 : t.mask = 7 ∧ L.length = 4 := by
      rcases R.tb.mok with e | e | e
      · rw [q4, e] at hf2
        rw [e] at hrm
        exact ⟨e, by omega⟩
      · rw [q4, e] at hf2
        omega
      · rw [q4, e] at hf2
        omega
    have hps : t1.place.size = L1.length := by
      have h := htab.sz
      rwa [List.length_map] at h
    have hwant : SetTable.sizeAbove (SetTable.grown (es.size + 1)) = 32 := by rw [hsl, h4.2]; exact size_20
    refine relay_n (s := { s with heap := h1 }) (M := 31) ho1 ⟨hex.1, hex.2.1, hex.2.2⟩ rfl hrows hps htab.dm (by rw [q4, hlen]; omega) hone hmem q7 hled (by rw [hlen]; omega) (by rw [hwant]) (.inr (.inl rfl)) (by rw [hwant]; decide) (by rw [hlen]; omega) fun h2 L2 es2 ep2 t2 sb2 R2 pm2 => ?_
    exact wpAny_pure (hQ true h2 L2 es2 ep2 t2 (sb.trans sb2) R2 (fun z => absurd z hm) fun _ => pm2.trans pm)
  · refine wp_if_neg (by simpa using hfull) (wpAny_pure (hQ true h1 L1 es1 (ep + 1) t1 sb ⟨⟨_, ho1, ⟨hex.1, hex.2.1, hex.2.2⟩, rfl⟩, hrows, htab, hone, hmem, q7, hled, ?_, by rw [hlen]; omega⟩ (fun z => absurd z hm) fun _ => pm))
    have hf2 := hfull
    rw [SetTable.tooFull, decide_eq_true_eq, q9, List.length_map] at hf2
    rw [hlen]
    omega
end
end K49
namespace K49
open PySem PySem.Spec PySem.W PyProof.Rows L2
section
variable {P : Program} {w : World} {A : Around} {E : Value → Shared → Prop}
theorem NS.stay {h h' : Heap} {a : Addr} {L : List (NestedKey × Addr)} {es : Array (Int × Value)} {ep : Nat} {t : SetTable} (R : NS P w h a L es ep t) (ha : ∀ o, h.get? a = some o → h'.get? a = some o) (hm : ∀ q ∈ L, At P w h' q.1 q.2) : NS P w h' a L es ep t :=
  ⟨let ⟨o, ho, r⟩ := R.ob; ⟨o, ha o ho, r⟩, R.rw_, R.tb, R.one, hm, R.pl, R.ld, R.rm, R.lt⟩
/-- what the set holds behind i items -/
structure Upto (ks : List (NestedKey × Addr)) (i : Nat) (L : List (NestedKey × Addr)) : Prop where
  sub : ∀ q ∈ L, q ∈ ks
  all : ∀ k, k ∈ L.map (·.1) ↔ k ∈ (ks.take i).map (·.1)
  len : L.length ≤ i
theorem upto_next {ks L L' : List (NestedKey × Addr)} {i : Nat} {q : NestedKey × Addr} (g : Upto ks i L) (h : ks[i]? = some q) (c1 : q.1 ∈ L.map (·.1) → L' = L) (c2 : q.1 ∉ L.map (·.1) → L'.Perm (q :: L)) : Upto ks (i + 1) L' := by
  have ht : (ks.take (i + 1)).map (·.1) = (ks.take i).map (·.1) ++ [q.1] := by rw [List.take_succ, h, List.map_append]; rfl
  by_cases c : q.1 ∈ L.map (·.1)
  · obtain rfl := c1 c
    refine ⟨g.sub, fun k => ?_, Nat.le_succ_of_le g.len⟩
    rw [ht, List.mem_append, ← g.all, List.mem_singleton]
    exact ⟨.inl, fun z => z.elim id fun e => e ▸ c⟩
  · have pm := c2 c
    refine ⟨fun r hr => ?_, fun k => ?_, by rw [pm.length_eq]; exact Nat.succ_le_succ g.len⟩
    · rcases List.mem_cons.mp (pm.mem_iff.mp hr) with rfl | hr
      · exact List.mem_of_getElem? h
      · exact g.sub r hr
    · rw [ht, List.mem_append, ← g.all, List.mem_singleton, (pm.map (·.1)).mem_iff, List.map_cons, List.mem_cons]
      exact Or.comm
/-- the loop of set.update -/
theorem update_n {I : Addr} {fp wr : List Addr} {G : Array GenState → Array GenState → Prop} {n : Nat} {Pv : Nat → Value → Prop} {St : Nat → Shared → Prop} {R : Result → Shared → Prop} (W : WalksS P w A.in1 I fp wr G n Pv St) (S : Addr) (hSf : S ∉ fp)
    (ks : List (NestedKey × Addr)) (hn : n = ks.length) (hf : ks.length ≤ 15) (hval : ∀ i v, Pv i v → ∃ q, ks[i]? = some q ∧ v = .ref q.2) (h0 : Heap) (hk : ∀ q ∈ ks, At P w h0 q.1 q.2) (hS0 : h0.get? S = none) (hw0 : ∀ b ∈ wr, h0.get? b = none) (hu : A.in1.units + 8 < cLine) :
    ∀ (j i : Nat) (s : Shared), i + j = n → St i s → (∀ b o, h0.get? b = some o → s.heap.get? b = some o) → (∃ L es ep t, NS P w s.heap S L es ep t ∧ Upto ks i L) →
      (∀ s' L es ep t, Moved (S :: wr) G s s' → NS P w s'.heap S L es ep t → Upto ks n L → (∀ b o, h0.get? b = some o → s'.heap.get? b = some o) → R (.ok (.ret .none)) s') → codeAny (model P w) A (.builtin "set.update.loop" ⟨[.ref S, .ref I], []⟩) R s := by
  have hSw : S ∉ wr := fun h => hSf (W.sub _ h)
  have hup : ∀ b ∈ wr, b ∈ S :: wr := fun b hb => List.mem_cons_of_mem _ hb
  have still : ∀ {s s' : Shared}, Moved wr G s s' → (∀ b o, h0.get? b = some o → s.heap.get? b = some o) → ∀ b o, h0.get? b = some o → s'.heap.get? b = some o := fun hm hp b o e =>
    hm.heap b o (fun hb => by rw [hw0 b hb] at e; cases e) (hp b o e)
  intro j
  induction j with
  | zero =>
    intro i s hij hst hp ⟨L, es, ep, t, hS, g⟩ hR
    obtain rfl : i = n := hij
    refine codeAny_builtin F.entry_set_update_loop ?_
    rw [Around.under_plainId F.plain_set_update_loop _]
    refine wpAny_bind (W.done s _ _ hst fun s' hm => ?_)
    have hp' := still hm hp
    exact wpAny_pure (hR s' L es ep t (hm.mono hup) (hS.stay (fun o e => hm.heap S o hSw e) fun q hq => (hk q (g.sub q hq)).keep hp') g hp')
  | succ j ih =>
    intro i s hij hst hp ⟨L, es, ep, t, hS, g⟩ hR
    refine codeAny_builtin F.entry_set_update_loop ?_
    rw [Around.under_plainId F.plain_set_update_loop _]
    refine wpAny_bind (W.item i s _ _ (by omega) hst fun v s' hP hst' hm => ?_)
    obtain ⟨q, hq, rfl⟩ := hval i v hP
    have hp' := still hm hp
    have hS' := hS.stay (fun o e => hm.heap S o hSw e) fun q hq => (hk q (g.sub q hq)).keep hp'
    have hx := (hk q (List.mem_of_getElem? hq)).keep hp'
    have hil := (List.getElem?_eq_some_iff.mp hq).1
    have hgl := g.len
    refine wpAny_bind (wpAny_holding ?_)
    rw [setAdd]
    refine wpAny_holding (wpAny_bind ((nestedKind P w).pyHash hu hx.1 ?_))
    refine add_n (s := { s' with toks := s'.toks + (nestedKind P w).draws q.1 }) hS' hx hu (by omega) fun b h' L' es' ep' t' sb hS2 c1 c2 => ?_
    have hp2 : ∀ b o, h0.get? b = some o → h'.get? b = some o := fun b o e => (sb.2 b (fun z => by rw [z, hS0] at e; cases e)).trans (hp' b o e)
    refine wpAny_pure ⟨plainId_quiet F.plain_set_update_loop _, ih (i + 1) _ (by omega) (W.frame _ s' _ _ hst' (Nat.le_add_right _ _) fun b hb o e => ?_) hp2 ⟨L', es', ep', t', hS2, upto_next g hq c1 c2⟩ fun s'' L2 es2 ep2 t2 hm2 hS3 g3 hp3 => ?_⟩
    · exact (sb.2 b fun h : b = S => hSf (by rw [← h]; exact hb)).trans e
    · exact hR s'' L2 es2 ep2 t2 (Moved.trans W.gtrans ((hm.mono hup).then_heap (Nat.le_add_right _ _) fun b o hb e => (sb.2 b fun h : b = S => hb (by rw [h]; exact List.mem_cons_self)).trans e) hm2) hS3 g3 hp3
end
end K49
namespace K49
open PySem PySem.Spec PySem.W PyProof.Rows L2
/-- what stands where set() has just been made -/
abbrev bare0 (w : World) : Obj := { cls := .type "set", dict := none, data := .set #[] 0 (.fresh 0 0 (!w.params.followText "set-order")) }
section
variable {P : Program} {w : World} {A : Around} {E : Value → Shared → Prop} {s : Shared}
theorem ns_bare {h : Heap} {a : Addr} (ho : h.get? a = some (bare0 w)) : NS P w h a [] #[] 0 (.fresh 0 0 (!w.params.followText "set-order")) :=
  have R := setTR_fresh (P := P) ho
  ⟨R.ob, rfl, R.tab, List.nodup_nil, fun q hq => (nomatch hq), R.plain, R.led, R.room, R.few⟩
theorem upto_0 (ks : List (NestedKey × Addr)) : Upto ks 0 [] := ⟨fun q hq => (nomatch hq), fun k => by simp, Nat.le_refl _⟩
theorem beyond {h : Heap} {b : Addr} (hb : h.objs.size ≤ b) : h.get? b = none := by
  cases q : h.get? b with
  | none => rfl
  | some o => exact absurd (Heap.lt_size q) (Nat.not_lt.mpr hb)
set_option maxHeartbeats 3200000 in
/-- set(a list of nested tuples) -/
theorem call_set_n {l : Addr} {its : Array Value} (ks : List (NestedKey × Addr)) {Q : Value → Shared → Prop} (hh : A.handled = none) (hl : s.heap.IsList l its) (hit : its.toList = ks.map fun q => Value.ref q.2)
    (hk : ∀ q ∈ ks, At P w s.heap q.1 q.2) (hf : ks.length ≤ 15) (hu : A.units + 11 < cLine)
    (h : ∀ (h' : Heap) (tk : Nat) L es ep t, NS P w h' s.heap.objs.size L es ep t → Upto ks ks.length L → (∀ b o, s.heap.get? b = some o → h'.get? b = some o) → Q (.ref s.heap.objs.size) { s with heap := h', toks := tk }) :
    wpAny (model P w) A (call (.type "set") [.ref l]) Q E s := by
  have hn : its.size = ks.length := by
    have z := congrArg List.length hit
    rwa [Array.length_toList, List.length_map] at z
  have ⟨_, _, m0⟩ := F.called_set.mro
  have m1 := F.called_set.made
  have m2 := F.called_set.sub
  have m3 := F.called_set.notType
  have m4 := F.called_set.canCreate
  have m5 := F.typeCall_set_1 (.ref l)
  refine wpAny_call (codeAny_of_tree (wpAny_pure ⟨Code.quiet_builtin _ (by decide +kernel), codeAny_builtin F.entry_type_call ?_⟩))
  rw [Around.under_plain (weight_type_call_type "set" [.ref l] []) rfl]
  repeat (any_goals (first | assumption | wp_step))
  refine codeAny_mono (code_set_led1 (.ref l) (E := E) (Q₁ := fun ob s1 => ob = .ref s.heap.objs.size ∧ s1 = { s with heap := s.heap.push (bare0 w) }) ⟨rfl, rfl⟩) fun r s1 hr => ?_
  rcases r with _ | fl
  · exact hr
  cases fl with
  | ret ob =>
    obtain ⟨rfl, rfl⟩ := hr
    have g0 : (s.heap.push (bare0 w)).get? s.heap.objs.size = some (bare0 w) := Heap.get?_push_size _ rfl
    have g1 : Shared.TypeIs { s with heap := s.heap.push (bare0 w) } (.ref s.heap.objs.size) "set" := ⟨_, g0, rfl⟩
    have m6 := F.called_set.init.lookup
    have m7 := F.called_set.init.bind (.ref s.heap.objs.size)
    repeat (any_goals (first | assumption | wp_step))
    refine codeAny_mono (codeAny_call_builtin (R := wants (fun r s2 => r = .none ∧ ∃ h' tk L es ep t, s2 = { s with heap := h', toks := tk } ∧ NS P w h' s.heap.objs.size L es ep t ∧ Upto ks ks.length L ∧ ∀ b o, s.heap.get? b = some o → h'.get? b = some o) E)
      F.called_set.init.plain F.entry_set_init (check_set_init_1 g1 ?_)) fun r2 s2 hr2 => ?_
    · obtain ⟨⟨oc, od, oda, os⟩, ho, hoc, nl, hod⟩ := hl
      simp only at hoc hod
      subst hoc hod
      have g2 : (s.heap.push (bare0 w)).get? l = some { cls := .type "list", dict := od, data := .seq its nl, slots := os } := Heap.get?_push_of_some _ ho
      have m8 := F.sub_list_set
      have m9 := F.sub_list_frozenset
      have m10 : (Value.type "list" == Value.type "dict") = false := by decide
      have gl : (s.heap.push (bare0 w)).IsList l its := ⟨_, g2, rfl, nl, rfl⟩
      have hls := Heap.lt_size ho
      have hz : (s.heap.push (bare0 w)).objs.size = s.heap.objs.size + 1 := Heap.size_push ..
      unfold Builtin.«set.__init__» noKeywords Builtin.Frozenset.updateFrom
      generalize hpi : pyIter = pi
      wp_walk
      subst hpi
      refine wpAny_pyIter_list gl (wpAny_bind (wpAny_runValue ?_))
      have hi : l ≠ (s.heap.push (bare0 w)).objs.size := fun z => Nat.lt_irrefl _ (Nat.lt_trans hls (by rw [z, hz]; exact Nat.lt_succ_self _))
      refine update_n (Walks.list (A := A.in1.in1.in1) (by simpa using hh) _ l hi its).toS s.heap.objs.size ?_ ks hn hf ?_ s.heap hk (beyond (Nat.le_refl _)) ?_ (by first | exact hu | omega) its.size 0 _ (Nat.zero_add _)
        ⟨⟨_, Heap.get?_push_size _ rfl, rfl, rfl⟩, gl.push _⟩ (fun b o e => Heap.get?_push_of_some _ (Heap.get?_push_of_some _ e)) ⟨[], #[], 0, _, ns_bare (Heap.get?_push_of_some _ g0), upto_0 ks⟩ ?_
      · rw [hz]
        intro z
        simp only [List.mem_cons, List.not_mem_nil, or_false] at z
        exact z.elim (fun z => Nat.succ_ne_self _ z.symm) fun z => Nat.lt_irrefl _ (z ▸ hls)
      · intro i v hv
        have z : its.toList[i]? = some v := by rw [Array.getElem?_toList]; exact hv
        rw [hit, List.getElem?_map] at z
        obtain ⟨q, e1, e2⟩ := Option.map_eq_some_iff.mp z
        exact ⟨q, e1, e2.symm⟩
      · intro b hb
        rw [List.mem_singleton.mp hb, hz]
        exact beyond (Nat.le_succ _)
      · intro s3 L es ep t hm hS g kp
        obtain ⟨h3, gs, dr, tk, os3⟩ := s3
        obtain rfl : gs = s.gens := hm.gens
        obtain rfl : dr = s.drawn := hm.drawn
        obtain rfl : os3 = s.os := hm.os
        rw [hn] at g
        exact wpAny_pure (wpAny_pure ⟨rfl, h3, tk, L, es, ep, t, rfl, hS, g, kp⟩)
    · rcases r2 with _ | fl2
      · exact hr2
      cases fl2 with
      | ret r =>
        obtain ⟨rfl, h', tk, L, es, ep, t, rfl, hS, g, kp⟩ := hr2
        repeat (any_goals (first | assumption | wp_step))
        exact h h' tk L es ep t hS g kp
      | _ => exact hr2.elim
  | _ => exact hr.elim
end
end K49
namespace K49
open PySem PySem.Spec PySem.W PyProof.Rows L2 Evl
/-! ## the keys of a table, of a set, gathered -/
section
variable {X : Cx}
def cNKeys (P : Program) (w : World) : V → Hp → (List V → Hp → Prop) → Prop := fun x H Q => ∃ (d : Addr) (o : Obj) (xs : List (NestedKey × Addr × V)), x = .ref d ∧ H d = some (DictN P w d o xs) ∧ Q (xs.map fun y => V.ref y.2.1) H
theorem vals_of_at : ∀ {xs : List (NestedKey × Addr × V)} {us : List Value}, us.length = xs.length → (∀ (i : Nat) y u, xs[i]? = some y → us[i]? = some u → u = Value.ref y.2.1) → Vals (xs.map fun y => V.ref y.2.1) us
  | [], [], _, _ => .nil
  | x :: xs, u :: us, h, f => .cons (f 0 x u rfl rfl) (vals_of_at (Nat.succ.inj h) fun i y v e1 e2 => f (i + 1) y v (by simpa using e1) (by simpa using e2))
theorem cl_nkeys (hc : X.calm = true) : CollR X (cNKeys X.prog X.w) := by
  intro pins s σ H x v E Q I rx h
  obtain ⟨d, o, xs, rfl, hd, q⟩ := h
  cases rx
  have D : DN X.prog X.w s.heap d o xs := (I.hok d _ hd).1
  obtain ⟨es, ep, hdt, hsz, hen⟩ := dn_entry D
  have hle := D.le
  refine kdu_collect (KdlSrc.rawDict (prog := X.prog) (w := X.w) (d := d) (es := es) (ep := ep) D.ne) (I.ok.hd hc) ⟨o, D.ob, D.ex, hdt⟩ (by rw [hsz]; exact sz_of (by omega)) fun h' tk acc hk hacc => ?_
  refine ⟨_, H, I.kept (t' := tk) hk, vals_of_at (by rw [Array.length_toList, hacc.1, hsz]) fun i y u h1 h2 => ?_, q⟩
  obtain ⟨en, e1, e2⟩ := hen i y h1
  obtain ⟨hi, e3⟩ := hacc.2 i u (by rw [← Array.getElem?_toList]; exact h2)
  rw [Array.getElem?_eq_getElem hi] at e1
  rw [e3, Option.some.inj e1, e2]
theorem perm_map_ex {α β : Type} {f : α → β} : ∀ {L : List α} {vs : List β}, vs.Perm (L.map f) → ∃ L' : List α, L'.Perm L ∧ vs = L'.map f
  | [], vs, h => ⟨[], List.Perm.refl _, List.Perm.eq_nil h⟩
  | a :: L, vs, h => by
    have hm : f a ∈ vs := h.mem_iff.mpr List.mem_cons_self
    obtain ⟨l1, l2, rfl⟩ := List.append_of_mem hm
    have h2 : (l1 ++ l2).Perm (L.map f) := by
      have h3 : (f a :: (l1 ++ l2)).Perm (f a :: L.map f) := List.perm_middle.symm.trans h
      exact h3.cons_inv
    obtain ⟨L', p1, p2⟩ := perm_map_ex h2
    obtain ⟨m1, m2, rfl, e1, e2⟩ := List.map_eq_append_iff.mp p2.symm
    exact ⟨m1 ++ a :: m2, List.perm_middle.trans (p1.cons a), by rw [List.map_append, List.map_cons, e1, e2]⟩
/-- a set of nested tuples: its members and where they stand -/
structure SNK (w : World) (h : Heap) (a : Addr) (L : List (NestedKey × Addr)) : Prop where
  ex : ∃ (es : Array (Int × Value)) (ep : Nat) (t : SetTable), (∃ o, h.get? a = some o ∧ o.ExactSet ∧ o.data = .set es ep t) ∧ es.toList.map (·.2) = L.map (fun q => Value.ref q.2) ∧ L.length < 64 ∧ t.fits es.size = true ∧ Ris t.place.toList ∧ (w.params.followText "set-order" = true ∨ t.led = true)
def SetN (w : World) (a : Addr) (L : List (NestedKey × Addr)) : HO := .ext fun h => SNK w h a L
theorem setN_new {P : Program} {w : World} {H : Hp} {h : Heap} {a : Addr} {L : List (NestedKey × Addr)} (R : SNK w h a L) : ObjOk P w H h a (SetN w a L) := by
  have ⟨es, ep, t, ⟨o, ho, r⟩, q⟩ := R.ex
  refine ⟨R, ⟨o, ho⟩, fun h1 h2 p k => ?_⟩
  have ⟨es', ep', t', ⟨o', ho', r'⟩, q'⟩ := SNK.ex p
  exact ⟨es', ep', t', ⟨o', k o' ho', r'⟩, q'⟩
def cSetN (w : World) : V → Hp → (List V → Hp → Prop) → Prop := fun x H Q => ∃ (a : Addr) (L : List (NestedKey × Addr)), x = .ref a ∧ H a = some (SetN w a L) ∧ ∀ L' : List (NestedKey × Addr), L'.Perm L → Q (L'.map fun q => V.ref q.2) H
theorem vals_refsN : ∀ L : List (NestedKey × Addr), Vals (L.map fun q => V.ref q.2) (L.map fun q => Value.ref q.2)
  | [] => .nil
  | _ :: L => .cons rfl (vals_refsN L)
theorem cl_setN (hc : X.calm = true) : CollR X (cSetN X.w) := by
  intro pins s σ H x v E Q I rx h
  obtain ⟨a, L, rfl, ha, q⟩ := h
  cases rx
  obtain ⟨es, ep, t, ⟨o, ho, hex, hd⟩, hes, hfew, hfit, hris, hled⟩ := ((I.hok a _ ha).1 : SNK X.w s.heap a L).ex
  have hsz : es.size = L.length := by
    have := congrArg List.length hes
    rw [List.length_map, List.length_map, Array.length_toList] at this
    exact this
  refine collect_set (A := X.A.in1) (I.ok.hd hc) ⟨o, ho, hex.1, hd⟩ hfit (by unfold scanBound; omega) hris hled fun s1 vs k1 hz g1 o1 pm => ?_
  rw [hes] at pm
  obtain ⟨L', p1, rfl⟩ := perm_map_ex pm
  exact ⟨_, H, I.call' (ch := []) o1 (Un.kept k1) (I.hok.kept k1) (by rw [g1]; exact I.bare) (fun _ z => nomatch z), vals_refsN L', q L' p1⟩
theorem snk_of {P : Program} {w : World} {h : Heap} {a : Addr} {L : List (NestedKey × Addr)} {es : Array (Int × Value)} {ep : Nat} {t : SetTable} (R : NS P w h a L es ep t) : SNK w h a L := by
  have hsz : es.size = L.length := by
    have z := congrArg List.length R.rw_
    rwa [rowN, List.length_map, Array.length_toList] at z
  have hpl : t.place.size = L.length := by
    have z := R.tb.sz
    rwa [List.length_map] at z
  have hrm := R.rm
  refine ⟨es, ep, t, R.ob, ?_, R.lt, ?_, R.tb.ris, R.ld⟩
  · rw [R.rw_, rowN, List.map_map]
    rfl
  · rw [SetTable.fits, SetTable.fill, R.tb.dm, Bool.and_eq_true]
    exact ⟨beq_iff_eq.mpr (by omega), decide_eq_true (by show t.place.size + 0 ≤ t.mask; omega)⟩
/-- where the keys stand -/
theorem dp_pairs {K : PySem.W.Frag} {H : Hp} : ∀ {ks : List NestedKey} {ys : List V}, DpAll K H ys (ks.map NestedKey.data) → (∀ k ∈ ks, ∃ ls, k = NestedKey.tup ls) →
    ∃ qs : List (NestedKey × Addr), qs.map (·.1) = ks ∧ ys = qs.map (fun q => V.ref q.2) ∧ ∀ q ∈ qs, Dp K H (.ref q.2) q.1.data
  | [], _, h, _ => by
    cases h
    exact ⟨[], rfl, rfl, fun q hq => (nomatch hq)⟩
  | k :: ks, _, h, f => by
    rw [List.map_cons] at h
    cases h with
    | @cons y _ ys _ h1 h2 =>
      obtain ⟨qs, e1, e2, e3⟩ := dp_pairs h2 fun k' hk => f k' (List.mem_cons_of_mem _ hk)
      obtain ⟨ls, rfl⟩ := f k List.mem_cons_self
      obtain ⟨b, rfl⟩ : ∃ b, y = V.ref b := by
        rw [NestedKey.data] at h1
        cases h1
        exact ⟨_, rfl⟩
      refine ⟨(.tup ls, b) :: qs, by rw [List.map_cons, e1], by rw [List.map_cons, e2], fun q hq => ?_⟩
      rcases List.mem_cons.mp hq with rfl | hq
      · exact h1
      · exact e3 q hq
theorem refsN_of : ∀ {qs : List (NestedKey × Addr)} {us : List Value}, Vals (qs.map fun q => V.ref q.2) us → us = qs.map fun q => Value.ref q.2
  | [], _, h => by
    cases h
    rfl
  | q :: qs, _, h => by
    cases h with
    | cons r t =>
      cases r
      rw [refsN_of t, List.map_cons]
/-- set(a list of nested tuples) -/
def rSetN (K : PySem.W.Frag) (w : World) : List V → Hp → VK → Prop := fun xs H Q => ∃ (l : Addr) (ys : List V) (ks : List NestedKey), xs = [V.ref l] ∧ SqL K H l ys ∧ DpAll K H ys (ks.map NestedKey.data) ∧ (∀ k ∈ ks, k.depth ≤ 8 ∧ nums k = true ∧ ∃ ls, k = .tup ls) ∧ ks.length ≤ 15 ∧
  ∀ a (L : List (NestedKey × Addr)), H a = none → (L.map (·.1)).Nodup → (∀ k, k ∈ L.map (·.1) ↔ k ∈ ks) → (∀ q ∈ L, Dp K H (.ref q.2) q.1.data) → Q (.ref a) (upd H a (SetN w a L))
theorem call_setN (hc : X.calm = true) (hu : X.A.units + 64 < cLine) : CallR X (.type "set") (rSetN X.K X.w) := by
  intro pins s σ H xs us Q I r h
  obtain ⟨l, ys, ks, rfl, hl, hd, hk, hf, q⟩ := h
  rw [Vals.ref1 r]
  obtain ⟨its, rv, pl, _⟩ := I.list hl
  obtain ⟨qs, rfl, rfl, hq⟩ := dp_pairs hd fun k z => (hk k z).2.2
  rw [List.length_map] at hf
  have hn : H s.heap.objs.size = none := I.hok.fresh (Nat.le_refl _)
  refine call_set_n (P := X.prog) (w := X.w) qs (I.ok.hd hc) pl.isList (by simpa using refsN_of rv) (fun q z => ?_) hf (by omega) fun h' tk L es ep t R g k => ?_
  · obtain ⟨d1, d2, _⟩ := hk q.1 (List.mem_map.mpr ⟨q, z, rfl⟩)
    exact ⟨is_of I (hq q z) d1, d2⟩
  · refine ⟨.ref s.heap.objs.size, upd H s.heap.objs.size (SetN X.w s.heap.objs.size L), I.laid (t' := tk) k (Nat.le_refl _) (setN_new (snk_of R)), rfl, q _ L hn R.one (fun z => ?_) fun p hp => hq p (g.sub p hp)⟩
    rw [g.all z, List.take_length]
end
end K49
namespace K49
open PySem PySem.Spec PySem.W PyProof.Rows L2 Evl LamX
theorem boot_set' : bootBuiltins ("set" : Str) = some (.type "set") := by decide +kernel
theorem nums_all {α : Type} {f : α → NestedKey} (h : ∀ a, nums (f a) = true) : ∀ l : List α, numsAll (l.map f) = true
  | [] => by rw [List.map_nil, numsAll]
  | a :: l => by rw [List.map_cons, numsAll, h a, nums_all h l, Bool.and_self]
theorem nums_D (d : Dt) : nums (nkD d) = true := by
  unfold nkD
  rw [nums]
  exact nums_all (fun p => by simp [nkI, nums, numsAll]) d
theorem keys_back : ∀ {l : List (NestedKey × Addr)}, (∀ k ∈ l.map (·.1), ∃ d : Dt, k = nkD d) → ∃ as : List Dt, l.map (·.1) = as.map nkD
  | [], _ => ⟨[], rfl⟩
  | q :: l, h => by
    obtain ⟨d, hd⟩ := h q.1 List.mem_cons_self
    obtain ⟨as, e⟩ := keys_back (l := l) fun k hk => h k (List.mem_cons_of_mem _ hk)
    exact ⟨d :: as, by rw [List.map_cons, List.map_cons, e, hd]⟩
theorem keys_dp {K : PySem.W.Frag} {H : Hp} : ∀ {l : List (NestedKey × Addr)} {as : List Dt}, l.map (·.1) = as.map nkD → (∀ q ∈ l, Dp K H (.ref q.2) q.1.data) → DpAll K H (l.map fun q => V.ref q.2) (as.map eD)
  | [], [], _, _ => .nil
  | [], _ :: _, e, _ => by cases e
  | _ :: _, [], e, _ => by cases e
  | q :: l, d :: as, e, h => by
    rw [List.map_cons, List.map_cons, List.cons.injEq] at e
    have h1 := h q List.mem_cons_self
    rw [e.1, data_D] at h1
    exact .cons h1 (keys_dp e.2 fun r hr => h r (List.mem_cons_of_mem _ hr))
section
variable {P : Program} {w : World} {K : PySem.W.Frag} {σ : L2.St} {H : Hp} {td te : TE}
theorem sort_ok {as : List Dt} : AllAlike (as.map eD) ∧ Srt2 (as.map eD) := by
  refine ⟨fun d1 h1 d2 h2 => ?_, .inl fun y hy => ?_⟩
  · obtain ⟨y, _, rfl⟩ := List.mem_map.mp h1
    obtain ⟨z, _, rfl⟩ := List.mem_map.mp h2
    exact alike_D y z
  · obtain ⟨z, _, rfl⟩ := List.mem_map.mp hy
    exact ⟨_, rfl⟩
theorem ed_setSorted {ds es : List Dt} (h : EvN K te σ H (ds.map eD)) (hl : ds.length ≤ 15) (hn : es.Nodup) (hm : ∀ d, d ∈ es ↔ d ∈ ds) :
    EvD K (tCB (rSortD K (cSetN w)) (tCons (tCB (rSetN K w) (tCons te tNil)) tNil)) σ H (.list ((es.mergeSort leD).map eD)) := fun H1 e Q q =>
  h H1 e _ fun l ys H2 hln e2 hys hd => by
    have hdat : (ds.map nkD).map NestedKey.data = ds.map eD := by
      rw [List.map_map]
      exact List.map_congr_left fun d _ => data_D d
    refine ⟨l, ys, ds.map nkD, rfl, sq_of hys, by rw [hdat]; exact hd, fun k hk => ?_, by rw [List.length_map]; exact hl, fun a L ha hnd hmem hdp => ?_⟩
    · obtain ⟨d, _, rfl⟩ := List.mem_map.mp hk
      exact ⟨ndepth_D d, nums_D d, _, rfl⟩
    have e3 : Ex H2 (upd H2 a (SetN w a L)) := Ex.new ha
    refine ⟨.ref a, rfl, a, L, rfl, upd_same, fun L' pm => ?_⟩
    have pm1 := pm.map (·.1)
    obtain ⟨as, has⟩ := keys_back (l := L') fun k hk => by
      obtain ⟨d, _, e⟩ := List.mem_map.mp ((hmem k).mp (pm1.mem_iff.mp hk))
      exact ⟨d, e.symm⟩
    have hasn : as.Nodup := by
      have h1 : (as.map nkD).Nodup := by
        rw [← has]
        exact pm1.nodup_iff.mpr hnd
      unfold List.Nodup at h1 ⊢
      rw [List.pairwise_map] at h1
      exact h1.imp fun {a b} h z => h (congrArg nkD z)
    have hasm : ∀ d, d ∈ as ↔ d ∈ es := fun d => by
      rw [hm]
      have h1 : nkD d ∈ L'.map (·.1) ↔ nkD d ∈ ds.map nkD := pm1.mem_iff.trans (hmem _)
      rw [has] at h1
      have key : ∀ l : List Dt, nkD d ∈ l.map nkD ↔ d ∈ l := fun l => ⟨fun z => by
        obtain ⟨x, hx, ex⟩ := List.mem_map.mp z
        exact inj_D _ _ ex ▸ hx, fun z => List.mem_map.mpr ⟨d, z, rfl⟩⟩
      rw [key, key] at h1
      exact h1
    have hperm : as.Perm es := perm_of_mem hasn hn hasm
    have hlen : as.length ≤ 15 := by
      have := nodup_len hasn fun x hx => (hm x).mp ((hasm x).mp hx)
      omega
    have hdp' := keys_dp has fun r hr => dp_mono e3 (hdp r (pm.mem_iff.mp hr))
    refine ⟨Dt, eD, as, hdp', sort_ok.1, sort_ok.2, fun y _ => Nat.le_trans (depth_D y) (by decide), by omega, fun p zs hp hz => ?_⟩
    have e4 : Ex (upd H2 a (SetN w a L)) (upd (upd H2 a (SetN w a L)) p (.lst zs)) := Ex.new hp
    refine q _ _ ((e2.trans e3).trans e4) (.lst (sq_of upd_same) (dpAll_mono e4 ?_))
    rw [← lin_leD.perm hperm]
    exact hz
theorem ed_tabSorted {d : Addr} {g : Dt → PyData} {ok : V → Prop} {as : List Dt} (hd : Ev td σ H (.ref d)) (T : TabD K P w nkD eD g ok H d as) (hl : as.length ≤ 1000) : EvD K (tCB (rSortD K (cNKeys P w)) (tCons td tNil)) σ H (.list ((as.mergeSort leD).map eD)) := fun H1 e Q q =>
  hd H1 e _ fun H2 e2 => by
    obtain ⟨o, m, h1, h2, h3⟩ := (T.mono (e.trans e2)).ex
    refine ⟨.ref d, rfl, d, o, _, rfl, h2, Dt, eD, as, ?_, sort_ok.1, sort_ok.2, fun y _ => Nat.le_trans (depth_D y) (by decide), by omega, fun p zs hp hz => ?_⟩
    · rw [← h1]
      have key : ∀ l : List (Dt × Addr × V), (∀ x ∈ l, x ∈ m) → DpAll K H2 ((l.map fun x => (nkD x.1, x.2)).map fun y => V.ref y.2.1) ((l.map (·.1)).map eD) := by
        intro l
        induction l with
        | nil => intro _; exact .nil
        | cons x l ih => exact fun h => .cons (h3 x (h x List.mem_cons_self)).1 (ih fun y hy => h y (List.mem_cons_of_mem _ hy))
      exact key m fun _ h => h
    · have e4 : Ex H2 (upd H2 p (.lst zs)) := Ex.new hp
      exact q _ _ (e2.trans e4) (.lst (sq_of upd_same) (dpAll_mono e4 hz))
end
end K49
namespace K49
open PySem PySem.Spec PySem.W PyProof.Rows L2 Evl LamX
section
variable {P : Program} {w : World} {K : PySem.W.Frag} {mg : Str → Option Value} {base : Heap} {C T : Addr} {Tt : List (Addr × Str)}
theorem law_end {f : Addr} {cdv : Value} {A : Around} {outer : List Env} {s : Shared} {H0 : Hp} {E : XK} {k : Nat} (L : LD P w K mg base C T Tt k) (hr : Room (k + 1) (LX P w K mg base f cdv A outer s H0 E).A) :
    Suf (LX P w K mg base f cdv A outer s H0 E) 17 (SZ K P w C T) := by
  have T' := L.T'
  have hu := hu_64 hr
  refine ⟨_, pss_cons (ps_if (pt_cmpR (op_neD hu) (pe_lc (own := [("_law_place", 16)]) (g := gName 16) (tt := tTest (tOp (rNotInT K) (tVar 16) (tVar 11))) rfl scLaw.nd (pi_list (pv 22)) (blkOk_by (N := lawN) (sc := defScope sLaw) (by decide +kernel))
        (fun _ _ _ _ _ => pg_name (i := 16) scLaw.nd rfl (.inl rfl)) (fun _ _ _ _ _ => pts_one (pt_cmpR (op_notInT (hu_65 hr)) (pv 16) (pv 11) (by with_unfolding_all rfl))) (fun _ _ _ _ _ => pv 16)) (pe_lst pa_nil) (nomark _)) (pss_one (ps_ret pe_bl)) pss_nil)
    (pss_one (ps_ret (pe_or (pe_cmpR (op_eqD hu) (pv 22) (pe_lst pa_nil) (nomark _)) (pe_one (pe_cmpR (op_eqD hu) (pe_callB (cr_sortD hu (cl_setN rfl)) (by rfl) T'.sorted boot_sorted (pa_cons (pe_callTy (call_setN rfl hu) (by rfl) T'.set boot_set' (pa_cons
        (pe_lc (own := [("_law_place", 16)]) (g := gName 16) (tt := tYes) (te := tOp (rIxT K) (tVar 16) (tC (.int 0))) rfl scLaw.nd (pi_list (pv 22)) (blkOk_by (N := lawN) (sc := defScope sLaw) (by decide +kernel))
          (fun _ _ _ _ _ => pg_name (i := 16) scLaw.nd rfl (.inl rfl)) (fun _ _ _ _ _ => pts_nil) (fun _ _ _ _ _ => pe_ix ix_tup (pv 16) pe_int (fun _ _ => rfl))) pa_nil)) pa_nil))
        (pe_callB (cr_sortD hu (cl_nkeys rfl)) (by rfl) T'.sorted boot_sorted (pa_cons (pv 9) pa_nil)) (nomark _)))))), fun D σ H hD hS => ?_⟩
  obtain ⟨p, pm, xs, met, ⟨x0, x3, x5, x10, x12, x13, x15, x16, x17, x18, x19, x20, x21, x23, x24, x25, x26, x27, rfl⟩, F, hxs, hds, hok, h15, hall⟩ := hS
  have n1 := F.tr.n1
  have n4 := F.tr.n4
  have hmet : ∀ {H1 : Hp}, Ex H H1 → Dp K H1 (.ref pm) (.list (met.map eP)) := fun e => dp_mono e (.lst (sq_of hxs) hds)
  refine q_when (et_test (ev_neD (K := K) (d := .list ((([] : List Pos)).map eP)) (EvN.toD (en_is (en_lcL (K := K) (as := met) (e1 := eP) (e2 := eP) (Tg := fun q => TgN K _ 16 (eP q)) (fun q => !decide (q ∈ POS p)) id (ed_var rfl (hmet (Ex.refl _))) (by omega) flat_P
      (fun q hq x H1 e1 hx Q q => tg_name hx (fun _ => rfl) Q q) (fun q hq σ2 H2 e2 hT => ?_) (fun q hq σ2 H2 H3 e2 hT e3 _ => ?_)) ?_)) ed_nilL (shaped_list lay_P depth_P (by decide) _) (shaped_R _))) (fun z => ?_) fun _ H1 e1 => ?_
  · obtain ⟨y, rfl, hy⟩ := hT
    refine et_is (et_test (ev_niT (ed_var rfl hy) (ed_var rfl (dp_mono e2 F.due)) (shaped_P _) (shaped_tuple lay_P depth_P (by decide) _))) ?_
    rw [any_eqv eqv_P]
    exact congrArg (fun b => !b) (decide_eq_decide.mpr Iff.rfl)
  · obtain ⟨y, rfl, hy⟩ := hT
    exact ed_var rfl (dp_mono e3 hy)
  · rw [lcRes_id]
    congr 1
    rw [List.filter_eq_nil_iff]
    intro q hq
    rw [decide_eq_true (hok q hq)]
    decide
  · rw [show eR [] = PyData.list ((([] : List Pos)).map eP) from rfl] at z
    have : PyData.eqv (.list ((([] : List Pos)).map eP)) (.list ((([] : List Pos)).map eP)) = true := by simp [PyData.eqv, PyData.eqvAll]
    rw [this] at z
    cases z
  have hl3 : ∀ x ∈ p.lives, x ≤ 3 := fun x hx => (F.tr.li x hx).2
  have hsml := datsL_small hl3 n4
  have fin : Ev (tOrV (tOp (rEqD K) (tVar 22) (tLst tNil)) (tOp (rEqD K) (tCB (rSortD K (cSetN w)) (tCons (tCB (rSetN K w) (tCons (tLc (iList K (tVar 22)) (gName 16) tYes (tOp (rIxT K) (tVar 16) (tC (.int 0))) [16]) tNil)) tNil)) (tCB (rSortD K (cNKeys P w)) (tCons (tVar 9) tNil))))
      (frZ p pm x0 x3 x5 x10 x12 x13 x15 x16 x17 x18 x19 x20 x21 x23 x24 x25 x26 x27) H1 (.bl true) := by
    refine ev_is (ev_orV (a := PyData.eqv (.list (met.map eP)) (eR [])) (b := true) (ev_eqD (ed_var rfl (hmet e1)) ed_nilL (shaped_list lay_P depth_P (by decide) _) (shaped_R _)) fun ha => ?_) (by rw [Bool.or_true])
    have hm : ∀ d, Wi p.lives p.n d ↔ ∃ q ∈ met, q.1 = d := by
      rcases hall with rfl | h
      · exact absurd ha (by simp [eR, PyData.eqv, PyData.eqvAll])
      · exact h
    refine ev_is (ev_eqD (ed_setSorted (ds := met.map (·.1)) (es := datsL p.lives p.n) (en_is (en_lcL (K := K) (as := met) (e1 := eP) (e2 := eD) (Tg := fun q => TgN K _ 16 (eP q)) (fun _ => true) (fun q => q.1) (ed_var rfl (hmet e1)) (by omega) flat_D
        (fun q hq x H1 e1 hx Q q => tg_name hx (fun _ => rfl) Q q) (fun q hq σ2 H2 e2 hT => ev_yes) (fun q hq σ2 H2 H3 e2 hT e3 _ => ?_)) (lcRes_all _ _)) (by rw [List.length_map]; exact h15) (datsL_nodup _ _) fun d => ?_)
      (ed_tabSorted (ev_var rfl) (F.tb.mono e1) (by omega)) (shaped_list lay_D depth_D (by decide) _) (shaped_list lay_D depth_D (by decide) _)) ?_
    · obtain ⟨y, rfl, hy⟩ := hT
      exact ed_ixT (ds := [eD q.1, eS q.2]) (i := 0) (ed_var rfl (dp_mono e3 hy)) ev_c rfl
    · rw [mem_datsL, hm]
      exact ⟨fun ⟨q, hq, e⟩ => List.mem_map.mpr ⟨q, hq, e⟩, fun h => let ⟨q, hq, e⟩ := List.mem_map.mp h; ⟨q, hq, e⟩⟩
    · rw [PyData.eqv, eqv_map eqv_D, decide_eq_true rfl]
  exact fin H1 (Ex.refl _) _ fun H2 e2 => hD H2
/-- the law: a list of at most 63 ints is handed in, True comes out -/
def spLaw (K : PySem.W.Frag) (Tt : List (Addr × Str)) : Sp := fun vs H Q _ => ∃ (a : Addr) (ns : List Int), vs = [.ref a] ∧ SqL K H a (ns.map V.int) ∧ ns.length ≤ 63 ∧ Tabs Tt H ∧ ∀ H', Q (.bl true) H'
theorem ok_law {f : Addr} {fd : FuncData} {k : Nat} (F : Fun K "law" "law" sLaw f fd) (L : LD P w K mg base C T Tt k) : FnOk P w K mg base CX0 (k + 2) f fd ["_law_script"] (spLaw K Tt) := by
  refine F.ok scLaw (fun vs H Q E h => ?_) (fun cdv A outer s H vs Q E hr h => ?_)
  · obtain ⟨a, ns, rfl, _⟩ := h
    rfl
  · obtain ⟨a, ns, rfl, hs, hl, hT, q⟩ := h
    have h17 := law_end (f := f) (cdv := cdv) (A := A) (outer := outer) (s := s) (H0 := H) (E := E) L hr
    have h15 := law_met (b := 1006) L hr h17
    have h14 := law_turns (b := 1000) L hr (by decide) h15
    have h11 := law_told L hr h14
    have h8 := law_due L hr h11
    have h6 := law_table L hr h8
    obtain ⟨t, p0, r0⟩ := law_start L hr h6
    exact ⟨t, p0, r0 _ _ _ q ⟨a, ns, rfl, hs, hl, hT⟩⟩
end
end K49
namespace K49
open PySem PySem.Spec PySem.W PyProof.Rows L2 Evl LamX
/-! ## what the top has written -/
def Has (K : PySem.W.Frag) (x : Str) (st : Stmt) : Prop := ∃ (f : Addr) (fd : FuncData), PySem.W.nsIn K mainGlobals x = some (some (.ref f)) ∧ Fun K x x st f fd
theorem has_df {K : PySem.W.Frag} {h : Heap} {mg : Str → Option Value} (X : K.In h) (G : h.Ns mainGlobals mg) {x : Str} {st : Stmt} {ps : List Str} (q : Has K x st) (b : ∀ f fd, Fun K x x st f fd → Binds K fd ps []) : ∃ f fd, Df K mg x st ps f fd := by
  obtain ⟨f, fd, a, F⟩ := q
  exact ⟨f, fd, F, b f fd F, PySem.W.mg_of X G a⟩
theorem func_mk {K : PySem.W.Frag} {x qual : Str} {st : Stmt} {f c : Addr} {oc : Value} {od an : Option Addr} {osl : Array (Option Value)} {kV doc pm ct : Value} (l : K.lookup f = some ⟨oc, od, .func (PySem.W.fnOf x qual (defArgs st) (defBody st) (defScope st) .none kV doc pm an (.ref c) ct), osl⟩)
    (h : PySem.W.codeIn K (.ref c) qual = true) (k : PySem.W.keepIn K (.ref f) = true) : FunC K x qual st f (PySem.W.fnOf x qual (defArgs st) (defBody st) (defScope st) .none kV doc pm an (.ref c) ct) c := ⟨⟨oc, od, kV, doc, pm, an, ct, osl, rfl, l, h⟩, k⟩
theorem FunC.toFun {K : PySem.W.Frag} {x qual : Str} {st : Stmt} {f c : Addr} {fd : FuncData} (F : FunC K x qual st f fd c) : Fun K x qual st f fd := by
  obtain ⟨oc, od, kV, doc, pm, an, ct, osl, h1, h2, h3⟩ := F.ex
  exact ⟨⟨oc, od, kV, doc, pm, an, .ref c, ct, osl, h1, h2, h3⟩, F.kp⟩
theorem vals_rev : ∀ {zs : List V} {ws : List Value}, Vals zs ws → Vals zs.reverse ws.reverse
  | [], _, r => by cases r; exact .nil
  | z :: zs, _, r => by
    cases r with
    | cons h t =>
      rw [List.reverse_cons, List.reverse_cons]
      exact (vals_rev t).append (.cons h .nil)
theorem df_fn {P : Program} {w : World} {K : PySem.W.Frag} {mg : Str → Option Value} {base : Heap} {k : Nat} {x : Str} {st : Stmt} {ps : List Str} {f : Addr} {fd : FuncData} {sp : Sp} (D : Df K mg x st ps f fd) (G : FnOk P w K mg base CX0 k f fd ps sp) : Fn P w K mg base k x ps [] sp :=
  ⟨f, fd, [], D.g, D.b, .nil, D.F.kp, G⟩
set_option maxHeartbeats 0 in
theorem all_mk {l : PySem.W.OpenLaw} {w : World} {K : PySem.W.Frag} {h : Heap} {mg : Str → Option Value} {fa C T pT : Addr} (X : K.In h) (G : h.Ns mainGlobals mg) (hfa : mg "law" = some (.ref fa))
    (qWhole : Has K "is_whole" sWhole)
    (qIsSet : Has K "is_set" sIsSet)
    (qAll : Has K "all_sets" sAll)
    (qSubs : Has K "subsets_of" sSubs)
    (qTog : Has K "together" sTog)
    (qSame : Has K "same_offers" sSame)
    (qPart : Has K "chooser_is_part" sPart)
    (qWith : Has K "side_set_with" sWith)
    (qAgr : Has K "agreed_by" sAgr)
    (qWish : Has K "wished_beside" sWish)
    (qSide : Has K "side_settled" sSide)
    (qSett : Has K "settled_among" sSett)
    (qFit : Has K "trade_lives_fit" sFit)
    (qDated : Has K "is_dated_of" sDated)
    (qDeed : Has K "is_deed" sDeed)
    (qOffs : Has K "offers_of" sOffs)
    (qAllD : Has K "all_dated" sAllD)
    (qBeh : Has K "behind" sBeh)
    (qPSet : Has K "positions_settled" sPSet)
    (qPOne : Has K "positions_is_one" sPOne)
    (qPList : Has K "positions_listed" sPList)
    (qIsPos : Has K "is_position" sIsPos)
    (qMoves : Has K "settler_moves" sMoves)
    (qBrok : Has K "broken_by" sBrok)
    (qLDeck : Has K "_law_deck" sLDeck)
    (qLDraw : Has K "_law_draw" sLDraw)
    (qLPick : Has K "_law_pick" sLPick)
    (qLLists : Has K "_law_lists" sLLists)
    (qLTaken : Has K "_law_taken" sLTaken)
    (qLChooser : Has K "_law_chooser" sLChooser)
    (qLKept : Has K "_law_kept_sets" sLKept)
    (qLDated : Has K "_law_all_dated" sLDated)
    (qLBook : Has K "_law_day_book" sLBook)
    (qLSets : ∃ (f : Addr) (fd : FuncData) (c : Addr), PySem.W.nsIn K mainGlobals "_law_sets" = some (some (.ref f)) ∧ FunC K "_law_sets" "_law_sets" sLSets f fd c ∧ codeHdIn K c pT = true)
    (qPosOf : ∃ (f : Addr) (fd : FuncData), PySem.W.nsIn K mainGlobals "positions_of" = some (some (.ref f)) ∧ FunD K "positions_of" "positions_of" (defArgs sPosOf) (defBody sPosOf) (defScope sPosOf) [] [("most", .int 400)] f fd)
    (qLaw : Has K "law" sLaw) (nP : K.lookup pT = none) (tP : h.get? pT = some (tabObj #[]))
    (qC : PySem.W.nsIn K mainGlobals "Chooser" = some (some (.ref C))) (qT : PySem.W.nsIn K mainGlobals "Trade" = some (some (.ref T))) (Z : Clz K C T)
    (iC : ∃ (f : Addr) (fd : FuncData), Mk K C f ∧ Fun K "__init__" "Chooser.__init__" sCInit f fd) (iT : ∃ (f : Addr) (fd : FuncData), Mk K T f ∧ Fun K "__init__" "Trade.__init__" sTInit f fd)
    (lC : ∃ (f : Addr) (fd : FuncData), PySem.W.findIn K (.ref C) "__len__" = some (some (.ref f)) ∧ PySem.W.isFn K (.ref f) = true ∧ Fun K "__len__" "Chooser.__len__" sCLen f fd)
    (lT : ∃ (f : Addr) (fd : FuncData), PySem.W.findIn K (.ref T) "__len__" = some (some (.ref f)) ∧ PySem.W.isFn K (.ref f) = true ∧ Fun K "__len__" "Trade.__len__" sTLen f fd)
    (v1 : ∃ t, PySem.W.nsIn K mainGlobals "CHOOSER_MOST" = some (some (.int 6 t))) (v2 : ∃ t, PySem.W.nsIn K mainGlobals "TRADE_MOST_OFFERS" = some (some (.int 9 t))) (v3 : ∃ t, PySem.W.nsIn K mainGlobals "TRADE_MOST_LIFE" = some (some (.int 99 t)))
    (z0 : PySem.W.nsIn K mainGlobals "isinstance" = some none)
    (z1 : PySem.W.nsIn K mainGlobals "int" = some none)
    (z2 : PySem.W.nsIn K mainGlobals "bool" = some none)
    (z3 : PySem.W.nsIn K mainGlobals "tuple" = some none)
    (z4 : PySem.W.nsIn K mainGlobals "list" = some none)
    (z5 : PySem.W.nsIn K mainGlobals "dict" = some none)
    (z6 : PySem.W.nsIn K mainGlobals "set" = some none)
    (z7 : PySem.W.nsIn K mainGlobals "len" = some none)
    (z8 : PySem.W.nsIn K mainGlobals "range" = some none)
    (z9 : PySem.W.nsIn K mainGlobals "sorted" = some none)
    (z10 : PySem.W.nsIn K mainGlobals "enumerate" = some none) :
    LawAtS l w K CX0 9 63 "_law_script" mg fa h := by
  obtain ⟨fWhole, dWhole, DWhole⟩ := has_df X G (ps := ["thing"]) qWhole fun f fd F => F.binds fun _ _ _ _ _ _ us hl => match us, hl with | [_], _ => rfl
  obtain ⟨fIsSet, dIsSet, DIsSet⟩ := has_df X G (ps := ["offers", "thing"]) qIsSet fun f fd F => F.binds fun _ _ _ _ _ _ us hl => match us, hl with | [_, _], _ => rfl
  obtain ⟨fAll, dAll, DAll⟩ := has_df X G (ps := ["offers"]) qAll fun f fd F => F.binds fun _ _ _ _ _ _ us hl => match us, hl with | [_], _ => rfl
  obtain ⟨fSubs, dSubs, DSubs⟩ := has_df X G (ps := ["some"]) qSubs fun f fd F => F.binds fun _ _ _ _ _ _ us hl => match us, hl with | [_], _ => rfl
  obtain ⟨fTog, dTog, DTog⟩ := has_df X G (ps := ["one", "other"]) qTog fun f fd F => F.binds fun _ _ _ _ _ _ us hl => match us, hl with | [_, _], _ => rfl
  obtain ⟨fSame, dSame, DSame⟩ := has_df X G (ps := ["things"]) qSame fun f fd F => F.binds fun _ _ _ _ _ _ us hl => match us, hl with | [_], _ => rfl
  obtain ⟨fPart, dPart, DPart⟩ := has_df X G (ps := ["part", "some"]) qPart fun f fd F => F.binds fun _ _ _ _ _ _ us hl => match us, hl with | [_, _], _ => rfl
  obtain ⟨fWith, dWith, DWith⟩ := has_df X G (ps := ["some", "offer"]) qWith fun f fd F => F.binds fun _ _ _ _ _ _ us hl => match us, hl with | [_, _], _ => rfl
  obtain ⟨fAgr, dAgr, DAgr⟩ := has_df X G (ps := ["near", "far", "some"]) qAgr fun f fd F => F.binds fun _ _ _ _ _ _ us hl => match us, hl with | [_, _, _], _ => rfl
  obtain ⟨fWish, dWish, DWish⟩ := has_df X G (ps := ["near", "far", "standing", "some"]) qWish fun f fd F => F.binds fun _ _ _ _ _ _ us hl => match us, hl with | [_, _, _, _], _ => rfl
  obtain ⟨fSide, dSide, DSide⟩ := has_df X G (ps := ["near", "far", "standing", "part"]) qSide fun f fd F => F.binds fun _ _ _ _ _ _ us hl => match us, hl with | [_, _, _, _], _ => rfl
  obtain ⟨fSett, dSett, DSett⟩ := has_df X G (ps := ["near", "far", "standing"]) qSett fun f fd F => F.binds fun _ _ _ _ _ _ us hl => match us, hl with | [_, _, _], _ => rfl
  obtain ⟨fFit, dFit, DFit⟩ := has_df X G (ps := ["lives"]) qFit fun f fd F => F.binds fun _ _ _ _ _ _ us hl => match us, hl with | [_], _ => rfl
  obtain ⟨fDated, dDated, DDated⟩ := has_df X G (ps := ["trade", "thing"]) qDated fun f fd F => F.binds fun _ _ _ _ _ _ us hl => match us, hl with | [_, _], _ => rfl
  obtain ⟨fDeed, dDeed, DDeed⟩ := has_df X G (ps := ["trade", "thing"]) qDeed fun f fd F => F.binds fun _ _ _ _ _ _ us hl => match us, hl with | [_, _], _ => rfl
  obtain ⟨fOffs, dOffs, DOffs⟩ := has_df X G (ps := ["dated"]) qOffs fun f fd F => F.binds fun _ _ _ _ _ _ us hl => match us, hl with | [_], _ => rfl
  obtain ⟨fAllD, dAllD, DAllD⟩ := has_df X G (ps := ["trade"]) qAllD fun f fd F => F.binds fun _ _ _ _ _ _ us hl => match us, hl with | [_], _ => rfl
  obtain ⟨fBeh, dBeh, DBeh⟩ := has_df X G (ps := ["trade", "dated", "deed"]) qBeh fun f fd F => F.binds fun _ _ _ _ _ _ us hl => match us, hl with | [_, _, _], _ => rfl
  obtain ⟨fPSet, dPSet, DPSet⟩ := has_df X G (ps := ["near", "far", "some", "known"]) qPSet fun f fd F => F.binds fun _ _ _ _ _ _ us hl => match us, hl with | [_, _, _, _], _ => rfl
  obtain ⟨fPOne, dPOne, DPOne⟩ := has_df X G (ps := ["near", "far", "trade", "thing", "known"]) qPOne fun f fd F => F.binds fun _ _ _ _ _ _ us hl => match us, hl with | [_, _, _, _, _], _ => rfl
  obtain ⟨fPList, dPList, DPList⟩ := has_df X G (ps := ["near", "far", "trade", "most"]) qPList fun f fd F => F.binds fun _ _ _ _ _ _ us hl => match us, hl with | [_, _, _, _], _ => rfl
  obtain ⟨fIsPos, dIsPos, DIsPos⟩ := has_df X G (ps := ["near", "far", "trade", "thing"]) qIsPos fun f fd F => F.binds fun _ _ _ _ _ _ us hl => match us, hl with | [_, _, _, _], _ => rfl
  obtain ⟨fMoves, dMoves, DMoves⟩ := has_df X G (ps := ["near", "far", "trade", "position", "deed"]) qMoves fun f fd F => F.binds fun _ _ _ _ _ _ us hl => match us, hl with | [_, _, _, _, _], _ => rfl
  obtain ⟨fBrok, dBrok, DBrok⟩ := has_df X G (ps := ["position", "following"]) qBrok fun f fd F => F.binds fun _ _ _ _ _ _ us hl => match us, hl with | [_, _], _ => rfl
  obtain ⟨fLDeck, dLDeck, DLDeck⟩ := has_df X G (ps := ["_law_script"]) qLDeck fun f fd F => F.binds fun _ _ _ _ _ _ us hl => match us, hl with | [_], _ => rfl
  obtain ⟨fLDraw, dLDraw, DLDraw⟩ := has_df X G (ps := ["_law_deck_here", "_law_below"]) qLDraw fun f fd F => F.binds fun _ _ _ _ _ _ us hl => match us, hl with | [_, _], _ => rfl
  obtain ⟨fLPick, dLPick, DLPick⟩ := has_df X G (ps := ["_law_deck_here", "_law_some"]) qLPick fun f fd F => F.binds fun _ _ _ _ _ _ us hl => match us, hl with | [_, _], _ => rfl
  obtain ⟨fLLists, dLLists, DLLists⟩ := has_df X G (ps := ["_law_deck_here", "_law_offers"]) qLLists fun f fd F => F.binds fun _ _ _ _ _ _ us hl => match us, hl with | [_, _], _ => rfl
  obtain ⟨fLTaken, dLTaken, DLTaken⟩ := has_df X G (ps := ["_law_lists_here", "_law_some"]) qLTaken fun f fd F => F.binds fun _ _ _ _ _ _ us hl => match us, hl with | [_, _], _ => rfl
  obtain ⟨fLChooser, dLChooser, DLChooser⟩ := has_df X G (ps := ["_law_offers", "_law_lists_here"]) qLChooser fun f fd F => F.binds fun _ _ _ _ _ _ us hl => match us, hl with | [_, _], _ => rfl
  obtain ⟨fLKept, dLKept, DLKept⟩ := has_df X G (ps := ["_law_sides", "_law_offers", "_law_standing"]) qLKept fun f fd F => F.binds fun _ _ _ _ _ _ us hl => match us, hl with | [_, _, _], _ => rfl
  obtain ⟨fLDated, dLDated, DLDated⟩ := has_df X G (ps := ["_law_lives"]) qLDated fun f fd F => F.binds fun _ _ _ _ _ _ us hl => match us, hl with | [_], _ => rfl
  obtain ⟨fLBook, dLBook, DLBook⟩ := has_df X G (ps := ["_law_lives", "_law_dated", "_law_deed"]) qLBook fun f fd F => F.binds fun _ _ _ _ _ _ us hl => match us, hl with | [_, _, _], _ => rfl
  obtain ⟨fLS, dLS, cS, aS, FS, hS⟩ := qLSets
  have gS := PySem.W.mg_of X G aS
  have FSf := FS.toFun
  have bS : Binds K dLS ["_law_offers"] [] := FSf.binds fun _ _ _ _ _ _ us hl => match us, hl with | [_], _ => rfl
  obtain ⟨fPO, dPO, aPO, FPO⟩ := qPosOf
  have gPO := PySem.W.mg_of X G aPO
  obtain ⟨fL, dL, aL, FL⟩ := qLaw
  have gL := PySem.W.mg_of X G aL
  have e := hfa.symm.trans gL
  cases e
  have gC := PySem.W.mg_of X G qC
  have gT := PySem.W.mg_of X G qT
  obtain ⟨fIC, dIC, mC, FIC⟩ := iC
  obtain ⟨fIT, dIT, mT, FIT⟩ := iT
  have bIC : Binds K dIC ["self", "offers", "picks"] [] := FIC.binds fun _ _ _ _ _ _ us hl => match us, hl with | [_, _, _], _ => rfl
  have bIT : Binds K dIT ["self", "lives", "loose"] [] := FIT.binds fun _ _ _ _ _ _ us hl => match us, hl with | [_, _, _], _ => rfl
  obtain ⟨fNC, dNC, hNC, iNC, FNC⟩ := lC
  obtain ⟨fNT, dNT, hNT, iNT, FNT⟩ := lT
  have LC : Ln K C "Chooser.__len__" sCLen fNC dNC := ⟨FNC, FNC.binds fun _ _ _ _ _ _ us hl => match us, hl with | [_], _ => rfl, hNC, iNC⟩
  have LT' : Ln K T "Trade.__len__" sTLen fNT dNT := ⟨FNT, FNT.binds fun _ _ _ _ _ _ us hl => match us, hl with | [_], _ => rfl, hNT, iNT⟩
  obtain ⟨t1, v1⟩ := v1
  obtain ⟨t2, v2⟩ := v2
  obtain ⟨t3, v3⟩ := v3
  have g1 := PySem.W.mg_of X G v1
  have g2 := PySem.W.mg_of X G v2
  have g3 := PySem.W.mg_of X G v3
  have T' : Txt mg := ⟨PySem.W.mg_none_of X G z0, PySem.W.mg_none_of X G z1, PySem.W.mg_none_of X G z2, PySem.W.mg_none_of X G z3, PySem.W.mg_none_of X G z4, PySem.W.mg_none_of X G z5, PySem.W.mg_none_of X G z6, PySem.W.mg_none_of X G z7, PySem.W.mg_none_of X G z8, PySem.W.mg_none_of X G z9, PySem.W.mg_none_of X G z10⟩
  obtain ⟨dsP, vP, bP⟩ := FPO.binds0 (ps := ["near", "far", "trade", "most"]) 3 (by simp) rfl fun D doc pm an cdv ct us ks hu hk => by
    match us, hu, ks, hk with
    | [_, _, _], _, [_], _ => exact ⟨_, _, _, _, _, _, rfl, rfl, rfl⟩
  refine ⟨dL, [(cS, pT)], spLaw K [(pT, lamQ)], ?_, ?_, ?_, ?_, ?_, ?_⟩
  · intro p hp; rw [List.mem_singleton.mp hp]; exact tP
  · intro p hp; rw [List.mem_singleton.mp hp]; exact nP
  · intro p hp; rw [List.mem_singleton.mp hp]; exact codeHd_of_K X hS
  · intro s u
    obtain ⟨oc, od, kV, doc, pm, an, cdv, ct, osl, rfl, _⟩ := FL.ex
    exact .of_eq rfl
  · exact fun H a ns hn _ hT hs => ⟨a, ns, rfl, hs, hn, fun p hp => by rw [List.mem_singleton.mp hp]; exact TabS.nil (hT (cS, pT) (List.mem_singleton.mpr rfl)), fun _ => rfl⟩
  · intro base KB GB hTB
    have TB : TabB base mg cS pT := hTB (cS, pT) (List.mem_singleton.mpr rfl)
    have gWhole : ∀ {k : Nat}, FnOk l.prog w K mg base CX0 (k + 1) fWhole dWhole ["thing"] (spA K rWhole) := fun {k} => ok_whole DWhole.F T'
    have gIsSet : ∀ {k : Nat}, FnOk l.prog w K mg base CX0 (k + 2) fIsSet dIsSet ["offers", "thing"] (spA K rIsSet) := fun {k} => ok_isset DIsSet.F DWhole.F DWhole.b DWhole.g T'
    have gAll : ∀ {k : Nat}, FnOk l.prog w K mg base CX0 (k + 1) fAll dAll ["offers"] (spA K rAll) := fun {k} => ok_all DAll.F T'
    have gSubs : ∀ {k : Nat}, FnOk l.prog w K mg base CX0 (k + 2) fSubs dSubs ["some"] (spN K rSubs) := fun {k} => ok_subs DSubs.F DAll gAll T'
    have gWith : ∀ {k : Nat}, FnOk l.prog w K mg base CX0 (k + 2) fWith dWith ["some", "offer"] (spA K rWith) := fun {k} => ok_with DWith.F DTog T'
    have gAgr : ∀ {k : Nat}, FnOk l.prog w K mg base CX0 (k + 1) fAgr dAgr ["near", "far", "some"] (spA K (rAgr K l.prog w C)) := fun {k} => ok_agr DAgr.F Z
    have gWish : ∀ {k : Nat}, FnOk l.prog w K mg base CX0 (k + 3) fWish dWish ["near", "far", "standing", "some"] (spA K (rWish K l.prog w C)) := fun {k} => ok_wish DWish.F DWith gWith Z T'
    have gSide : ∀ {k : Nat}, FnOk l.prog w K mg base CX0 (k + 4) fSide dSide ["near", "far", "standing", "part"] (spA K (rSide K l.prog w C)) := fun {k} => ok_side DSide.F DAgr (gAgr (k := k + 2)) DWish gWish
    have gSett : ∀ {k : Nat}, FnOk l.prog w K mg base CX0 (k + 5) fSett dSett ["near", "far", "standing"] (spA K (rSett K l.prog w C)) := fun {k} => ok_sett DSett.F DSubs (gSubs (k := k + 2)) DSide gSide T'
    have gFit : ∀ {k : Nat}, FnOk l.prog w K mg base CX0 (k + 2) fFit dFit ["lives"] (spA K rFit) := fun {k} => ok_fit DFit.F DWhole gWhole T' g2 g3
    have gOffs : ∀ {k : Nat}, FnOk l.prog w K mg base CX0 (k + 1) fOffs dOffs ["dated"] (spA K rOffs) := fun {k} => ok_offs DOffs.F T'
    have gDated : ∀ {k : Nat}, FnOk l.prog w K mg base CX0 (k + 2) fDated dDated ["trade", "thing"] (spA K (rDated K T)) := fun {k} => ok_dated DDated.F DWhole gWhole T' Z
    have gDeed : ∀ {k : Nat}, FnOk l.prog w K mg base CX0 (k + 2) fDeed dDeed ["trade", "thing"] (spA K (rDeed K T)) := fun {k} => ok_deed DDeed.F DWhole gWhole T' Z
    have gBeh : ∀ {k : Nat}, FnOk l.prog w K mg base CX0 (k + 1) fBeh dBeh ["trade", "dated", "deed"] (spA K (rBeh K T)) := fun {k} => ok_beh DBeh.F T' Z
    have gAllD : ∀ {k : Nat}, FnOk l.prog w K mg base CX0 (k + 1) fAllD dAllD ["trade"] (spN K (rAllD K T)) := fun {k} => ok_alld DAllD.F T' Z
    have gPSet : ∀ {k : Nat}, FnOk l.prog w K mg base CX0 (k + 6) fPSet dPSet ["near", "far", "some", "known"] (spPSet K l.prog w C) := fun {k} => ok_pset DPSet.F DSett gSett T'
    have gSame : ∀ {k : Nat}, FnOk l.prog w K mg base CX0 (k + 3) fSame dSame ["things"] (spSame K l.prog w C T) := fun {k} => ok_same DSame.F LC LT' T' Z
    have gPOne : FnOk l.prog w K mg base CX0 7 fPOne dPOne ["near", "far", "trade", "thing", "known"] (spOne K l.prog w C T) := ok_one (k := 4) DPOne.F DDated (gDated (k := 4)) DIsSet (gIsSet (k := 4)) LC LT' DPSet (gPSet (k := 0)) DOffs (gOffs (k := 5)) T' Z
    have gPList : FnOk l.prog w K mg base CX0 7 fPList dPList ["near", "far", "trade", "most"] (spN K (rList K l.prog w C T)) := ok_list (k := 6) DPList.F DAllD (gAllD (k := 5)) DPSet (gPSet (k := 0)) DOffs (gOffs (k := 5)) T'
    have gPart : ∀ {k : Nat}, FnOk l.prog w K mg base CX0 (k + 1) fPart dPart ["part", "some"] (spA K rPart) := fun {k} => ok_part DPart.F
    have gIC : FnOk l.prog w K mg base CX0 6 fIC dIC ["self", "offers", "picks"] (spCI K l.prog w C) := ok_ci (k := 5) FIC DWhole (gWhole (k := 4)) DAll (gAll (k := 4)) DIsSet (gIsSet (k := 3)) DPart (gPart (k := 4)) g1 T' Z
    have gIT : FnOk l.prog w K mg base CX0 7 fIT dIT ["self", "lives", "loose"] (spTI K T) := ok_ti (k := 6) FIT DFit (gFit (k := 4)) DIsSet (gIsSet (k := 4)) T' Z
    have gPosOf : FnOk l.prog w K mg base CX0 8 fPO dPO ["near", "far", "trade", "most"] (spA K (rPosOf K l.prog w C T)) := ok_posof (k := 7) FPO DSame (gSame (k := 4)) DPList gPList T'
    have gMoves : FnOk l.prog w K mg base CX0 8 fMoves dMoves ["near", "far", "trade", "position", "deed"] (spA K (rMoves K l.prog w C T)) := ok_moves (k := 7) DMoves.F DSame (gSame (k := 4)) DPOne gPOne DDeed (gDeed (k := 5)) DBeh (gBeh (k := 6)) DPSet (gPSet (k := 1)) DOffs (gOffs (k := 6)) T'
    have gDeck : FnOk l.prog w K mg base CX0 8 fLDeck dLDeck ["_law_script"] (spDeck K) := ok_deck (k := 7) DLDeck.F T'
    have gDraw : FnOk l.prog w K mg base CX0 8 fLDraw dLDraw ["_law_deck_here", "_law_below"] spDraw := ok_draw (k := 7) DLDraw.F
    have gLists : FnOk l.prog w K mg base CX0 8 fLLists dLLists ["_law_deck_here", "_law_offers"] (spLists K) := ok_lists (k := 5) DLLists.F DLPick DLDraw T'
    have gPick : FnOk l.prog w K mg base CX0 8 fLPick dLPick ["_law_deck_here", "_law_some"] (spPick K) := ok_pick (k := 6) DLPick.F DLDraw T'
    have gSets : FnOk l.prog w K mg base CX0 8 fLS dLS ["_law_offers"] (spLSets K [(pT, lamQ)]) := ok_lsets (k := 7) FS T' TB
    have gLCh : FnOk l.prog w K mg base CX0 8 fLChooser dLChooser ["_law_offers", "_law_lists_here"] (spLCh K l.prog w C [(pT, lamQ)]) := ok_lch (k := 6) DLChooser.F gS bS FS TB DLTaken mC bIC gIC gC T'
    have gLD : FnOk l.prog w K mg base CX0 8 fLDated dLDated ["_law_lives"] (spLD K) := ok_ld (k := 7) DLDated.F T'
    have gLK : FnOk l.prog w K mg base CX0 8 fLKept dLKept ["_law_sides", "_law_offers", "_law_standing"] (spLK K [(pT, lamQ)]) := ok_lk (k := 6) DLKept.F gS bS FS TB DLTaken T'
    have gLB : FnOk l.prog w K mg base CX0 8 fLBook dLBook ["_law_lives", "_law_dated", "_law_deed"] (spLB K) := ok_lb (k := 7) DLBook.F T'
    have gIsPos : FnOk l.prog w K mg base CX0 8 fIsPos dIsPos ["near", "far", "trade", "thing"] (spA K (rIsPos K l.prog w C T)) := ok_ispos (k := 7) DIsPos.F DSame (gSame (k := 4)) DPOne gPOne
    have gBrok : FnOk l.prog w K mg base CX0 8 fBrok dBrok ["position", "following"] (spA K rBrok) := ok_brok (k := 7) DBrok.F DOffs (gOffs (k := 6)) T'
    refine ok_law (k := 7) (C := C) (T := T) FL ?_
    refine ⟨df_fn DLDeck gDeck, df_fn DLDraw gDraw, df_fn DLLists gLists, df_fn DLPick gPick, ⟨fLS, dLS, [], gS, bS, .nil, FS.kp, gSets⟩, df_fn DLChooser gLCh, ⟨fIT, dIT, mT, bIT, gIT, gT⟩, df_fn DLDated gLD,
      df_fn DLKept gLK, df_fn DLBook gLB, ⟨fPO, dPO, dsP, gPO, bP, vP, FPO.kp, gPosOf⟩, ?_, df_fn DIsPos gIsPos, df_fn DMoves gMoves, ?_, df_fn DBrok gBrok, T'⟩
    · refine ⟨fPO, dPO, gPO, ⟨fun s ws hK hl => ?_, fun hl r => r⟩, FPO.kp, gPosOf⟩
      obtain ⟨oc, od, dV, kV, doc, pm, an, cdv, ct, osl, rfl, _, _, hD, _⟩ := FPO.ex
      obtain rfl : dV = .none := hD.elim (fun h => h.2) fun h => absurd rfl h.1
      match ws, hl with
      | [_, _, _, _], _ => exact .of_eq rfl
    · refine ⟨fMoves, dMoves, DMoves.g, ⟨fun s ws hK hl => ?_, fun hl r => vals_rev r⟩, DMoves.F.kp, gMoves⟩
      obtain ⟨oc, od, kV, doc, pm, an, cdv, ct, osl, rfl, _⟩ := DMoves.F.ex
      match ws, hl with
      | [_, _, _, _, _], _ => exact .of_eq rfl
end K49
open PySem PySem.W PyProof.Rows L2
set_option maxHeartbeats 0 in
open_top K49.hd for PySem.Challenge.rw_offerstands_k49_whole_positions_and_move
theorem K49.kw1 {K : PySem.W.Frag} {D : Addr} {t : Tok} (h : PySem.W.nsIn K D "most" = some (some (.int 400 t))) : KwdV K (.ref D) [("most", .int 400)] := .inr ⟨D, rfl, fun q hq => by
  rw [List.mem_singleton.mp hq]
  exact ⟨_, h, t, rfl⟩⟩
theorem K49.ex_tok {K : PySem.W.Frag} {x : Str} {n : Int} {t : Tok} (h : PySem.W.nsIn K mainGlobals x = some (some (.int n t))) : ∃ t, PySem.W.nsIn K mainGlobals x = some (some (.int n t)) := ⟨t, h⟩
theorem K49.fund_mk {K : PySem.W.Frag} {f D : Addr} {oc : Value} {od an : Option Addr} {osl : Array (Option Value)} {doc pm cdv ct : Value} {t : Tok} (l : K.lookup f = some ⟨oc, od, .func (PySem.W.fnOf "positions_of" "positions_of" (defArgs K49.sPosOf) (defBody K49.sPosOf) (defScope K49.sPosOf) .none (.ref D) doc pm an cdv ct), osl⟩)
    (c : PySem.W.codeIn K cdv "positions_of" = true) (k : PySem.W.keepIn K (.ref f) = true) (n : PySem.W.nsIn K D "most" = some (some (.int 400 t))) : FunD K "positions_of" "positions_of" (defArgs K49.sPosOf) (defBody K49.sPosOf) (defScope K49.sPosOf) [] [("most", .int 400)] f (PySem.W.fnOf "positions_of" "positions_of" (defArgs K49.sPosOf) (defBody K49.sPosOf) (defScope K49.sPosOf) .none (.ref D) doc pm an cdv ct) :=
  ⟨⟨oc, od, .none, .ref D, doc, pm, an, cdv, ct, osl, rfl, l, c, .inl ⟨rfl, rfl⟩, K49.kw1 n⟩, k⟩
set_option maxHeartbeats 0 in
theorem PySem.Challenge.cw_offerstands_k49_whole_positions_and_move_holds : PySem.Challenge.rw_offerstands_k49_whole_positions_and_move.Holds :=
  K49.hd (by
  k_fill
  refine LamX.walk_ofTs (l := PySem.Challenge.rw_offerstands_k49_whole_positions_and_move) (n := 63) (k := 9) (x := "_law_script") (CX := fun _ => L2.CX0) rfl (by decide) rfl ⟨rfl, by decide, by decide⟩ (fun w h Y => PySem.W.km_in_of Y) ?F (fun _ _ _ _ _ z => z)
  case F =>
    intro w mg fa h Y KX G hmg
    refine' K49.all_mk (pT := 520) KX G hmg ?qWhole ?qIsSet ?qAll ?qSubs ?qTog ?qSame ?qPart ?qWith ?qAgr ?qWish ?qSide ?qSett ?qFit ?qDated ?qDeed ?qOffs ?qAllD ?qBeh ?qPSet ?qPOne ?qPList ?qIsPos ?qMoves ?qBrok ?qLDeck ?qLDraw ?qLPick ?qLLists ?qLTaken ?qLChooser ?qLKept ?qLDated ?qLBook ?qLSets ?qPosOf ?qLaw ?nP ?tP ?qC ?qT ?Z ?iC ?iT ?lC ?lT ?v1 ?v2 ?v3 ?z0 ?z1 ?z2 ?z3 ?z4 ?z5 ?z6 ?z7 ?z8 ?z9 ?z10
    (case qC => k_is); (case qT => k_is)
    (case qWhole => refine' ⟨_, _, ?a, fun_mk ?l ?c ?k⟩; (case a => k_is); (case l => k_is); (case c => k_is); (case k => k_is))
    (case qIsSet => refine' ⟨_, _, ?a, fun_mk ?l ?c ?k⟩; (case a => k_is); (case l => k_is); (case c => k_is); (case k => k_is))
    (case qAll => refine' ⟨_, _, ?a, fun_mk ?l ?c ?k⟩; (case a => k_is); (case l => k_is); (case c => k_is); (case k => k_is))
    (case qSubs => refine' ⟨_, _, ?a, fun_mk ?l ?c ?k⟩; (case a => k_is); (case l => k_is); (case c => k_is); (case k => k_is))
    (case qTog => refine' ⟨_, _, ?a, fun_mk ?l ?c ?k⟩; (case a => k_is); (case l => k_is); (case c => k_is); (case k => k_is))
    (case qSame => refine' ⟨_, _, ?a, fun_mk ?l ?c ?k⟩; (case a => k_is); (case l => k_is); (case c => k_is); (case k => k_is))
    (case qPart => refine' ⟨_, _, ?a, fun_mk ?l ?c ?k⟩; (case a => k_is); (case l => k_is); (case c => k_is); (case k => k_is))
    (case qWith => refine' ⟨_, _, ?a, fun_mk ?l ?c ?k⟩; (case a => k_is); (case l => k_is); (case c => k_is); (case k => k_is))
    (case qAgr => refine' ⟨_, _, ?a, fun_mk ?l ?c ?k⟩; (case a => k_is); (case l => k_is); (case c => k_is); (case k => k_is))
    (case qWish => refine' ⟨_, _, ?a, fun_mk ?l ?c ?k⟩; (case a => k_is); (case l => k_is); (case c => k_is); (case k => k_is))
    (case qSide => refine' ⟨_, _, ?a, fun_mk ?l ?c ?k⟩; (case a => k_is); (case l => k_is); (case c => k_is); (case k => k_is))
    (case qSett => refine' ⟨_, _, ?a, fun_mk ?l ?c ?k⟩; (case a => k_is); (case l => k_is); (case c => k_is); (case k => k_is))
    (case qFit => refine' ⟨_, _, ?a, fun_mk ?l ?c ?k⟩; (case a => k_is); (case l => k_is); (case c => k_is); (case k => k_is))
    (case qDated => refine' ⟨_, _, ?a, fun_mk ?l ?c ?k⟩; (case a => k_is); (case l => k_is); (case c => k_is); (case k => k_is))
    (case qDeed => refine' ⟨_, _, ?a, fun_mk ?l ?c ?k⟩; (case a => k_is); (case l => k_is); (case c => k_is); (case k => k_is))
    (case qOffs => refine' ⟨_, _, ?a, fun_mk ?l ?c ?k⟩; (case a => k_is); (case l => k_is); (case c => k_is); (case k => k_is))
    (case qAllD => refine' ⟨_, _, ?a, fun_mk ?l ?c ?k⟩; (case a => k_is); (case l => k_is); (case c => k_is); (case k => k_is))
    (case qBeh => refine' ⟨_, _, ?a, fun_mk ?l ?c ?k⟩; (case a => k_is); (case l => k_is); (case c => k_is); (case k => k_is))
    (case qPSet => refine' ⟨_, _, ?a, fun_mk ?l ?c ?k⟩; (case a => k_is); (case l => k_is); (case c => k_is); (case k => k_is))
    (case qPOne => refine' ⟨_, _, ?a, fun_mk ?l ?c ?k⟩; (case a => k_is); (case l => k_is); (case c => k_is); (case k => k_is))
    (case qPList => refine' ⟨_, _, ?a, fun_mk ?l ?c ?k⟩; (case a => k_is); (case l => k_is); (case c => k_is); (case k => k_is))
    (case qIsPos => refine' ⟨_, _, ?a, fun_mk ?l ?c ?k⟩; (case a => k_is); (case l => k_is); (case c => k_is); (case k => k_is))
    (case qMoves => refine' ⟨_, _, ?a, fun_mk ?l ?c ?k⟩; (case a => k_is); (case l => k_is); (case c => k_is); (case k => k_is))
    (case qBrok => refine' ⟨_, _, ?a, fun_mk ?l ?c ?k⟩; (case a => k_is); (case l => k_is); (case c => k_is); (case k => k_is))
    (case qLDeck => refine' ⟨_, _, ?a, fun_mk ?l ?c ?k⟩; (case a => k_is); (case l => k_is); (case c => k_is); (case k => k_is))
    (case qLDraw => refine' ⟨_, _, ?a, fun_mk ?l ?c ?k⟩; (case a => k_is); (case l => k_is); (case c => k_is); (case k => k_is))
    (case qLPick => refine' ⟨_, _, ?a, fun_mk ?l ?c ?k⟩; (case a => k_is); (case l => k_is); (case c => k_is); (case k => k_is))
    (case qLLists => refine' ⟨_, _, ?a, fun_mk ?l ?c ?k⟩; (case a => k_is); (case l => k_is); (case c => k_is); (case k => k_is))
    (case qLTaken => refine' ⟨_, _, ?a, fun_mk ?l ?c ?k⟩; (case a => k_is); (case l => k_is); (case c => k_is); (case k => k_is))
    (case qLChooser => refine' ⟨_, _, ?a, fun_mk ?l ?c ?k⟩; (case a => k_is); (case l => k_is); (case c => k_is); (case k => k_is))
    (case qLKept => refine' ⟨_, _, ?a, fun_mk ?l ?c ?k⟩; (case a => k_is); (case l => k_is); (case c => k_is); (case k => k_is))
    (case qLDated => refine' ⟨_, _, ?a, fun_mk ?l ?c ?k⟩; (case a => k_is); (case l => k_is); (case c => k_is); (case k => k_is))
    (case qLBook => refine' ⟨_, _, ?a, fun_mk ?l ?c ?k⟩; (case a => k_is); (case l => k_is); (case c => k_is); (case k => k_is))
    (case qLaw => refine' ⟨_, _, ?a, fun_mk ?l ?c ?k⟩; (case a => k_is); (case l => k_is); (case c => k_is); (case k => k_is))
    (case qLSets => refine' ⟨_, _, _, ?a, K49.func_mk ?l ?c ?k, ?h⟩; (case a => k_is); (case l => k_is); (case c => k_is); (case k => k_is); (case h => kernel_rfl))
    (case qPosOf => refine' ⟨_, _, ?a, K49.fund_mk ?l ?c ?k ?n⟩; (case a => k_is); (case l => k_is); (case c => k_is); (case n => k_is); (case k => k_is))
    (case nP => kernel_rfl)
    (case tP => exact PySem.W.km_tabs_of Y 520 (by simp))
    (case Z => refine' ⟨⟨?a1, ?a2, ?a3, ?a4⟩, ⟨?b1, ?b2, ?b3, ?b4⟩, ?n1, ?n2, ?n3, ?n4, ?n5, ?n6⟩; (case a1 => k_is); (case a2 => k_is); (case a3 => k_is); (case a4 => k_is); (case b1 => k_is); (case b2 => k_is); (case b3 => k_is); (case b4 => k_is); all_goals (show PySem.W.findIn _ _ _ = _; k_is))
    (case iC => refine' ⟨_, _, ⟨?a, ?b, ?c, ?d⟩, fun_mk ?l ?e ?k⟩; (case a => k_is); (case b => k_is); (case c => k_is); (case d => k_is); (case l => k_is); (case e => k_is); (case k => k_is))
    (case iT => refine' ⟨_, _, ⟨?a, ?b, ?c, ?d⟩, fun_mk ?l ?e ?k⟩; (case a => k_is); (case b => k_is); (case c => k_is); (case d => k_is); (case l => k_is); (case e => k_is); (case k => k_is))
    (case lC => refine' ⟨_, _, ?a, ?b, fun_mk ?l ?e ?k⟩; (case a => k_is); (case b => k_is); (case l => k_is); (case e => k_is); (case k => k_is))
    (case lT => refine' ⟨_, _, ?a, ?b, fun_mk ?l ?e ?k⟩; (case a => k_is); (case b => k_is); (case l => k_is); (case e => k_is); (case k => k_is))
    (case v1 => refine' K49.ex_tok ?w1; (case w1 => k_is)); (case v2 => refine' K49.ex_tok ?w2; (case w2 => k_is)); (case v3 => refine' K49.ex_tok ?w3; (case w3 => k_is))
    (case z0 => k_is); (case z1 => k_is); (case z2 => k_is); (case z3 => k_is); (case z4 => k_is); (case z5 => k_is); (case z6 => k_is); (case z7 => k_is); (case z8 => k_is); (case z9 => k_is); (case z10 => k_is))
