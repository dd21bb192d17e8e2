import PyProof.Rows.All
import Wide.All
import OpenK.AllK
import Wide.FinOn
import HandS.ForMost
import HandS.SetFor
import HandS.NoneIn
import HandS.IsInst
import PySem.Challenge.RW_treeasks_k14_whole_ways_of_three
set_option Elab.async false
set_option linter.all false
set_option maxRecDepth 100000
set_option maxHeartbeats 4000000
/-! The mathematics of ways on a tree: parents as a list of numbers, nothing of the program in sight. -/
namespace Ways

/-- the parent of place k, forced to lie ahead of k -/
def pr (ps : List Nat) (k : Nat) : Nat := min (ps.getD (k - 1) 0) (k - 1)
theorem pr_lt (ps : List Nat) {k : Nat} (h : 0 < k) : pr ps k < k := by
  unfold pr
  omega
theorem pr_zero (ps : List Nat) : pr ps 0 = 0 := by
  unfold pr
  omega
/-- each parent lies ahead -/
def Ahead (ps : List Nat) : Prop := ∀ (i x : Nat), ps[i]? = some x → x ≤ i
theorem pr_of {ps : List Nat} (A : Ahead ps) {i x : Nat} (h : ps[i]? = some x) : pr ps (i + 1) = x := by
  have q := A i x h
  unfold pr
  rw [Nat.add_sub_cancel, List.getD_eq_getElem?_getD, h]
  show min x i = x
  omega

/-- the ties from place x up to the root -/
def up (ps : List Nat) (x : Nat) : List Nat := if h : 0 < x then x :: up ps (pr ps x) else []
termination_by x
decreasing_by exact pr_lt ps h
theorem up_zero (ps : List Nat) : up ps 0 = [] := by
  rw [up, dif_neg (by omega)]
theorem up_pos (ps : List Nat) {x : Nat} (h : 0 < x) : up ps x = x :: up ps (pr ps x) := by
  rw [up, dif_pos h]
theorem up_le (ps : List Nat) : ∀ (x k : Nat), k ∈ up ps x → 0 < k ∧ k ≤ x := by
  intro x
  induction x using Nat.strongRecOn with
  | ind x ih =>
    intro k hk
    by_cases h : 0 < x
    · rw [up_pos ps h] at hk
      rcases List.mem_cons.mp hk with e | hk
      · omega
      · have l := pr_lt ps h
        have q := ih _ l k hk
        omega
    · have e : x = 0 := by omega
      subst e
      rw [up_zero] at hk
      cases hk
theorem up_self (ps : List Nat) {x : Nat} (h : 0 < x) : x ∈ up ps x := by
  rw [up_pos ps h]
  exact List.mem_cons_self
theorem mem_up (ps : List Nat) {x k : Nat} (h : 0 < x) : k ∈ up ps x ↔ k = x ∨ k ∈ up ps (pr ps x) := by
  rw [up_pos ps h]
  exact List.mem_cons
/-- two on one line to the root: the smaller is above the greater -/
theorem up_line (ps : List Nat) : ∀ (c x y : Nat), x ∈ up ps c → y ∈ up ps c → x ≤ y → x ∈ up ps y := by
  intro c
  induction c using Nat.strongRecOn with
  | ind c ih =>
    intro x y hx hy hxy
    by_cases h : 0 < c
    · rcases (mem_up ps h).mp hy with e | hy'
      · rw [e]
        exact hx
      · have l := pr_lt ps h
        have q := up_le ps _ _ hy'
        rcases (mem_up ps h).mp hx with e | hx'
        · omega
        · exact ih _ l x y hx' hy' hxy
    · have e : c = 0 := by omega
      subst e
      rw [up_zero] at hx
      cases hx
theorem up_trans (ps : List Nat) : ∀ (c y x : Nat), y ∈ up ps c → x ∈ up ps y → x ∈ up ps c := by
  intro c
  induction c using Nat.strongRecOn with
  | ind c ih =>
    intro y x hy hx
    by_cases h : 0 < c
    · rcases (mem_up ps h).mp hy with e | hy'
      · rw [← e]
        exact hx
      · exact (mem_up ps h).mpr (.inr (ih _ (pr_lt ps h) y x hy' hx))
    · have e : c = 0 := by omega
      subst e
      rw [up_zero] at hy
      cases hy

/-- the depth of a place -/
def dep (ps : List Nat) (x : Nat) : Nat := (up ps x).length
theorem dep_zero (ps : List Nat) : dep ps 0 = 0 := by
  unfold dep
  rw [up_zero]
  rfl
theorem dep_pos (ps : List Nat) {x : Nat} (h : 0 < x) : dep ps x = dep ps (pr ps x) + 1 := by
  unfold dep
  rw [up_pos ps h]
  rfl
theorem dep_le (ps : List Nat) : ∀ x : Nat, dep ps x ≤ x := by
  intro x
  induction x using Nat.strongRecOn with
  | ind x ih =>
    by_cases h : 0 < x
    · have l := pr_lt ps h
      have q := ih _ l
      rw [dep_pos ps h]
      omega
    · have e : x = 0 := by omega
      subst e
      rw [dep_zero]
      exact Nat.le_refl _

/-- the ties between two places as they are found, and where the way turns -/
def way (ps : List Nat) (a b : Nat) : List Nat :=
  if h : a = b then [] else if g : a < b then b :: way ps a (pr ps b) else a :: way ps (pr ps a) b
termination_by a + b
decreasing_by
  · have := pr_lt ps (k := b) (by omega); omega
  · have := pr_lt ps (k := a) (by omega); omega
def meet (ps : List Nat) (a b : Nat) : Nat :=
  if h : a = b then a else if g : a < b then meet ps a (pr ps b) else meet ps (pr ps a) b
termination_by a + b
decreasing_by
  · have := pr_lt ps (k := b) (by omega); omega
  · have := pr_lt ps (k := a) (by omega); omega
theorem way_same (ps : List Nat) (a : Nat) : way ps a a = [] := by
  rw [way, dif_pos rfl]
theorem way_lt (ps : List Nat) {a b : Nat} (h : a < b) : way ps a b = b :: way ps a (pr ps b) := by
  rw [way, dif_neg (by omega), dif_pos h]
theorem way_gt (ps : List Nat) {a b : Nat} (h : b < a) : way ps a b = a :: way ps (pr ps a) b := by
  rw [way, dif_neg (by omega), dif_neg (by omega)]
theorem meet_same (ps : List Nat) (a : Nat) : meet ps a a = a := by
  rw [meet, dif_pos rfl]
theorem meet_lt (ps : List Nat) {a b : Nat} (h : a < b) : meet ps a b = meet ps a (pr ps b) := by
  rw [meet, dif_neg (by omega), dif_pos h]
theorem meet_gt (ps : List Nat) {a b : Nat} (h : b < a) : meet ps a b = meet ps (pr ps a) b := by
  rw [meet, dif_neg (by omega), dif_neg (by omega)]
/-- one induction for all that is said of two places -/
theorem both (ps : List Nat) {C : Nat → Nat → Prop} (h0 : ∀ a, C a a) (h1 : ∀ a b, a < b → C a (pr ps b) → C a b) (h2 : ∀ a b, b < a → C (pr ps a) b → C a b) : ∀ a b, C a b := by
  have key : ∀ n a b, a + b = n → C a b := by
    intro n
    induction n using Nat.strongRecOn with
    | ind n ih =>
      intro a b e
      rcases Nat.lt_trichotomy a b with g | g | g
      · have l := pr_lt ps (k := b) (by omega)
        exact h1 a b g (ih (a + pr ps b) (by omega) a (pr ps b) rfl)
      · subst g
        exact h0 a
      · have l := pr_lt ps (k := a) (by omega)
        exact h2 a b g (ih (pr ps a + b) (by omega) (pr ps a) b rfl)
  exact fun a b => key _ a b rfl
theorem way_comm (ps : List Nat) : ∀ a b, way ps a b = way ps b a := by
  refine both ps (fun a => rfl) (fun a b g ih => ?_) (fun a b g ih => ?_)
  · rw [way_lt ps g, way_gt ps g, ih]
  · rw [way_gt ps g, way_lt ps g, ih]
theorem meet_comm (ps : List Nat) : ∀ a b, meet ps a b = meet ps b a := by
  refine both ps (fun a => rfl) (fun a b g ih => ?_) (fun a b g ih => ?_)
  · rw [meet_lt ps g, meet_gt ps g, ih]
  · rw [meet_gt ps g, meet_lt ps g, ih]
theorem meet_le (ps : List Nat) : ∀ a b, meet ps a b ≤ a ∧ meet ps a b ≤ b := by
  refine both ps (fun a => ?_) (fun a b g ih => ?_) (fun a b g ih => ?_)
  · rw [meet_same]
    omega
  · have l := pr_lt ps (k := b) (by omega)
    rw [meet_lt ps g]
    omega
  · have l := pr_lt ps (k := a) (by omega)
    rw [meet_gt ps g]
    omega
/-- what lies above the meeting lies above both, and the other way round -/
theorem meet_up (ps : List Nat) : ∀ a b, ∀ z, z ∈ up ps (meet ps a b) ↔ z ∈ up ps a ∧ z ∈ up ps b := by
  refine both ps (fun a z => ?_) (fun a b g ih z => ?_) (fun a b g ih z => ?_)
  · rw [meet_same]
    exact ⟨fun h => ⟨h, h⟩, fun h => h.1⟩
  · rw [meet_lt ps g, ih z, mem_up ps (x := b) (by omega)]
    refine ⟨fun h => ⟨h.1, .inr h.2⟩, fun h => ⟨h.1, ?_⟩⟩
    rcases h.2 with e | q
    · have l := up_le ps _ _ h.1
      omega
    · exact q
  · rw [meet_gt ps g, ih z, mem_up ps (x := a) (by omega)]
    refine ⟨fun h => ⟨.inr h.1, h.2⟩, fun h => ⟨?_, h.2⟩⟩
    rcases h.1 with e | q
    · have l := up_le ps _ _ h.2
      omega
    · exact q
/-- a tie is on the way where it is above just one of the two -/
theorem mem_way (ps : List Nat) : ∀ a b, ∀ k, k ∈ way ps a b ↔ ¬ (k ∈ up ps a ↔ k ∈ up ps b) := by
  refine both ps (fun a k => ?_) (fun a b g ih k => ?_) (fun a b g ih k => ?_)
  · rw [way_same]
    exact ⟨fun h => (nomatch h), fun h => absurd Iff.rfl h⟩
  · have pb : 0 < b := by omega
    rw [way_lt ps g, List.mem_cons, ih k, mem_up ps pb]
    by_cases e : k = b
    · subst e
      have n1 : k ∉ up ps a := fun h => by
        have l := up_le ps _ _ h
        omega
      simp [n1]
    · simp [e]
  · have pa : 0 < a := by omega
    rw [way_gt ps g, List.mem_cons, ih k, mem_up ps pa]
    by_cases e : k = a
    · subst e
      have n1 : k ∉ up ps b := fun h => by
        have l := up_le ps _ _ h
        omega
      simp [n1]
    · simp [e]
theorem way_len (ps : List Nat) : ∀ a b, (way ps a b).length + 2 * dep ps (meet ps a b) = dep ps a + dep ps b := by
  refine both ps (fun a => ?_) (fun a b g ih => ?_) (fun a b g ih => ?_)
  · rw [way_same, meet_same]
    show 0 + 2 * dep ps a = dep ps a + dep ps a
    omega
  · rw [way_lt ps g, meet_lt ps g, dep_pos ps (x := b) (by omega), List.length_cons]
    omega
  · rw [way_gt ps g, meet_gt ps g, dep_pos ps (x := a) (by omega), List.length_cons]
    omega
theorem way_len_le (ps : List Nat) (a b : Nat) : (way ps a b).length ≤ a + b := by
  have q := way_len ps a b
  have l1 := dep_le ps a
  have l2 := dep_le ps b
  omega
theorem way_le (ps : List Nat) {a b k n : Nat} (ha : a ≤ n) (hb : b ≤ n) (h : k ∈ way ps a b) : 0 < k ∧ k ≤ n := by
  have q := (mem_way ps a b k).mp h
  by_cases ua : k ∈ up ps a
  · have l := up_le ps _ _ ua
    omega
  · by_cases ub : k ∈ up ps b
    · have l := up_le ps _ _ ub
      omega
    · exact absurd ⟨fun h => absurd h ua, fun h => absurd h ub⟩ q

/-! ### three places -/
theorem count3 (ps : List Nat) (a b c k : Nat) :
    [decide (k ∈ way ps a b), decide (k ∈ way ps b c), decide (k ∈ way ps c a)].count true = 0 ∨ [decide (k ∈ way ps a b), decide (k ∈ way ps b c), decide (k ∈ way ps c a)].count true = 2 := by
  have e1 := mem_way ps a b k
  have e2 := mem_way ps b c k
  have e3 := mem_way ps c a k
  by_cases u1 : k ∈ up ps a <;> by_cases u2 : k ∈ up ps b <;> by_cases u3 : k ∈ up ps c <;> simp [u1, u2, u3] at e1 e2 e3 <;> simp [e1, e2, e3]
/-- of two meetings that have a place in common the lesser is no more than the third -/
theorem meet3 (ps : List Nat) (a b c : Nat) : meet ps b c ≤ meet ps a b ∨ meet ps c a ≤ meet ps a b := by
  have key : ∀ m, 0 < m → m ∈ up ps a → m ∈ up ps b → m ≤ meet ps a b := fun m h0 ha hb => (up_le ps _ _ ((meet_up ps a b m).mpr ⟨ha, hb⟩)).2
  by_cases z2 : 0 < meet ps b c
  · by_cases z3 : 0 < meet ps c a
    · have s2 := (meet_up ps b c _).mp (up_self ps z2)
      have s3 := (meet_up ps c a _).mp (up_self ps z3)
      rcases Nat.le_total (meet ps b c) (meet ps c a) with g | g
      · have q := up_line ps c _ _ s2.2 s3.1 g
        exact .inl (key _ z2 ((meet_up ps c a _).mp q).2 s2.1)
      · have q := up_line ps c _ _ s3.1 s2.2 g
        exact .inr (key _ z3 s3.2 ((meet_up ps b c _).mp q).1)
    · exact .inr (by omega)
  · exact .inl (by omega)
theorem meets (ps : List Nat) (a b c : Nat) : meet ps a b = meet ps b c ∨ meet ps b c = meet ps c a ∨ meet ps a b = meet ps c a := by
  have h1 := meet3 ps a b c
  have h2 := meet3 ps b c a
  have h3 := meet3 ps c a b
  omega

/-! ### the way's two halves -/
/-- the ties from place x up to m -/
def seg (ps : List Nat) (x m : Nat) : List Nat := (up ps x).filter fun k => decide (m < k)
/-- m is x or lies above it -/
def Anc (ps : List Nat) (m x : Nat) : Prop := m = 0 ∨ m ∈ up ps x
theorem Anc.le {ps : List Nat} {m x : Nat} (h : Anc ps m x) : m ≤ x := by
  rcases h with h | h
  · omega
  · exact (up_le ps _ _ h).2
theorem meet_anc (ps : List Nat) (a b : Nat) : Anc ps (meet ps a b) a ∧ Anc ps (meet ps a b) b := by
  by_cases h : 0 < meet ps a b
  · have q := (meet_up ps a b _).mp (up_self ps h)
    exact ⟨.inr q.1, .inr q.2⟩
  · exact ⟨.inl (by omega), .inl (by omega)⟩
theorem Anc.step {ps : List Nat} {m x : Nat} (h : Anc ps m x) (n : x ≠ m) : 0 < x ∧ Anc ps m (pr ps x) := by
  have l := h.le
  have p : 0 < x := by omega
  refine ⟨p, ?_⟩
  rcases h with h | h
  · exact .inl h
  · rcases (mem_up ps p).mp h with e | q
    · exact absurd e.symm n
    · exact .inr q
theorem seg_self (ps : List Nat) (m : Nat) : seg ps m m = [] := by
  unfold seg
  refine List.filter_eq_nil_iff.mpr fun k hk => ?_
  have l := up_le ps _ _ hk
  simp
  omega
theorem seg_step {ps : List Nat} {m x : Nat} (h : m < x) : seg ps x m = x :: seg ps (pr ps x) m := by
  unfold seg
  rw [up_pos ps (show 0 < x by omega), List.filter_cons, if_pos (decide_eq_true h)]
theorem mem_seg {ps : List Nat} {x m k : Nat} : k ∈ seg ps x m ↔ k ∈ up ps x ∧ m < k := by
  unfold seg
  rw [List.mem_filter]
  simp
/-- the way is its two halves -/
theorem way_segs (ps : List Nat) : ∀ a b, List.Perm (way ps a b) (seg ps a (meet ps a b) ++ seg ps b (meet ps a b)) := by
  refine both ps (fun a => ?_) (fun a b g ih => ?_) (fun a b g ih => ?_)
  · rw [way_same, meet_same, seg_self]
    exact List.Perm.refl _
  · have l := (meet_le ps a (pr ps b)).1
    rw [way_lt ps g, meet_lt ps g, seg_step (ps := ps) (show meet ps a (pr ps b) < b by omega)]
    exact (List.Perm.cons b ih).trans List.perm_middle.symm
  · have l := (meet_le ps (pr ps a) b).2
    rw [way_gt ps g, meet_gt ps g, seg_step (ps := ps) (show meet ps (pr ps a) b < a by omega)]
    exact List.Perm.cons a ih
/-- of a half just one tie hangs from the meeting -/
theorem seg_tops (ps : List Nat) : ∀ x m, Anc ps m x → ((seg ps x m).filter fun t => decide (pr ps t = m)).length = if x = m then 0 else 1 := by
  intro x
  induction x using Nat.strongRecOn with
  | ind x ih =>
    intro m h
    by_cases e : x = m
    · subst e
      rw [seg_self, if_pos rfl]
      rfl
    · have q := h.step e
      have l := h.le
      rw [seg_step (ps := ps) (show m < x by omega), if_neg e, List.filter_cons]
      have r := ih _ (pr_lt ps q.1) m q.2
      by_cases g : pr ps x = m
      · rw [if_pos (decide_eq_true g), List.length_cons, r, if_pos g]
      · rw [if_neg (by simpa using g), r, if_neg g]
/-- each tie of a half hangs from the meeting, or lies beneath one of that half that does -/
theorem seg_top (ps : List Nat) : ∀ x m, Anc ps m x → x ≠ m → ∃ t ∈ seg ps x m, pr ps t = m := by
  intro x
  induction x using Nat.strongRecOn with
  | ind x ih =>
    intro m h e
    have q := h.step e
    have l := h.le
    rw [seg_step (ps := ps) (show m < x by omega)]
    by_cases g : pr ps x = m
    · exact ⟨x, List.mem_cons_self, g⟩
    · obtain ⟨t, ht, et⟩ := ih _ (pr_lt ps q.1) m q.2 g
      exact ⟨t, List.mem_cons_of_mem _ ht, et⟩
theorem seg_beneath (ps : List Nat) : ∀ x m, Anc ps m x → ∀ k ∈ seg ps x m, pr ps k = m ∨ ∃ t ∈ seg ps x m, pr ps t = m ∧ t ∈ up ps (pr ps k) := by
  intro x
  induction x using Nat.strongRecOn with
  | ind x ih =>
    intro m h k hk
    by_cases e : x = m
    · subst e
      rw [seg_self] at hk
      cases hk
    · have q := h.step e
      have l := h.le
      have es := seg_step (ps := ps) (show m < x by omega)
      rw [es] at hk
      rcases List.mem_cons.mp hk with ek | hk
      · by_cases g : pr ps x = m
        · rw [ek]
          exact .inl g
        · obtain ⟨t, ht, et⟩ := seg_top ps _ m q.2 g
          refine .inr ⟨t, by rw [es]; exact List.mem_cons_of_mem _ ht, et, ?_⟩
          rw [ek]
          exact (mem_seg.mp ht).1
      · rcases ih _ (pr_lt ps q.1) m q.2 k hk with r | ⟨t, ht, et, r⟩
        · exact .inl r
        · exact .inr ⟨t, by rw [es]; exact List.mem_cons_of_mem _ ht, et, r⟩
/-- the tops of the whole way -/
theorem way_tops (ps : List Nat) (a b : Nat) : ((way ps a b).filter fun t => decide (pr ps t = meet ps a b)).length = (if a = meet ps a b then 0 else 1) + (if b = meet ps a b then 0 else 1) := by
  have q := ((way_segs ps a b).filter fun t => decide (pr ps t = meet ps a b)).length_eq
  rw [q, List.filter_append, List.length_append, seg_tops ps _ _ (meet_anc ps a b).1, seg_tops ps _ _ (meet_anc ps a b).2]
theorem way_beneath (ps : List Nat) (a b k : Nat) (h : k ∈ way ps a b) : pr ps k = meet ps a b ∨ ∃ t ∈ way ps a b, pr ps t = meet ps a b ∧ t ∈ up ps (pr ps k) := by
  have pm := way_segs ps a b
  rcases List.mem_append.mp (pm.mem_iff.mp h) with g | g
  · rcases seg_beneath ps _ _ (meet_anc ps a b).1 k g with r | ⟨t, ht, r⟩
    · exact .inl r
    · exact .inr ⟨t, pm.mem_iff.mpr (List.mem_append.mpr (.inl ht)), r⟩
  · rcases seg_beneath ps _ _ (meet_anc ps a b).2 k g with r | ⟨t, ht, r⟩
    · exact .inl r
    · exact .inr ⟨t, pm.mem_iff.mpr (List.mem_append.mpr (.inr ht)), r⟩
/-- a tie lies beneath another one: one turn of going up -/
theorem beneath_step (ps : List Nat) {k t : Nat} (h : t < k) (ht : 0 < t) : (t ∈ up ps (pr ps k)) ↔ (pr ps k = t ∨ t ∈ up ps (pr ps (pr ps k))) := by
  by_cases g : 0 < pr ps k
  · rw [mem_up ps g]
    exact ⟨fun r => r.elim (fun e => .inl e.symm) .inr, fun r => r.elim (fun e => .inl e.symm) .inr⟩
  · have e : pr ps k = 0 := by omega
    rw [e, pr_zero, up_zero]
    refine ⟨fun r => (nomatch r), fun r => ?_⟩
    rcases r with r | r
    · omega
    · exact r
theorem beneath_end (ps : List Nat) {k t : Nat} (h : ¬ t < k) : ¬ t ∈ up ps (pr ps k) := fun r => by
  have q := up_le ps _ _ r
  by_cases g : 0 < k
  · have l := pr_lt ps g
    omega
  · have e : k = 0 := by omega
    rw [e, pr_zero] at q
    omega
/-- taking one out -/
theorem perm_erase {l r : List Nat} {x : Nat} (pm : l.Perm (x :: r)) : ∃ j : Nat, l[j]? = some x ∧ (∀ m : Nat, m < j → l[m]? ≠ some x) ∧ (l.eraseIdx j).Perm r := by
  have hx : x ∈ l := pm.mem_iff.mpr List.mem_cons_self
  have first : ∀ (l : List Nat), x ∈ l → ∃ j : Nat, l[j]? = some x ∧ (∀ m : Nat, m < j → l[m]? ≠ some x) ∧ l.Perm (x :: l.eraseIdx j) := by
    intro l
    induction l with
    | nil => exact fun h => (nomatch h)
    | cons y t ih =>
      intro h
      by_cases e : y = x
      · subst e
        exact ⟨0, rfl, fun m hm => absurd hm (Nat.not_lt_zero _), List.Perm.refl _⟩
      · have ht : x ∈ t := by
          rcases List.mem_cons.mp h with q | q
          · exact absurd q.symm e
          · exact q
        obtain ⟨j, h1, h2, h3⟩ := ih ht
        refine ⟨j + 1, by simpa using h1, fun m hm => ?_, ?_⟩
        · cases m with
          | zero => simpa using e
          | succ m => simpa using h2 m (by omega)
        · show (y :: t).Perm (x :: y :: t.eraseIdx j)
          exact (List.Perm.cons y h3).trans (List.Perm.swap x y _)
  obtain ⟨j, h1, h2, h3⟩ := first l hx
  exact ⟨j, h1, h2, (List.perm_cons x).mp (h3.symm.trans pm)⟩
end Ways
/-! Ways on a tree: what the walk of the defs shares. -/
namespace K14
open PySem PySem.Spec PyProof.Rows L2 Ways

/-! ### two rules that the layer lacks -/
/-- is it the truth value k? -/
def truthIs (k : Bool) : Value → Bool
  | .bool b => b == k
  | _ => false
theorem truth_at {A : Around} {s : Shared} {k : Bool} : ∀ {bs : List Bool} {us : List Value}, Vals (bs.map V.bl) us → ∀ y ∈ us, SeqAt.EqAt A s y (.bool k) (truthIs k y)
  | [], _, .nil => fun y hy => by cases hy
  | b :: bs, _, .cons r t => fun y hy => by
    cases r
    rcases List.mem_cons.mp hy with e | hy
    · rw [e]
      exact SeqAt.EqAt.bool_bool b k
    · exact truth_at t y hy
theorem truth_count {k : Bool} : ∀ {bs : List Bool} {us : List Value}, Vals (bs.map V.bl) us → us.countP (truthIs k) = bs.count k
  | [], _, .nil => rfl
  | b :: bs, _, .cons r t => by
    cases r
    rw [List.countP_cons, List.count_cons, truth_count t]
    rfl
section
variable {X : Cx}
def rCount (K : PySem.W.Frag) : V → List V → Hp → VK → Prop := fun x xs H Q => ∃ (p : Addr) (bs : List Bool) (k : Bool), x = .ref p ∧ xs = [.bl k] ∧ SqL K H p (bs.map V.bl) ∧ Q (.int (bs.count k : Nat)) H
/-- xs.count(True), xs a list of truth values -/
theorem mt_countB : MtR X "list.count" (rCount X.K) := by
  intro pins s σ H x xs v us Q I rx rxs ⟨p, bs, k, ex, exs, hs, q⟩
  subst ex exs
  cases rx
  obtain ⟨u, eu, ru⟩ := rxs.one
  subst eu
  cases ru
  obtain ⟨its, rv, ⟨ob, n, ho, hc, hdn, hd⟩, _⟩ := I.list hs
  obtain ⟨cls, dd, data, sl⟩ := ob
  subst hc hd
  refine call_meets PySem.F.slot_list_count ⟨_, ho, rfl⟩ PySem.F.entry_list_count (PySem.F.args_list_count_2 _ _) (SeqAt.list_countAt p its.toArray n dd sl (.bool k) (truthIs k))
    ⟨ho, fun y hy => truth_at rv y (by simpa using hy), ?_⟩
  refine ⟨.int (bs.count k : Nat), H, I.tok _, ⟨s.toks, ?_⟩, q⟩
  rw [← truth_count (k := k) rv]
/-- len(set(xs)), xs a list of ints, alike ones too -/
def tLenOf (K : PySem.W.Frag) (ta : TE) : TE := fun σ H Q => ta σ H fun x H1 => ∃ (l : Addr) (ns : List Int), x = .ref l ∧ SqL K H1 l (ns.map V.int) ∧ ns.length < 64 ∧ Q (.int ((PyProof.Rows.firstMet (fun i => ns.getD i 0) ns.length).length : Nat)) H1
theorem pe_lenOf {a : Expr} {ta : TE} {p p2 q pos : Pos} (hc : X.calm = true) (hg : Gl X "len") (hm : X.mg "len" = none) (hg2 : Gl X "set") (hm2 : X.mg "set" = none) (ha : PE X a ta)
    (na : starEach [a] X.env = (false, eval a X.env) :: starEach [] X.env := by rfl) : PE X (.Call (.Name "len" p) [.Call (.Name "set" p2) [a] [] q] [] pos) (tLenOf X.K ta) := by
  constructor
  intro pins s σ H Q I h
  refine Call_ (ld_blt I hg hm PySem.boot_len (PyProof.Rows.callWith_builtin1 (PyProof.Rows.args_cons (Call_ (ld_blt I hg2 hm2 PyProof.Rows.boot_set ?_)) rfl) rfl rfl))
  refine PyProof.Rows.callWith_type1 (PyProof.Rows.args_cons (thn (ha.run pins s σ H _ I h) fun v s1 ⟨x, H1, I1, r1, l, ns, ex, hq, h64, q1⟩ => PyProof.Rows.args_nil ?_) na) na rfl
  subst ex
  cases r1
  obtain ⟨its, r, pl, hz⟩ := I1.list hq
  have hl : its.toArray.size = ns.length := by
    have e := r.length
    rw [List.length_map] at e
    rw [List.size_toArray, e]
  refine call_set_list (I1.ok.hd hc) pl.isList (ns := ns) (by simpa using r.ints) (by unfold scanBound; omega) fun h' tk hS hk => PyProof.Rows.args_nil ?_
  rw [hl] at hS
  obtain ⟨o, es, ep, t, ho, hex, hd, _, _, _, hf, hn⟩ := hS
  have I2 : Inv X pins σ H1 { s1 with heap := h', toks := tk } := I1.kept fun b o e => hk b o (Heap.lt_size e) e
  have le := firstMet_length_le (fun i => ns.getD i 0) ns.length
  refine call_len_set ho hex hd hf (by rw [hn]; omega) ⟨.int _, H1, I2.tok _, ⟨_, by rw [hn]⟩, q1⟩
end
/-! rules by the written part's own name: for use within a comprehension -/
theorem ix_tupK (K : PySem.W.Frag) {X : Cx} (h : X.K = K := by rfl) : IxR X (rIxT K) := by
  subst h
  exact ix_tup
theorem ix_listK (K : PySem.W.Frag) {X : Cx} (h : X.K = K := by rfl) : IxR X (rIxL K) := by
  subst h
  exact ix_list
theorem op_inK (K : PySem.W.Frag) {X : Cx} (h : X.K = K := by rfl) : OpR X (compareOp .In) (rIn K false) := by
  subst h
  exact op_in_seq
theorem op_notInK (K : PySem.W.Frag) {X : Cx} (h : X.K = K := by rfl) : OpR X (compareOp .NotIn) (rIn K true) := by
  subst h
  exact op_notIn_seq
/-- of three numbers, two of them alike, at most two are unlike -/
theorem firstMet3 {x y z : Int} (h : x = y ∨ y = z ∨ x = z) : (PyProof.Rows.firstMet (fun i => [x, y, z].getD i 0) 3).length ≤ 2 := by
  rw [firstMet_succ, firstMet_succ, firstMet_succ, firstMet_zero]
  show (step_dedup (step_dedup (step_dedup [] x) y) z).length ≤ 2
  have e1 : step_dedup [] x = [x] := rfl
  rw [e1]
  by_cases e : x = y
  · have e2 : step_dedup [x] y = [x] := by
      unfold step_dedup
      rw [if_pos (by simp [e])]
    rw [e2]
    unfold step_dedup
    split <;> simp
  · have e2 : step_dedup [x] y = [x, y] := by
      unfold step_dedup
      rw [if_neg (by simp [e])]
      rfl
    rw [e2]
    have hz : z = x ∨ z = y := by omega
    unfold step_dedup
    rw [if_pos (by rcases hz with g | g <;> simp [g])]
    exact Nat.le_refl _

/-! ### the text by places -/
def topS (i : Nat) : Stmt := PySem.Challenge.pw_treeasks_k14_whole_ways_of_three.main.body.getD i (.Pass ⟨0, 0, 0, 0⟩)

/-! ### numbers, lists -/
/-- numbers as ints, as values -/
def iv (l : List Nat) : List Int := l.map fun n : Nat => (n : Int)
def nv (l : List Nat) : List V := (iv l).map V.int
theorem iv_len (l : List Nat) : (iv l).length = l.length := List.length_map _
theorem nv_len (l : List Nat) : (nv l).length = l.length := by
  unfold nv
  rw [List.length_map, iv_len]
theorem iv_get {l : List Nat} {i x : Nat} (h : l[i]? = some x) : (iv l)[i]? = some (x : Int) := by
  unfold iv
  rw [List.getElem?_map, h]
  rfl
theorem nv_get {l : List Nat} {i x : Nat} (h : l[i]? = some x) : (nv l)[i]? = some (.int (x : Int)) := by
  unfold nv
  rw [List.getElem?_map, iv_get h]
  rfl
theorem of_nv {l : List Nat} {i : Nat} {v : V} (h : (nv l)[i]? = some v) : ∃ x : Nat, l[i]? = some x ∧ v = .int (x : Int) := by
  have hi : i < l.length := by
    have q := (List.getElem?_eq_some_iff.mp h).1
    rw [nv_len] at q
    exact q
  have e : l[i]? = some l[i] := List.getElem?_eq_getElem hi
  rw [nv_get e] at h
  exact ⟨_, e, (Option.some.inj h).symm⟩
theorem nv_push (l : List Nat) (x : Nat) : nv (l ++ [x]) = nv l ++ [.int (x : Int)] := by
  unfold nv iv
  rw [List.map_append, List.map_append]
  rfl
/-- numbers in another order -/
theorem perm_iv {ns : List Int} {l : List Nat} (h : ns.Perm (iv l)) : ∃ l' : List Nat, l'.Perm l ∧ ns = iv l' := by
  have h1 : (ns.map Int.toNat).Perm l := by
    have q := h.map Int.toNat
    have e : (iv l).map Int.toNat = l := by
      unfold iv
      rw [List.map_map]
      exact List.map_id'' (fun n => Int.toNat_natCast n) l
    rw [e] at q
    exact q
  refine ⟨ns.map Int.toNat, h1, ?_⟩
  unfold iv
  rw [List.map_map]
  have all : ∀ z ∈ ns, ((z.toNat : Nat) : Int) = z := fun z hz => by
    have q := h.mem_iff.mp hz
    unfold iv at q
    obtain ⟨n, _, e⟩ := List.mem_map.mp q
    omega
  have e : ns.map ((fun n : Nat => (n : Int)) ∘ Int.toNat) = ns.map id := List.map_congr_left fun z hz => all z hz
  rw [e, List.map_id]
/-- in -/
theorem inV_nv (x : Nat) (l : List Nat) : inV (.int (x : Int)) (nv l) = decide (x ∈ l) := by
  induction l with
  | nil => rfl
  | cons y l ih =>
    have e : inV (.int (x : Int)) (nv (y :: l)) = (((y : Int) == (x : Int)) || inV (.int (x : Int)) (nv l)) := rfl
    rw [e, ih]
    by_cases g : x = y
    · subst g
      simp
    · have g' : ¬ ((y : Int) = (x : Int)) := by omega
      simp [g, g']
theorem flat_nv (l : List Nat) : (nv l).all flatV = true := by
  refine List.all_eq_true.mpr fun v hv => ?_
  unfold nv at hv
  obtain ⟨i, _, e⟩ := List.mem_map.mp hv
  rw [← e]
  rfl

/-! ### answers -/
theorem q_true {Q : VK} {H : Hp} {c : Prop} [Decidable c] (hc : c) (q : Q (.bl true) H) : Q (.bl (decide c)) H := by
  rw [decide_eq_true hc]
  exact q
theorem q_false {Q : VK} {H : Hp} {c : Prop} [Decidable c] (hc : ¬ c) (q : Q (.bl false) H) : Q (.bl (decide c)) H := by
  rw [decide_eq_false hc]
  exact q

theorem iteNF {c A B : Prop} [Decidable c] (hc : ¬ c) (h : A) : if (!decide c) = true then A else B := by
  rw [decide_eq_false hc]
  exact h
theorem iteD {c A B : Prop} [Decidable c] (hc : c) (h : A) : if decide c = true then A else B := by
  rw [decide_eq_true hc]
  exact iteT h
theorem iteDF {c A B : Prop} [Decidable c] (hc : ¬ c) (h : B) : if decide c = true then A else B := by
  rw [decide_eq_false hc]
  exact iteF h
theorem int_ne {x y : Nat} (h : ¬ x = y) : ¬ V.int (x : Int) = V.int (y : Int) := fun e => h (by
  have q := V.int.inj e
  omega)
theorem int_eq {x y : Nat} (h : x = y) : V.int (x : Int) = V.int (y : Int) := by rw [h]

/-! ### heaps -/
theorem same_new {H : Hp} {p : Addr} (h : H p = none) (o : HO) : Same H (upd H p o) := fun b x e => by
  rw [upd_ne (ne_of_none e h)]
  exact e
/-- all but what stands at p is as it was -/
def Keep (p : Addr) (H H' : Hp) : Prop := ∀ b o, b ≠ p → H b = some o → H' b = some o
theorem Keep.refl (p : Addr) (H : Hp) : Keep p H H := fun _ _ _ h => h
theorem Keep.trans {p : Addr} {H H1 H2 : Hp} (a : Keep p H H1) (b : Keep p H1 H2) : Keep p H H2 := fun c o n h => b c o n (a c o n h)
theorem Keep.at (p : Addr) (H : Hp) (o : HO) : Keep p H (upd H p o) := fun b x n e => by
  rw [upd_ne n]
  exact e
theorem Same.keep {p : Addr} {H H' : Hp} (a : Same H H') : Keep p H H' := fun b o _ h => a b o h
/-- what was made behind H and turned since -/
theorem Keep.same {p : Addr} {H H1 H2 : Hp} (k : Keep p H1 H2) (s : Same H H1) (n : H p = none) : Same H H2 := fun b o e => k b o (ne_of_none e n) (s b o e)

/-- a tree stands at t: its parents' list ps -/
structure TreeAt (H : Hp) (t : Addr) (ps : List Nat) : Prop where
  at_ : ∃ (a b : Addr) (rs : List Nat), H t = some (.tup [.ref a, .ref b]) ∧ H a = some (.lst (nv ps)) ∧ H b = some (.lst (nv rs)) ∧ rs.length = ps.length ∧ ∀ r ∈ rs, 1 ≤ r ∧ r ≤ 1000000
  one : 1 ≤ ps.length
  most : ps.length ≤ 16
  ahead : Ahead ps
theorem TreeAt.same {H H' : Hp} {t : Addr} {ps : List Nat} (T : TreeAt H t ps) (s : Same H H') : TreeAt H' t ps := by
  obtain ⟨⟨a, b, rs, h1, h2, h3, h4⟩, o, m, A⟩ := T
  exact ⟨⟨a, b, rs, s _ _ h1, s _ _ h2, s _ _ h3, h4⟩, o, m, A⟩

/-! ### the defs as they stand behind the top -/
structure Dn (K : PySem.W.Frag) (mg : Str → Option Value) (x : Str) (st : Stmt) (f : Addr) (fd : FuncData) (ps : List Str) : Prop where
  F : Fun K x x st f fd
  g : mg x = some (.ref f)
  b : Binds K fd ps []
/-- the built-ins are still the built-ins -/
structure Bi (mg : Str → Option Value) : Prop where
  isi : mg "isinstance" = none
  int : mg "int" = none
  bool : mg "bool" = none
  tup : mg "tuple" = none
  list : mg "list" = none
  len : mg "len" = none
  enum : mg "enumerate" = none
  sorted : mg "sorted" = none
  range : mg "range" = none
  max : mg "max" = none
  min : mg "min" = none
  any : mg "any" = none
  set : mg "set" = none
end K14
/-! what is a number, a tree -/
namespace K14
open PySem PySem.Spec PyProof.Rows L2 Ways
section
variable {P : Program} {w : World} {K : PySem.W.Frag} {mg : Str → Option Value} {base : Heap}
/-! ### is_whole, is_parent, is_room -/
abbrev sWhole : Stmt := topS 5
theorem scWhole : FnScope ["thing"] ["thing"] (defScope sWhole) := ⟨rfl, rfl, rfl, by decide +kernel, rfl, by decide +kernel, by decide +kernel⟩
def spWhole : Sp := fun vs H Q _ => ∃ i : Int, vs = [.int i] ∧ Q (.bl true) H
theorem ok_whole {f : Addr} {fd : FuncData} (D : Dn K mg "is_whole" sWhole f fd ["thing"]) (B : Bi mg) : FnOk P w K mg base CX0 1 f fd ["thing"] spWhole := by
  refine D.F.ok scWhole (fun vs H Q E h => ?_) (fun cdv A outer s H vs Q E hr h => ?_)
  · obtain ⟨i, rfl, _⟩ := h
    rfl
  obtain ⟨i, rfl, q⟩ := h
  refine ⟨_, pss_one (ps_ret (pe_and (pe_callB call_isi (by rfl) B.isi (by decide +kernel) (pa_cons (pv 0) (pa_cons (pe_bltn (v := .ty "int") (by rfl) B.int PyProof.Rows.boot_int rfl) pa_nil)))
    (pe_one (pe_not (pe_callB call_isi (by rfl) B.isi (by decide +kernel) (pa_cons (pv 0) (pa_cons (pe_bltn (v := .ty "bool") (by rfl) B.bool PyProof.Rows.boot_bool rfl) pa_nil))))))), ?_⟩
  refine ⟨_, rfl, _, _, _, _, true, rfl, .ty _, .base (.int i), kit_ty (by decide +kernel), true, rfl, iteT ?_⟩
  exact ⟨_, rfl, _, _, _, _, false, rfl, .ty _, .base (.int i), kit_ty (by decide +kernel), false, rfl, q⟩
abbrev sParent : Stmt := topS 9
theorem scParent : FnScope ["thing", "place"] ["thing", "place"] (defScope sParent) := ⟨rfl, rfl, rfl, by decide +kernel, rfl, by decide +kernel, by decide +kernel⟩
def spParent : Sp := fun vs H Q _ => ∃ i j : Int, vs = [.int i, .int j] ∧ 0 ≤ i ∧ i < j ∧ Q (.bl true) H
theorem ok_parent {f f1 : Addr} {fd fd1 : FuncData} (D : Dn K mg "is_parent" sParent f fd ["thing", "place"]) (D1 : Dn K mg "is_whole" sWhole f1 fd1 ["thing"]) (B : Bi mg) : FnOk P w K mg base CX0 2 f fd ["thing", "place"] spParent := by
  have G := ok_whole (P := P) (w := w) (base := base) D1 B
  refine D.F.ok scParent (fun vs H Q E h => ?_) (fun cdv A outer s H vs Q E hr h => ?_)
  · obtain ⟨i, j, rfl, _⟩ := h
    rfl
  obtain ⟨i, j, rfl, h1, h2, q⟩ := h
  refine ⟨_, pss_one (ps_ret (pe_and (pe_call G hr (by rfl) D1.g D1.F.kp D1.b .nil pass0 (pa_cons (pv 0) pa_nil)) (pe_one (pe_chain op_le op_lt pe_int (pv 0) (pv 1))))), ?_⟩
  refine ⟨_, rfl, i, rfl, true, rfl, iteT ?_⟩
  refine ⟨_, rfl, 0, i, rfl, rfl, true, congrArg V.bl (decide_eq_true h1), iteT ?_⟩
  exact ⟨_, rfl, i, j, rfl, rfl, q_true (Q := Q) h2 q⟩
abbrev sRoom : Stmt := topS 10
theorem scRoom : FnScope ["thing"] ["thing"] (defScope sRoom) := ⟨rfl, rfl, rfl, by decide +kernel, rfl, by decide +kernel, by decide +kernel⟩
def spRoom : Sp := fun vs H Q _ => ∃ i : Int, vs = [.int i] ∧ 1 ≤ i ∧ i ≤ 1000000 ∧ Q (.bl true) H
theorem ok_room {f f1 : Addr} {fd fd1 : FuncData} {tk : Tok} (D : Dn K mg "is_room" sRoom f fd ["thing"]) (D1 : Dn K mg "is_whole" sWhole f1 fd1 ["thing"]) (B : Bi mg) (gr : mg "GREATEST_ROOM" = some (.int 1000000 tk)) : FnOk P w K mg base CX0 2 f fd ["thing"] spRoom := by
  have G := ok_whole (P := P) (w := w) (base := base) D1 B
  refine D.F.ok scRoom (fun vs H Q E h => ?_) (fun cdv A outer s H vs Q E hr h => ?_)
  · obtain ⟨i, rfl, _⟩ := h
    rfl
  obtain ⟨i, rfl, h1, h2, q⟩ := h
  refine ⟨_, pss_one (ps_ret (pe_and (pe_call G hr (by rfl) D1.g D1.F.kp D1.b .nil pass0 (pa_cons (pv 0) pa_nil)) (pe_one (pe_chain op_le op_le pe_int (pv 0) (pe_glob (v := .int 1000000) (by rfl) gr ⟨_, rfl⟩))))), ?_⟩
  refine ⟨_, rfl, i, rfl, true, rfl, iteT ?_⟩
  refine ⟨_, rfl, 1, i, rfl, rfl, true, congrArg V.bl (decide_eq_true h1), iteT ?_⟩
  exact ⟨i, 1000000, rfl, rfl, q_true (Q := Q) h2 q⟩
/-! ### are_two_lists, look_at_tree -/
abbrev sTwo : Stmt := topS 11
theorem scTwo : FnScope ["thing"] ["thing"] (defScope sTwo) := ⟨rfl, rfl, rfl, by decide +kernel, rfl, by decide +kernel, by decide +kernel⟩
def spTwo : Sp := fun vs H Q _ => ∃ (t : Addr) (ps : List Nat), vs = [.ref t] ∧ TreeAt H t ps ∧ Q (.bl true) H
theorem ok_two {f : Addr} {fd : FuncData} {tk : Tok} (D : Dn K mg "are_two_lists" sTwo f fd ["thing"]) (B : Bi mg) (gr : mg "MOST_TIES" = some (.int 23 tk)) : FnOk P w K mg base CX0 1 f fd ["thing"] spTwo := by
  refine D.F.ok scTwo (fun vs H Q E h => ?_) (fun cdv A outer s H vs Q E hr h => ?_)
  · obtain ⟨t, ps, rfl, _⟩ := h
    rfl
  obtain ⟨t, ps, rfl, T, q⟩ := h
  obtain ⟨⟨a, b, rs, ht, ha, hb, hl, hrs⟩, one, most, ahead⟩ := T
  have i0 : atI [V.ref a, V.ref b] 0 = some (.ref a) := atI_nat (j := 0) rfl
  have i1 : atI [V.ref a, V.ref b] 1 = some (.ref b) := atI_nat (j := 1) rfl
  refine ⟨_, pss_cons (ps_if (PW.pt (pw_or (pt_not (pt_val (pe_callB call_isi (by rfl) B.isi (by decide +kernel) (pa_cons (pv 0) (pa_cons (pe_bltn (v := .ty "tuple") (by rfl) B.tup PyProof.Rows.boot_tuple rfl) pa_nil)))))
      (pw_or1 (pt_cmpR op_ne (pe_callB call_len_seq (by rfl) B.len PySem.boot_len (pa_cons (pv 0) pa_nil)) pe_int (nomark _))))) (pss_one (ps_ret pe_bl)) pss_nil)
    (pss_cons (ps_if (PW.pt (pw_or (pt_not (pt_val (pe_callB call_isi (by rfl) B.isi (by decide +kernel) (pa_cons (pe_ix ix_tup (pv 0) pe_int (fun _ _ => rfl)) (pa_cons (pe_bltn (v := .ty "list") (by rfl) B.list PyProof.Rows.boot_list rfl) pa_nil)))))
      (pw_or1 (pt_not (pt_val (pe_callB call_isi (by rfl) B.isi (by decide +kernel) (pa_cons (pe_ix ix_tup (pv 0) pe_int (fun _ _ => rfl)) (pa_cons (pe_bltn (v := .ty "list") (by rfl) B.list PyProof.Rows.boot_list rfl) pa_nil)))))))) (pss_one (ps_ret pe_bl)) pss_nil)
    (pss_one (ps_ret (pe_and (pe_cmpR op_eq (pe_callB call_len_seq (by rfl) B.len PySem.boot_len (pa_cons (pe_ix ix_tup (pv 0) pe_int (fun _ _ => rfl)) pa_nil)) (pe_callB call_len_seq (by rfl) B.len PySem.boot_len (pa_cons (pe_ix ix_tup (pv 0) pe_int (fun _ _ => rfl)) pa_nil)) (nomark _))
      (pe_one (pe_chain op_le op_le pe_int (pe_callB call_len_seq (by rfl) B.len PySem.boot_len (pa_cons (pe_ix ix_tup (pv 0) pe_int (fun _ _ => rfl)) pa_nil)) (pe_glob (v := .int 23) (by rfl) gr ⟨_, rfl⟩))))))), ?_⟩
  refine ⟨_, rfl, _, _, _, _, true, rfl, .ty _, .base (.tup ht), kit_ty (by decide +kernel), true, rfl, iteF ?_⟩
  refine ⟨_, rfl, t, _, rfl, .inr (SqT.of ht), rfl, false, rfl, iteF ?_⟩
  refine ⟨_, rfl, t, _, 0, _, rfl, rfl, SqT.of ht, i0, _, _, _, _, true, rfl, .ty _, .base (.lst ha), kit_ty (by decide +kernel), true, rfl, iteF ?_⟩
  refine ⟨_, rfl, t, _, 1, _, rfl, rfl, SqT.of ht, i1, _, _, _, _, true, rfl, .ty _, .base (.lst hb), kit_ty (by decide +kernel), true, rfl, iteF ?_⟩
  have e1 : ((nv ps).length : Int) = ((nv rs).length : Int) := by rw [nv_len, nv_len, hl]
  have e2 : (1 : Int) ≤ ((nv ps).length : Int) := by rw [nv_len]; omega
  have e3 : ((nv ps).length : Int) ≤ 23 := by rw [nv_len]; omega
  refine ⟨_, rfl, t, _, 0, _, rfl, rfl, SqT.of ht, i0, a, _, rfl, .inl (SqL.of ha), _, rfl, t, _, 1, _, rfl, rfl, SqT.of ht, i1, b, _, rfl, .inl (SqL.of hb), rfl, true, congrArg V.bl (decide_eq_true (congrArg V.int e1)), iteT ?_⟩
  refine ⟨_, rfl, t, _, 0, _, rfl, rfl, SqT.of ht, i0, a, _, rfl, .inl (SqL.of ha), 1, _, rfl, rfl, true, congrArg V.bl (decide_eq_true e2), iteT ?_⟩
  exact ⟨_, 23, rfl, rfl, q_true (Q := Q) e3 q⟩
end
end K14
/-! look_at_tree -/
namespace K14
open PySem PySem.Spec PyProof.Rows L2 Ways
/-- for i, x in enumerate(a list that stands still) -/
theorem for_enumL {K : PySem.W.Frag} {a : Addr} {xs : List V} {g : TG} {tb : TS} {D : Ends} {σ : L2.St} {H : Hp} (Pv : Nat → L2.St → Hp → Prop) (h0 : Pv 0 σ H) (hl : ∀ i σ H, Pv i σ H → SqL K H a xs)
    (hs : ∀ (i : Nat) (x : V) (T : Addr) (σ : L2.St) (H : Hp), xs[i]? = some x → Pv i σ H → H T = none → g (.ref T) σ (upd H T (.tup [.int (i : Nat), x])) fun σ2 H2 => tb { D with nx := Pv (i + 1), ct := Pv (i + 1), bk := D.nx } σ2 H2)
    (hd : ∀ σ H, Pv xs.length σ H → D.nx σ H) : ∃ W : Nat → Nat → L2.St → Hp → Prop, (∃ m, W 0 m σ H) ∧ ∀ i m σ H, W i m σ H → ((Ite K a).stop i H ∧ D.nx σ H) ∨
      ((Ite K a).go i H ∧ ∃ N : L2.St → Hp → Prop, (∀ σ' H', N σ' H' → ∃ m', m' < m ∧ W (i + 1) m' σ' H') ∧ ∀ v H', (Ite K a).yld i H v H' → g v σ H' fun σ2 H2 => tb { D with nx := N, ct := N, bk := D.nx } σ2 H2) := by
  refine ⟨fun i m σ H => i + m = xs.length ∧ Pv i σ H, ⟨xs.length, by omega, h0⟩, fun i m σ H hW => ?_⟩
  obtain ⟨em, p⟩ := hW
  have q := hl i σ H p
  cases m with
  | zero =>
    have e : i = xs.length := by omega
    subst e
    exact .inl ⟨⟨xs, q, Nat.le_refl _⟩, hd σ H p⟩
  | succ m =>
    have hx : xs[i]? = some (xs[i]'(by omega)) := List.getElem?_eq_getElem (by omega)
    refine .inr ⟨⟨xs, _, q, hx⟩, Pv (i + 1), fun σ' H' p' => ⟨m, Nat.lt_succ_self m, by omega, p'⟩, fun v H' ⟨T, y, ev, nT, eH, f⟩ => ?_⟩
    subst ev eH
    exact hs i y T σ H (f xs q) p nT
section
variable {P : Program} {w : World} {K : PySem.W.Frag} {mg : Str → Option Value} {base : Heap}
abbrev sLook : Stmt := topS 12
theorem scLook : FnScope ["thing", "number", "parent", "room"] ["thing"] (defScope sLook) := ⟨rfl, rfl, rfl, by decide +kernel, rfl, by decide +kernel, by decide +kernel⟩
def spLook : Sp := fun vs H Q _ => ∃ (t : Addr) (ps : List Nat), vs = [.ref t] ∧ TreeAt H t ps ∧ ∀ H', Same H H' → Q .non H'
theorem ok_look {f f1 f2 f3 f4 : Addr} {fd fd1 fd2 fd3 fd4 : FuncData} {tk tk2 : Tok} (D : Dn K mg "look_at_tree" sLook f fd ["thing"]) (D1 : Dn K mg "is_whole" sWhole f1 fd1 ["thing"]) (D2 : Dn K mg "is_parent" sParent f2 fd2 ["thing", "place"])
    (D3 : Dn K mg "is_room" sRoom f3 fd3 ["thing"]) (D4 : Dn K mg "are_two_lists" sTwo f4 fd4 ["thing"]) (B : Bi mg) (gr : mg "GREATEST_ROOM" = some (.int 1000000 tk)) (gm : mg "MOST_TIES" = some (.int 23 tk2)) :
    FnOk P w K mg base CX0 3 f fd ["thing"] spLook := by
  have GP := ok_parent (P := P) (w := w) (base := base) D2 D1 B
  have GR := ok_room (P := P) (w := w) (base := base) D3 D1 B gr
  have GT := ok_two (P := P) (w := w) (base := base) D4 B gm
  refine D.F.ok scLook (fun vs H Q E h => ?_) (fun cdv A outer s H vs Q E hr h => ?_)
  · obtain ⟨t, ps, rfl, _⟩ := h
    rfl
  obtain ⟨t, ps, rfl, T, q⟩ := h
  obtain ⟨a, b, rs, ht, ha, hb, hl, hrs⟩ := id T.at_
  have i0 : atI [V.ref a, V.ref b] 0 = some (.ref a) := atI_nat (j := 0) rfl
  have i1 : atI [V.ref a, V.ref b] 1 = some (.ref b) := atI_nat (j := 1) rfl
  refine ⟨_, pss_cons (ps_if (pt_not (pt_val (pe_call GT (hr.mono (by decide)) (by rfl) D4.g D4.F.kp D4.b .nil pass0 (pa_cons (pv 0) pa_nil)))) (pss_one ps_never) pss_nil)
    (pss_cons (ps_for PassesOwn.never rfl (pi_enum (by rfl) B.enum (pa_cons (pe_ix ix_tup (pv 0) pe_int (fun _ _ => rfl)) pa_nil))
        (pg_tup rfl (pgs_cons (pg_name (i := 1) scLook.nd rfl (.inl rfl)) (pgs_cons (pg_name (i := 2) scLook.nd rfl (.inl rfl)) pgs_nil)))
        (pss_one (ps_if (pt_not (pt_val (pe_call GP hr (by rfl) D2.g D2.F.kp D2.b .nil pass0 (pa_cons (pv 2) (pa_cons (pe_op op_add (pv 1) pe_int) pa_nil))))) (pss_one ps_never) pss_nil)))
    (pss_one (ps_for PassesOwn.never rfl (pi_enum (by rfl) B.enum (pa_cons (pe_ix ix_tup (pv 0) pe_int (fun _ _ => rfl)) pa_nil))
        (pg_tup rfl (pgs_cons (pg_name (i := 1) scLook.nd rfl (.inl rfl)) (pgs_cons (pg_name (i := 3) scLook.nd rfl (.inl rfl)) pgs_nil)))
        (pss_one (ps_if (pt_not (pt_val (pe_call GR hr (by rfl) D3.g D3.F.kp D3.b .nil pass0 (pa_cons (pv 3) pa_nil)))) (pss_one ps_never) pss_nil))))), ?_⟩
  refine ⟨_, rfl, t, ps, rfl, T, true, rfl, iteF ?_⟩
  refine ⟨_, rfl, t, _, 0, _, rfl, rfl, SqT.of ht, i0, a, nv ps, rfl, SqL.of ha, for_enumL (xs := nv ps) (fun i σ H' => ∃ y1 y2 y3, σ = [some (.ref t), y1, y2, y3] ∧ Same H H') ⟨_, _, _, rfl, Same.refl H⟩
    (fun i σ H' ⟨_, _, _, _, s1⟩ => SqL.of (s1 _ _ ha)) ?_ ?_⟩
  · rintro i x T1 σ H1 hx ⟨y1, y2, y3, rfl, s1⟩ nT
    obtain ⟨z, hz, rfl⟩ := of_nv hx
    have zl := T.ahead i z hz
    refine ⟨T1, _, rfl, SqT.of upd_same, rfl, _, _, rfl, _, _, rfl, rfl, ?_⟩
    refine ⟨_, rfl, _, rfl, _, _, rfl, rfl, (z : Int), (i : Int) + 1, rfl, by omega, by omega, true, rfl, iteF ?_⟩
    exact ⟨_, _, _, rfl, s1.trans (same_new nT _)⟩
  · rintro σ H1 ⟨y1, y2, y3, rfl, s1⟩
    have T1 := T.same s1
    refine ⟨_, rfl, t, _, 1, _, rfl, rfl, SqT.of (s1 _ _ ht), i1, b, nv rs, rfl, SqL.of (s1 _ _ hb), for_enumL (xs := nv rs) (fun i σ H' => ∃ y1 y2 y3, σ = [some (.ref t), y1, y2, y3] ∧ Same H H') ⟨_, _, _, rfl, s1⟩
      (fun i σ H' ⟨_, _, _, _, s1⟩ => SqL.of (s1 _ _ hb)) ?_ ?_⟩
    · rintro i x T1 σ H2 hx ⟨y1, y2, y3, rfl, s2⟩ nT
      obtain ⟨z, hz, rfl⟩ := of_nv hx
      have zl := hrs z (List.mem_iff_getElem?.mpr ⟨i, hz⟩)
      refine ⟨T1, _, rfl, SqT.of upd_same, rfl, _, _, rfl, _, _, rfl, rfl, ?_⟩
      refine ⟨_, rfl, (z : Int), rfl, by omega, by omega, true, rfl, iteF ?_⟩
      exact ⟨_, _, _, rfl, s2.trans (same_new nT _)⟩
    · rintro σ H2 ⟨y1, y2, y3, rfl, s2⟩
      exact q _ s2
end
end K14
/-! depths, places, ties -/
namespace K14
open PySem PySem.Spec PyProof.Rows L2 Ways
theorem small16 {n : Nat} (h : n ≤ 1000) : n < sizeLine := Nat.lt_of_le_of_lt h (by decide)
/-- the first so many depths -/
def deps (ps : List Nat) (n : Nat) : List Nat := (List.range n).map (dep ps)
theorem deps_len (ps : List Nat) (n : Nat) : (deps ps n).length = n := by
  unfold deps
  rw [List.length_map, List.length_range]
theorem deps_get (ps : List Nat) {n x : Nat} (h : x < n) : (deps ps n)[x]? = some (dep ps x) := by
  unfold deps
  rw [List.getElem?_map, List.getElem?_range h]
  rfl
theorem deps_more (ps : List Nat) (n : Nat) : deps ps (n + 1) = deps ps n ++ [dep ps n] := by
  unfold deps
  rw [List.range_succ, List.map_append]
  rfl
section
variable {P : Program} {w : World} {K : PySem.W.Frag} {mg : Str → Option Value} {base : Heap}
abbrev sDepthsBy : Stmt := topS 13
theorem scDepthsBy : FnScope ["parents", "found", "parent"] ["parents"] (defScope sDepthsBy) := ⟨rfl, rfl, rfl, by decide +kernel, rfl, by decide +kernel, by decide +kernel⟩
def spDepthsBy : Sp := fun vs H Q _ => ∃ (a : Addr) (ps : List Nat), vs = [.ref a] ∧ H a = some (.lst (nv ps)) ∧ Ahead ps ∧ ps.length ≤ 16 ∧ ∀ H' p, Same H H' → H' p = some (.lst (nv (deps ps (ps.length + 1)))) → Q (.ref p) H'
theorem ok_depthsBy {f : Addr} {fd : FuncData} (D : Dn K mg "depths_by" sDepthsBy f fd ["parents"]) (B : Bi mg) : FnOk P w K mg base CX0 1 f fd ["parents"] spDepthsBy := by
  refine D.F.ok scDepthsBy (fun vs H Q E h => ?_) (fun cdv A outer s H vs Q E hr h => ?_)
  · obtain ⟨t, ps, rfl, _⟩ := h
    rfl
  obtain ⟨a, ps, rfl, ha, hA, most, q⟩ := h
  refine ⟨_, pss_cons (ps_set (i := 1) scDepthsBy.nd rfl (.inl rfl) (pe_lst (pa_cons pe_int pa_nil)))
    (pss_cons (ps_for PassesOwn.never rfl (pi_list (pv 0)) (pg_name (i := 2) scDepthsBy.nd rfl (.inl rfl))
      (pss_one (ps_expr (pe_bm PySem.F.plainAttrs_list PySem.F.slot_list_append PySem.F.type_list_append mt_append (pv 1) (pa_cons (pe_op op_add (pe_ix ix_list (pv 1) (pv 2) (fun _ _ => rfl)) pe_int) pa_nil)))))
    (pss_one (ps_ret (pv 1)))), ?_⟩
  refine ⟨by show 1 ≤ sizeLine; decide, fun p np => ?_⟩
  have s1 : Same H (upd H p (.lst [.int 0])) := same_new np _
  refine ⟨_, rfl, a, rfl, ⟨_, SqL.of (s1 _ _ ha)⟩, for_list (K := K) (a := a) (xs := nv ps) (fun i σ H' => ∃ y, σ = [some (.ref a), some (.ref p), y] ∧ Same H H' ∧ H' p = some (.lst (nv (deps ps (i + 1)))))
    ⟨none, rfl, s1, ?_⟩ (fun i σ H' _ ⟨y, e, s2, _⟩ => SqL.of (s2 _ _ ha)) ?_ ?_⟩
  · rw [upd_same]
    show some (HO.lst [V.int 0]) = some (HO.lst [V.int ((dep ps 0 : Nat) : Int)])
    rw [dep_zero]
    rfl
  · rintro i v σ H1 hx ⟨y, rfl, s2, ep⟩
    obtain ⟨x, hx', rfl⟩ := of_nv hx
    have xl := hA i x hx'
    have il : i < ps.length := (List.getElem?_eq_some_iff.mp hx').1
    have g := nv_get (deps_get ps (n := i + 1) (x := x) (by omega))
    refine ⟨_, rfl, .inl ⟨rfl, _, SqL.of ep⟩, _, rfl, _, rfl, p, _, _, _, rfl, rfl, SqL.of ep, atI_nat g, _, _, rfl, rfl, p, _, _, rfl, rfl, ep, ?_, ?_⟩
    · rw [nv_len, deps_len]
      exact small16 (by omega)
    · refine ⟨_, rfl, fun b o e => ?_, ?_⟩
      · rw [upd_ne (ne_of_none e np)]
        exact s2 _ _ e
      · rw [upd_same, deps_more ps (i + 1), nv_push, dep_pos ps (x := i + 1) (by omega), pr_of hA hx']
        rfl
  · rintro σ H1 ⟨y, rfl, s2, ep⟩
    rw [nv_len] at ep
    exact ⟨_, rfl, q _ p s2 ep⟩
abbrev sDepths : Stmt := topS 14
theorem scDepths : FnScope ["tree"] ["tree"] (defScope sDepths) := ⟨rfl, rfl, rfl, by decide +kernel, rfl, by decide +kernel, by decide +kernel⟩
def spDepths : Sp := fun vs H Q _ => ∃ (t : Addr) (ps : List Nat), vs = [.ref t] ∧ TreeAt H t ps ∧ ∀ H' p, Same H H' → H' p = some (.lst (nv (deps ps (ps.length + 1)))) → Q (.ref p) H'
theorem ok_depths {f f1 f2 : Addr} {fd fd1 fd2 : FuncData} (D : Dn K mg "depths" sDepths f fd ["tree"]) (D1 : Dn K mg "look_at_tree" sLook f1 fd1 ["thing"]) (G1 : FnOk P w K mg base CX0 3 f1 fd1 ["thing"] spLook)
    (D2 : Dn K mg "depths_by" sDepthsBy f2 fd2 ["parents"]) (G2 : FnOk P w K mg base CX0 1 f2 fd2 ["parents"] spDepthsBy) : FnOk P w K mg base CX0 4 f fd ["tree"] spDepths := by
  refine D.F.ok scDepths (fun vs H Q E h => ?_) (fun cdv A outer s H vs Q E hr h => ?_)
  · obtain ⟨t, ps, rfl, _⟩ := h
    rfl
  obtain ⟨t, ps, rfl, T, q⟩ := h
  refine ⟨_, pss_cons (ps_expr (pe_call G1 hr (by rfl) D1.g D1.F.kp D1.b .nil pass0 (pa_cons (pv 0) pa_nil)))
    (pss_one (ps_ret (pe_call G2 (hr.mono (by decide)) (by rfl) D2.g D2.F.kp D2.b .nil pass0 (pa_cons (pe_ix ix_tup (pv 0) pe_int (fun _ _ => rfl)) pa_nil)))), ?_⟩
  refine ⟨_, rfl, t, ps, rfl, T, fun H1 s1 => ?_⟩
  obtain ⟨a, b, rs, ht, ha, hb, hl, hrs⟩ := (T.same s1).at_
  refine ⟨_, rfl, t, _, 0, _, rfl, rfl, SqT.of ht, atI_nat (j := 0) rfl, a, ps, rfl, ha, T.ahead, T.most, fun H2 p s2 ep => ?_⟩
  exact q _ p (s1.trans s2) ep
abbrev sPlace : Stmt := topS 15
theorem scPlace : FnScope ["tree", "thing"] ["tree", "thing"] (defScope sPlace) := ⟨rfl, rfl, rfl, by decide +kernel, rfl, by decide +kernel, by decide +kernel⟩
def spPlace : Sp := fun vs H Q _ => ∃ (t : Addr) (ps : List Nat) (x : Nat), vs = [.ref t, .int (x : Int)] ∧ TreeAt H t ps ∧ x ≤ ps.length ∧ Q (.bl true) H
theorem ok_place {f f1 : Addr} {fd fd1 : FuncData} (D : Dn K mg "is_place" sPlace f fd ["tree", "thing"]) (D1 : Dn K mg "is_whole" sWhole f1 fd1 ["thing"]) (B : Bi mg) : FnOk P w K mg base CX0 2 f fd ["tree", "thing"] spPlace := by
  have G := ok_whole (P := P) (w := w) (base := base) D1 B
  refine D.F.ok scPlace (fun vs H Q E h => ?_) (fun cdv A outer s H vs Q E hr h => ?_)
  · obtain ⟨t, ps, x, rfl, _⟩ := h
    rfl
  obtain ⟨t, ps, x, rfl, T, hx, q⟩ := h
  obtain ⟨a, b, rs, ht, ha, hb, hl, hrs⟩ := T.at_
  refine ⟨_, pss_one (ps_ret (pe_and (pe_call G hr (by rfl) D1.g D1.F.kp D1.b .nil pass0 (pa_cons (pv 1) pa_nil)) (pe_one (pe_chain op_le op_le pe_int (pv 1)
    (pe_callB call_len_seq (by rfl) B.len PySem.boot_len (pa_cons (pe_ix ix_tup (pv 0) pe_int (fun _ _ => rfl)) pa_nil)))))), ?_⟩
  refine ⟨_, rfl, _, rfl, true, rfl, iteT ?_⟩
  refine ⟨_, rfl, 0, (x : Int), rfl, rfl, true, congrArg V.bl (decide_eq_true (by omega)), iteT ?_⟩
  exact ⟨_, rfl, t, _, 0, _, rfl, rfl, SqT.of ht, atI_nat (j := 0) rfl, a, _, rfl, .inl (SqL.of ha), _, _, rfl, rfl, q_true (Q := Q) (by rw [nv_len]; omega) q⟩
abbrev sTie : Stmt := topS 16
theorem scTie : FnScope ["tree", "thing"] ["tree", "thing"] (defScope sTie) := ⟨rfl, rfl, rfl, by decide +kernel, rfl, by decide +kernel, by decide +kernel⟩
def spTie : Sp := fun vs H Q _ => ∃ (t : Addr) (ps : List Nat) (x : Nat), vs = [.ref t, .int (x : Int)] ∧ TreeAt H t ps ∧ 0 < x ∧ x ≤ ps.length ∧ Q (.bl true) H
theorem ok_tie {f f1 : Addr} {fd fd1 : FuncData} (D : Dn K mg "is_tie" sTie f fd ["tree", "thing"]) (D1 : Dn K mg "is_place" sPlace f1 fd1 ["tree", "thing"]) (G1 : FnOk P w K mg base CX0 2 f1 fd1 ["tree", "thing"] spPlace) : FnOk P w K mg base CX0 3 f fd ["tree", "thing"] spTie := by
  refine D.F.ok scTie (fun vs H Q E h => ?_) (fun cdv A outer s H vs Q E hr h => ?_)
  · obtain ⟨t, ps, x, rfl, _⟩ := h
    rfl
  obtain ⟨t, ps, x, rfl, T, hx, hx2, q⟩ := h
  refine ⟨_, pss_one (ps_ret (pe_and (pe_call G1 hr (by rfl) D1.g D1.F.kp D1.b .nil pass0 (pa_cons (pv 0) (pa_cons (pv 1) pa_nil))) (pe_one (pe_cmpR op_gt (pv 1) pe_int (nomark _))))), ?_⟩
  refine ⟨_, rfl, _, rfl, t, ps, x, rfl, T, hx2, true, rfl, iteT ?_⟩
  exact ⟨_, rfl, _, _, rfl, rfl, q_true (Q := Q) (by omega) q⟩
end
end K14
/-! walked -/
namespace K14
open PySem PySem.Spec PyProof.Rows L2 Ways
section
variable {P : Program} {w : World} {K : PySem.W.Frag} {mg : Str → Option Value} {base : Heap}
abbrev sWalked : Stmt := topS 18
theorem scWalked : FnScope ["parents", "one", "other", "ties"] ["parents", "one", "other"] (defScope sWalked) := ⟨rfl, rfl, rfl, by decide +kernel, rfl, by decide +kernel, by decide +kernel⟩
def spWalked : Sp := fun vs H Q _ => ∃ (a : Addr) (ps : List Nat) (x y : Nat), vs = [.ref a, .int (x : Int), .int (y : Int)] ∧ H a = some (.lst (nv ps)) ∧ Ahead ps ∧ ps.length ≤ 16 ∧ x ≤ ps.length ∧ y ≤ ps.length ∧
  ∀ H' r p W, Same H H' → H' r = some (.tup [.ref p, .int ((meet ps x y : Nat) : Int)]) → H' p = some (.lst (nv W)) → W.Perm (way ps x y) → Q (.ref r) H'
theorem ok_walked {f : Addr} {fd : FuncData} (D : Dn K mg "walked" sWalked f fd ["parents", "one", "other"]) (B : Bi mg) : FnOk P w K mg base CX0 1 f fd ["parents", "one", "other"] spWalked := by
  refine D.F.ok scWalked (fun vs H Q E h => ?_) (fun cdv A outer s H vs Q E hr h => ?_)
  · obtain ⟨a, ps, x, y, rfl, _⟩ := h
    rfl
  obtain ⟨a, ps, x, y, rfl, ha, hA, most, hx, hy, q⟩ := h
  refine ⟨_, pss_cons (ps_set (i := 3) scWalked.nd rfl (.inl rfl) (pe_lst pa_nil))
    (pss_cons (ps_while PassesOwn.never (pt_cmpR op_ne (pv 1) (pv 2) (nomark _))
      (pss_cons (ps_if (pt_cmpR op_lt (pv 1) (pv 2) (nomark _)) (pss_one (ps_par (i := 1) (j := 2) rfl scWalked.nd rfl rfl (by decide) rfl rfl (pa_cons (pv 2) (pa_cons (pv 1) pa_nil)) (by rfl))) pss_nil)
      (pss_cons (ps_expr (pe_bm PySem.F.plainAttrs_list PySem.F.slot_list_append PySem.F.type_list_append mt_append (pv 3) (pa_cons (pv 1) pa_nil)))
      (pss_one (ps_set (i := 1) scWalked.nd rfl (.inl rfl) (pe_ix ix_list (pv 0) (pe_op op_sub (pv 1) pe_int) (fun _ _ => rfl)))))))
    (pss_one (ps_ret (pe_tup (pa_cons (pe_callB cr_sorted (by rfl) B.sorted (by decide +kernel) (pa_cons (pv 3) pa_nil)) (pa_cons (pv 1) pa_nil)))))), ?_⟩
  refine ⟨Nat.zero_le _, fun p np => ?_⟩
  have s0 : Same H (upd H p (.lst [])) := same_new np _
  refine ⟨fun m σ H1 => ∃ u v L, σ = [some (.ref a), some (.int ((u : Nat) : Int)), some (.int ((v : Nat) : Int)), some (.ref p)] ∧ Same H H1 ∧ H1 p = some (.lst (nv L)) ∧ u ≤ ps.length ∧ v ≤ ps.length ∧
    (L ++ way ps u v).Perm (way ps x y) ∧ meet ps u v = meet ps x y ∧ m = u + v, ⟨x + y, x, y, [], rfl, s0, upd_same, hx, hy, List.Perm.refl _, rfl, rfl⟩, fun m σ H1 hW => ?_⟩
  obtain ⟨u, v, L, rfl, s1, ep, hu, hv, pm, em, rfl⟩ := hW
  have wl := way_len_le ps x y
  have Ll : L.length ≤ x + y := by
    have e := pm.length_eq
    rw [List.length_append] at e
    omega
  -- the turn, the greater in front
  have step : ∀ g k : Nat, k < g → g ≤ ps.length → ∃ z : Nat, atI (nv ps) ((g : Int) - 1) = some (.int (z : Int)) ∧ pr ps g = z ∧ z < g := fun g k hk hg => by
    have h1 : ps[g - 1]? = some ps[g - 1] := List.getElem?_eq_getElem (by omega)
    have h2 : ((g : Int) - 1) = ((g - 1 : Nat) : Int) := by omega
    refine ⟨ps[g - 1], by rw [h2]; exact atI_nat (nv_get h1), ?_, ?_⟩
    · have q := pr_of hA h1
      rwa [show g - 1 + 1 = g by omega] at q
    · have q := hA _ _ h1
      omega
  refine ⟨_, rfl, _, rfl, rfl, _, rfl, ?_⟩
  by_cases e : u = v
  · refine iteNS (int_eq e) ?_
    subst e
    rw [way_same, List.append_nil] at pm
    rw [meet_same] at em
    refine ⟨_, rfl, p, iv L, rfl, SqL.of ep, by rw [iv_len]; omega, fun ns' p' perm _ new => ?_⟩
    obtain ⟨W, hW, rfl⟩ := perm_iv perm
    refine ⟨_, rfl, by show 2 ≤ sizeLine; decide, fun r nr => ?_⟩
    have nrp : p' ≠ r := ne_of_none upd_same nr
    refine q _ r p' W ((s1.trans (same_new new _)).trans (same_new nr _)) ?_ ?_ (hW.trans pm)
    · rw [upd_same, em]
    · rw [upd_ne nrp, upd_same]
      rfl
  · refine iteNF (int_ne e) ?_
    refine ⟨fun σ H2 => ∃ u' v' L', σ = [some (.ref a), some (.int ((u' : Nat) : Int)), some (.int ((v' : Nat) : Int)), some (.ref p)] ∧ Same H H2 ∧ H2 p = some (.lst (nv L')) ∧ u' ≤ ps.length ∧ v' ≤ ps.length ∧
      (L' ++ way ps u' v').Perm (way ps x y) ∧ meet ps u' v' = meet ps x y ∧ u' + v' < u + v, fun σ' H' hN => ?_, ?_⟩
    · obtain ⟨u', v', L', h1, h2, h3, h4, h5, h6, h7, h8⟩ := hN
      exact ⟨u' + v', h8, u', v', L', h1, h2, h3, h4, h5, h6, h7, rfl⟩
    refine ⟨_, rfl, _, rfl, _, _, rfl, rfl, _, rfl, ?_⟩
    have keep : ∀ k : Nat, Same H (upd H1 p (.lst (nv L ++ [.int (k : Int)]))) := fun k b o e => by
      rw [upd_ne (ne_of_none e np)]
      exact s1 _ _ e
    have big : (nv L).length < sizeLine := by
      rw [nv_len]
      exact small16 (by omega)
    by_cases g : u < v
    · refine iteD (by omega) ?_
      obtain ⟨z, hz, ez, zl⟩ := step v u g hv
      refine ⟨_, rfl, _, rfl, _, _, rfl, ?_⟩
      refine ⟨_, rfl, .inl ⟨rfl, _, SqL.of ep⟩, _, rfl, p, _, _, rfl, rfl, ep, big, ?_⟩
      refine ⟨_, rfl, _, rfl, _, _, rfl, rfl, a, _, _, _, rfl, rfl, SqL.of (keep v _ _ ha), hz, ?_⟩
      refine ⟨z, u, L ++ [v], rfl, keep v, ?_, by omega, hu, ?_, ?_, by omega⟩
      · rw [upd_same, nv_push]
      · rw [way_lt ps g, ez, way_comm ps u z] at pm
        rw [List.append_assoc]
        exact pm
      · rw [meet_lt ps g, ez, meet_comm ps u z] at em
        exact em
    · refine iteDF (by omega) ?_
      have g' : v < u := by omega
      obtain ⟨z, hz, ez, zl⟩ := step u v g' hu
      refine ⟨_, rfl, .inl ⟨rfl, _, SqL.of ep⟩, _, rfl, p, _, _, rfl, rfl, ep, big, ?_⟩
      refine ⟨_, rfl, _, rfl, _, _, rfl, rfl, a, _, _, _, rfl, rfl, SqL.of (keep u _ _ ha), hz, ?_⟩
      refine ⟨z, v, L ++ [u], rfl, keep u, ?_, by omega, hv, ?_, ?_, by omega⟩
      · rw [upd_same, nv_push]
      · rw [way_gt ps g', ez] at pm
        rw [List.append_assoc]
        exact pm
      · rw [meet_gt ps g', ez] at em
        exact em
end
end K14
/-! tops_of, look_at_places, way_between, meeting_of, tops_between -/
namespace K14
open PySem PySem.Spec PyProof.Rows L2 Ways
/-- the parent of a tie, read off the list -/
theorem par_at {ps : List Nat} (A : Ahead ps) {k : Nat} (h0 : 0 < k) (h : k ≤ ps.length) : atI (nv ps) ((k : Int) - 1) = some (.int ((pr ps k : Nat) : Int)) := by
  have h1 : ps[k - 1]? = some ps[k - 1] := List.getElem?_eq_getElem (by omega)
  have h2 : ((k : Int) - 1) = ((k - 1 : Nat) : Int) := by omega
  have q := pr_of A h1
  rw [show k - 1 + 1 = k by omega] at q
  rw [h2, q]
  exact atI_nat (nv_get h1)
theorem mem_of_get {l : List Nat} {i x : Nat} (h : l[i]? = some x) : x ∈ l := List.mem_iff_getElem?.mpr ⟨i, h⟩
section
variable {P : Program} {w : World} {K : PySem.W.Frag} {mg : Str → Option Value} {base : Heap}
abbrev sTopsOf : Stmt := topS 19
theorem scTopsOf : FnScope ["tree", "ask", "way", "meeting", "tie"] ["tree", "ask"] (defScope sTopsOf) := ⟨rfl, rfl, rfl, by decide +kernel, rfl, by decide +kernel, by decide +kernel⟩
/-- the tops among ties -/
def tops (ps : List Nat) (x y : Nat) (W : List Nat) : List Nat := W.filter fun t => decide (pr ps t = meet ps x y)
theorem tops_more (ps : List Nat) (x y : Nat) {W : List Nat} {i t : Nat} (h : W[i]? = some t) : tops ps x y (W.take (i + 1)) = if pr ps t = meet ps x y then tops ps x y (W.take i) ++ [t] else tops ps x y (W.take i) := by
  unfold tops
  rw [List.take_add_one, h, List.filter_append]
  show _ ++ List.filter _ [t] = _
  by_cases g : pr ps t = meet ps x y
  · rw [if_pos g, List.filter_cons, if_pos (decide_eq_true g)]
    rfl
  · rw [if_neg g, List.filter_cons, if_neg (by simpa using g)]
    exact List.append_nil _
def spTopsOf : Sp := fun vs H Q _ => ∃ (t k : Addr) (ps : List Nat) (x y : Nat), vs = [.ref t, .ref k] ∧ TreeAt H t ps ∧ H k = some (.tup [.int (x : Int), .int (y : Int)]) ∧ x ≤ ps.length ∧ y ≤ ps.length ∧
  ∀ H' p W, Same H H' → H' p = some (.lst (nv (tops ps x y W))) → W.Perm (way ps x y) → Q (.ref p) H'
theorem ok_topsOf {f f1 : Addr} {fd fd1 : FuncData} (D : Dn K mg "tops_of" sTopsOf f fd ["tree", "ask"]) (D1 : Dn K mg "walked" sWalked f1 fd1 ["parents", "one", "other"]) (G1 : FnOk P w K mg base CX0 1 f1 fd1 ["parents", "one", "other"] spWalked) :
    FnOk P w K mg base CX0 2 f fd ["tree", "ask"] spTopsOf := by
  refine D.F.ok scTopsOf (fun vs H Q E h => ?_) (fun cdv A outer s H vs Q E hr h => ?_)
  · obtain ⟨t, k, ps, x, y, rfl, _⟩ := h
    rfl
  obtain ⟨t, k, ps, x, y, rfl, T, hk, hx, hy, q⟩ := h
  obtain ⟨a, b, rs, ht, ha, hb, hl, hrs⟩ := id T.at_
  have i0 : atI [V.ref a, V.ref b] 0 = some (.ref a) := atI_nat (j := 0) rfl
  have j0 : atI [V.int (x : Int), V.int (y : Int)] 0 = some (.int (x : Int)) := atI_nat (j := 0) rfl
  have j1 : atI [V.int (x : Int), V.int (y : Int)] 1 = some (.int (y : Int)) := atI_nat (j := 1) rfl
  refine ⟨_, pss_cons (ps_asg (pe_call G1 hr (by rfl) D1.g D1.F.kp D1.b .nil pass0 (pa_cons (pe_ix ix_tup (pv 0) pe_int (fun _ _ => rfl)) (pa_cons (pe_ix ix_tup (pv 1) pe_int (fun _ _ => rfl)) (pa_cons (pe_ix ix_tup (pv 1) pe_int (fun _ _ => rfl)) pa_nil))))
      (pg_tup rfl (pgs_cons (pg_name (i := 2) scTopsOf.nd rfl (.inl rfl)) (pgs_cons (pg_name (i := 3) scTopsOf.nd rfl (.inr rfl)) pgs_nil))))
    (pss_one (ps_ret (pe_lc (own := [("tie", 4)]) (g := gName 4) rfl scTopsOf.nd (pi_list (pv 2)) (blkOk_by (N := ["tree", "ask", "way", "meeting", "tie"]) (sc := defScope sTopsOf) (by decide +kernel)) (fun _ _ _ _ _ => pg_name (i := 4) scTopsOf.nd rfl (Or.inl rfl))
      (fun _ _ _ _ _ => pts_one (pt_cmpR op_eq (pe_ix (ix_listK K) (pe_ix (ix_tupK K) (pv 0) pe_int (fun _ _ => rfl)) (pe_op op_sub (pv 4) pe_int) (fun _ _ => rfl)) (pv 3) (nomark _))) (fun _ _ _ _ _ => pv 4)))), ?_⟩
  refine ⟨_, rfl, t, _, 0, _, rfl, rfl, SqT.of ht, i0, _, rfl, k, _, 0, _, rfl, rfl, SqT.of hk, j0, _, rfl, k, _, 1, _, rfl, rfl, SqT.of hk, j1, a, ps, x, y, rfl, ha, T.ahead, T.most, hx, hy, fun H1 r p W s1 er ep pm => ?_⟩
  refine ⟨r, _, rfl, SqT.of er, rfl, _, _, rfl, _, _, rfl, rfl, ?_⟩
  refine ⟨_, rfl, p, rfl, ⟨_, SqL.of ep⟩, fun Z nZ => lc_list (K := K) (a := p) (xs := nv W) (fun i H' => Same H1 H' ∧ H' Z = some (.lst (nv (tops ps x y (W.take i))))) ⟨same_new nZ _, upd_same⟩ (fun i H' _ hP => SqL.of (hP.1 _ _ ep)) ?_ ?_⟩
  · rintro i v H2 hv ⟨s2, eZ⟩
    obtain ⟨tie, htie, rfl⟩ := of_nv hv
    have tl := way_le ps hx hy (pm.mem_iff.mp (mem_of_get htie))
    have s12 := s1.trans s2
    refine ⟨rfl, ?_⟩
    refine ⟨_, rfl, t, _, 0, _, rfl, rfl, SqT.of (s12 _ _ ht), i0, _, rfl, _, _, rfl, rfl, a, _, _, _, rfl, rfl, SqL.of (s12 _ _ ha), par_at T.ahead tl.1 tl.2, _, rfl, rfl, _, rfl, ?_⟩
    have em := tops_more ps x y htie
    by_cases g : pr ps tie = meet ps x y
    · rw [if_pos g] at em
      refine iteD (int_eq g) ?_
      refine ⟨_, rfl, _, eZ, ?_, fun b o e => ?_, ?_⟩
      · rw [nv_len]
        refine small16 ?_
        have l1 : (tops ps x y (W.take i)).length ≤ (W.take i).length := List.length_filter_le _ _
        have l2 := way_len_le ps x y
        have l3 := pm.length_eq
        have l4 : (W.take i).length ≤ W.length := by
          rw [List.length_take]
          exact Nat.min_le_right _ _
        have l5 := T.most
        omega
      · rw [upd_ne (ne_of_none e nZ)]
        exact s2 _ _ e
      · rw [upd_same, em, nv_push]
    · rw [if_neg g] at em
      refine iteDF (int_ne g) ⟨s2, ?_⟩
      rw [em]
      exact eZ
  · rintro H2 ⟨s2, eZ⟩
    rw [nv_len, List.take_length] at eZ
    exact q H2 Z W (s1.trans s2) eZ pm
abbrev sLookP : Stmt := topS 20
theorem scLookP : FnScope ["tree", "one", "other"] ["tree", "one", "other"] (defScope sLookP) := ⟨rfl, rfl, rfl, by decide +kernel, rfl, by decide +kernel, by decide +kernel⟩
/-- two unlike places of a tree are handed in -/
def Two (vs : List V) (H : Hp) (t : Addr) (ps : List Nat) (x y : Nat) : Prop := vs = [.ref t, .int (x : Int), .int (y : Int)] ∧ TreeAt H t ps ∧ x ≤ ps.length ∧ y ≤ ps.length ∧ x ≠ y
def spLookP : Sp := fun vs H Q _ => ∃ (t : Addr) (ps : List Nat) (x y : Nat), Two vs H t ps x y ∧ ∀ H', Same H H' → Q .non H'
theorem ok_lookP {f f1 f2 : Addr} {fd fd1 fd2 : FuncData} (D : Dn K mg "look_at_places" sLookP f fd ["tree", "one", "other"]) (D1 : Dn K mg "look_at_tree" sLook f1 fd1 ["thing"]) (G1 : FnOk P w K mg base CX0 3 f1 fd1 ["thing"] spLook)
    (D2 : Dn K mg "is_place" sPlace f2 fd2 ["tree", "thing"]) (G2 : FnOk P w K mg base CX0 2 f2 fd2 ["tree", "thing"] spPlace) : FnOk P w K mg base CX0 4 f fd ["tree", "one", "other"] spLookP := by
  refine D.F.ok scLookP (fun vs H Q E h => ?_) (fun cdv A outer s H vs Q E hr h => ?_)
  · obtain ⟨t, ps, x, y, ⟨rfl, _⟩, _⟩ := h
    rfl
  obtain ⟨t, ps, x, y, ⟨rfl, T, hx, hy, ne⟩, q⟩ := h
  refine ⟨_, pss_cons (ps_expr (pe_call G1 hr (by rfl) D1.g D1.F.kp D1.b .nil pass0 (pa_cons (pv 0) pa_nil)))
    (pss_one (ps_if (PW.pt (pw_or (pt_not (pt_val (pe_call G2 (hr.mono (by decide)) (by rfl) D2.g D2.F.kp D2.b .nil pass0 (pa_cons (pv 0) (pa_cons (pv 1) pa_nil)))))
      (pw_or (pt_not (pt_val (pe_call G2 (hr.mono (by decide)) (by rfl) D2.g D2.F.kp D2.b .nil pass0 (pa_cons (pv 0) (pa_cons (pv 2) pa_nil))))) (pw_or1 (pt_cmpR op_eq (pv 1) (pv 2) (nomark _)))))) (pss_one ps_never) pss_nil)), ?_⟩
  refine ⟨_, rfl, t, ps, rfl, T, fun H1 s1 => ?_⟩
  have T1 := T.same s1
  refine ⟨_, rfl, _, rfl, t, ps, x, rfl, T1, hx, true, rfl, iteF ?_⟩
  refine ⟨_, rfl, _, rfl, t, ps, y, rfl, T1, hy, true, rfl, iteF ?_⟩
  refine ⟨_, rfl, _, rfl, rfl, _, rfl, iteDF (int_ne ne) ?_⟩
  exact q H1 s1
abbrev sWayB : Stmt := topS 21
theorem scWayB : FnScope ["tree", "one", "other"] ["tree", "one", "other"] (defScope sWayB) := ⟨rfl, rfl, rfl, by decide +kernel, rfl, by decide +kernel, by decide +kernel⟩
def spWayB : Sp := fun vs H Q _ => ∃ (t : Addr) (ps : List Nat) (x y : Nat), Two vs H t ps x y ∧ ∀ H' p W, Same H H' → H' p = some (.lst (nv W)) → W.Perm (way ps x y) → Q (.ref p) H'
theorem ok_wayB {f f1 f2 : Addr} {fd fd1 fd2 : FuncData} (D : Dn K mg "way_between" sWayB f fd ["tree", "one", "other"]) (D1 : Dn K mg "look_at_places" sLookP f1 fd1 ["tree", "one", "other"]) (G1 : FnOk P w K mg base CX0 4 f1 fd1 ["tree", "one", "other"] spLookP)
    (D2 : Dn K mg "walked" sWalked f2 fd2 ["parents", "one", "other"]) (G2 : FnOk P w K mg base CX0 1 f2 fd2 ["parents", "one", "other"] spWalked) : FnOk P w K mg base CX0 5 f fd ["tree", "one", "other"] spWayB := by
  refine D.F.ok scWayB (fun vs H Q E h => ?_) (fun cdv A outer s H vs Q E hr h => ?_)
  · obtain ⟨t, ps, x, y, ⟨rfl, _⟩, _⟩ := h
    rfl
  obtain ⟨t, ps, x, y, ⟨rfl, T, hx, hy, ne⟩, q⟩ := h
  refine ⟨_, pss_cons (ps_expr (pe_call G1 hr (by rfl) D1.g D1.F.kp D1.b .nil pass0 (pa_cons (pv 0) (pa_cons (pv 1) (pa_cons (pv 2) pa_nil)))))
    (pss_one (ps_ret (pe_ix ix_tup (pe_call G2 (hr.mono (by decide)) (by rfl) D2.g D2.F.kp D2.b .nil pass0 (pa_cons (pe_ix ix_tup (pv 0) pe_int (fun _ _ => rfl)) (pa_cons (pv 1) (pa_cons (pv 2) pa_nil)))) pe_int (fun _ _ => rfl)))), ?_⟩
  refine ⟨_, rfl, _, rfl, _, rfl, t, ps, x, y, ⟨rfl, T, hx, hy, ne⟩, fun H1 s1 => ?_⟩
  obtain ⟨a, b, rs, ht, ha, hb, hl, hrs⟩ := (T.same s1).at_
  refine ⟨_, rfl, t, _, 0, _, rfl, rfl, SqT.of ht, atI_nat (j := 0) rfl, _, rfl, _, rfl, a, ps, x, y, rfl, ha, T.ahead, T.most, hx, hy, fun H2 r p W s2 er ep pm => ?_⟩
  exact ⟨r, _, 0, _, rfl, rfl, SqT.of er, atI_nat (j := 0) rfl, q H2 p W (s1.trans s2) ep pm⟩
abbrev sMeetO : Stmt := topS 22
theorem scMeetO : FnScope ["tree", "one", "other"] ["tree", "one", "other"] (defScope sMeetO) := ⟨rfl, rfl, rfl, by decide +kernel, rfl, by decide +kernel, by decide +kernel⟩
def spMeetO : Sp := fun vs H Q _ => ∃ (t : Addr) (ps : List Nat) (x y : Nat), Two vs H t ps x y ∧ ∀ H', Same H H' → Q (.int ((meet ps x y : Nat) : Int)) H'
theorem ok_meetO {f f1 f2 : Addr} {fd fd1 fd2 : FuncData} (D : Dn K mg "meeting_of" sMeetO f fd ["tree", "one", "other"]) (D1 : Dn K mg "look_at_places" sLookP f1 fd1 ["tree", "one", "other"]) (G1 : FnOk P w K mg base CX0 4 f1 fd1 ["tree", "one", "other"] spLookP)
    (D2 : Dn K mg "walked" sWalked f2 fd2 ["parents", "one", "other"]) (G2 : FnOk P w K mg base CX0 1 f2 fd2 ["parents", "one", "other"] spWalked) : FnOk P w K mg base CX0 5 f fd ["tree", "one", "other"] spMeetO := by
  refine D.F.ok scMeetO (fun vs H Q E h => ?_) (fun cdv A outer s H vs Q E hr h => ?_)
  · obtain ⟨t, ps, x, y, ⟨rfl, _⟩, _⟩ := h
    rfl
  obtain ⟨t, ps, x, y, ⟨rfl, T, hx, hy, ne⟩, q⟩ := h
  refine ⟨_, pss_cons (ps_expr (pe_call G1 hr (by rfl) D1.g D1.F.kp D1.b .nil pass0 (pa_cons (pv 0) (pa_cons (pv 1) (pa_cons (pv 2) pa_nil)))))
    (pss_one (ps_ret (pe_ix ix_tup (pe_call G2 (hr.mono (by decide)) (by rfl) D2.g D2.F.kp D2.b .nil pass0 (pa_cons (pe_ix ix_tup (pv 0) pe_int (fun _ _ => rfl)) (pa_cons (pv 1) (pa_cons (pv 2) pa_nil)))) pe_int (fun _ _ => rfl)))), ?_⟩
  refine ⟨_, rfl, _, rfl, _, rfl, t, ps, x, y, ⟨rfl, T, hx, hy, ne⟩, fun H1 s1 => ?_⟩
  obtain ⟨a, b, rs, ht, ha, hb, hl, hrs⟩ := (T.same s1).at_
  refine ⟨_, rfl, t, _, 0, _, rfl, rfl, SqT.of ht, atI_nat (j := 0) rfl, _, rfl, _, rfl, a, ps, x, y, rfl, ha, T.ahead, T.most, hx, hy, fun H2 r p W s2 er ep pm => ?_⟩
  exact ⟨r, _, 1, _, rfl, rfl, SqT.of er, atI_nat (j := 1) rfl, q H2 (s1.trans s2)⟩
abbrev sTopsB : Stmt := topS 23
theorem scTopsB : FnScope ["tree", "one", "other"] ["tree", "one", "other"] (defScope sTopsB) := ⟨rfl, rfl, rfl, by decide +kernel, rfl, by decide +kernel, by decide +kernel⟩
def spTopsB : Sp := fun vs H Q _ => ∃ (t : Addr) (ps : List Nat) (x y : Nat), Two vs H t ps x y ∧ ∀ H' p W, Same H H' → H' p = some (.lst (nv (tops ps x y W))) → W.Perm (way ps x y) → Q (.ref p) H'
theorem ok_topsB {f f1 f2 : Addr} {fd fd1 fd2 : FuncData} (D : Dn K mg "tops_between" sTopsB f fd ["tree", "one", "other"]) (D1 : Dn K mg "look_at_places" sLookP f1 fd1 ["tree", "one", "other"]) (G1 : FnOk P w K mg base CX0 4 f1 fd1 ["tree", "one", "other"] spLookP)
    (D2 : Dn K mg "tops_of" sTopsOf f2 fd2 ["tree", "ask"]) (G2 : FnOk P w K mg base CX0 2 f2 fd2 ["tree", "ask"] spTopsOf) : FnOk P w K mg base CX0 5 f fd ["tree", "one", "other"] spTopsB := by
  refine D.F.ok scTopsB (fun vs H Q E h => ?_) (fun cdv A outer s H vs Q E hr h => ?_)
  · obtain ⟨t, ps, x, y, ⟨rfl, _⟩, _⟩ := h
    rfl
  obtain ⟨t, ps, x, y, ⟨rfl, T, hx, hy, ne⟩, q⟩ := h
  refine ⟨_, pss_cons (ps_expr (pe_call G1 hr (by rfl) D1.g D1.F.kp D1.b .nil pass0 (pa_cons (pv 0) (pa_cons (pv 1) (pa_cons (pv 2) pa_nil)))))
    (pss_one (ps_ret (pe_call G2 (hr.mono (by decide)) (by rfl) D2.g D2.F.kp D2.b .nil pass0 (pa_cons (pv 0) (pa_cons (pe_tup (pa_cons (pv 1) (pa_cons (pv 2) pa_nil))) pa_nil))))), ?_⟩
  refine ⟨_, rfl, _, rfl, _, rfl, t, ps, x, y, ⟨rfl, T, hx, hy, ne⟩, fun H1 s1 => ?_⟩
  refine ⟨_, rfl, _, rfl, _, rfl, by show 2 ≤ sizeLine; decide, fun k nk => ?_⟩
  refine ⟨t, k, ps, x, y, rfl, (T.same s1).same (same_new nk _), upd_same, hx, hy, fun H2 p W s2 ep pm => ?_⟩
  exact q H2 p W ((s1.trans (same_new nk _)).trans s2) ep pm
end
end K14
/-! lies_beneath, is_beneath, the law's cells, pools and draws -/
namespace K14
open PySem PySem.Spec PyProof.Rows L2 Ways
section
variable {P : Program} {w : World} {K : PySem.W.Frag} {mg : Str → Option Value} {base : Heap}
abbrev sLies : Stmt := topS 24
theorem scLies : FnScope ["parents", "one", "other"] ["parents", "one", "other"] (defScope sLies) := ⟨rfl, rfl, rfl, by decide +kernel, rfl, by decide +kernel, by decide +kernel⟩
def spLies : Sp := fun vs H Q _ => ∃ (a : Addr) (ps : List Nat) (k t : Nat), vs = [.ref a, .int (k : Int), .int (t : Int)] ∧ H a = some (.lst (nv ps)) ∧ Ahead ps ∧ k ≤ ps.length ∧ 0 < t ∧ Q (.bl (decide (t ∈ up ps (pr ps k)))) H
theorem ok_lies {f : Addr} {fd : FuncData} (D : Dn K mg "lies_beneath" sLies f fd ["parents", "one", "other"]) : FnOk P w K mg base CX0 1 f fd ["parents", "one", "other"] spLies := by
  refine D.F.ok scLies (fun vs H Q E h => ?_) (fun cdv A outer s H vs Q E hr h => ?_)
  · obtain ⟨a, ps, k, t, rfl, _⟩ := h
    rfl
  obtain ⟨a, ps, k, t, rfl, ha, hA, hk, ht, q⟩ := h
  refine ⟨_, pss_cons (ps_while PassesOwn.never (pt_cmpR op_gt (pv 1) (pv 2) (nomark _))
      (pss_cons (ps_set (i := 1) scLies.nd rfl (.inl rfl) (pe_ix ix_list (pv 0) (pe_op op_sub (pv 1) pe_int) (fun _ _ => rfl)))
      (pss_one (ps_if (pt_cmpR op_eq (pv 1) (pv 2) (nomark _)) (pss_one (ps_ret pe_bl)) pss_nil))))
    (pss_one (ps_ret pe_bl)), ?_⟩
  refine ⟨fun m σ H1 => ∃ u : Nat, σ = [some (.ref a), some (.int (u : Int)), some (.int (t : Int))] ∧ H1 = H ∧ u ≤ ps.length ∧ (t ∈ up ps (pr ps u) ↔ t ∈ up ps (pr ps k)) ∧ m = u, ⟨k, k, rfl, rfl, hk, Iff.rfl, rfl⟩, fun m σ H1 hW => ?_⟩
  obtain ⟨u, rfl, rfl, hu, iff, rfl⟩ := hW
  refine ⟨_, rfl, _, rfl, _, _, rfl, rfl, _, rfl, ?_⟩
  by_cases g : t < m
  · refine iteD (by omega) ?_
    refine ⟨fun σ H2 => ∃ u' : Nat, σ = [some (.ref a), some (.int (u' : Int)), some (.int (t : Int))] ∧ H2 = H1 ∧ u' ≤ ps.length ∧ (t ∈ up ps (pr ps u') ↔ t ∈ up ps (pr ps k)) ∧ u' < m, fun σ' H' hN => ?_, ?_⟩
    · obtain ⟨u', h1, h2, h3, h4, h5⟩ := hN
      exact ⟨u', h5, u', h1, h2, h3, h4, rfl⟩
    have l := pr_lt ps (k := m) (by omega)
    have bs := beneath_step ps g ht
    refine ⟨_, rfl, _, rfl, _, _, rfl, rfl, a, _, _, _, rfl, rfl, SqL.of ha, par_at hA (by omega) hu, ?_⟩
    refine ⟨_, rfl, _, rfl, rfl, _, rfl, ?_⟩
    by_cases e : pr ps m = t
    · refine iteD (int_eq e) ?_
      have yes : t ∈ up ps (pr ps k) := iff.mp (bs.mpr (.inl e))
      rw [decide_eq_true yes] at q
      exact q
    · refine iteDF (int_ne e) ?_
      exact ⟨pr ps m, rfl, rfl, by omega, ⟨fun r => iff.mp (bs.mpr (.inr r)), fun r => (bs.mp (iff.mpr r)).elim (fun z => absurd z e) id⟩, l⟩
  · refine iteDF (by omega) ?_
    have no : ¬ t ∈ up ps (pr ps k) := fun r => beneath_end ps g (iff.mpr r)
    rw [decide_eq_false no] at q
    exact q
abbrev sBeneath : Stmt := topS 25
theorem scBeneath : FnScope ["tree", "one", "other"] ["tree", "one", "other"] (defScope sBeneath) := ⟨rfl, rfl, rfl, by decide +kernel, rfl, by decide +kernel, by decide +kernel⟩
def spBeneath : Sp := fun vs H Q _ => ∃ (t : Addr) (ps : List Nat) (k z : Nat), vs = [.ref t, .int (k : Int), .int (z : Int)] ∧ TreeAt H t ps ∧ 0 < k ∧ k ≤ ps.length ∧ 0 < z ∧ z ≤ ps.length ∧ ∀ H', Same H H' → Q (.bl (decide (z ∈ up ps (pr ps k)))) H'
theorem ok_beneath {f f1 f2 f3 : Addr} {fd fd1 fd2 fd3 : FuncData} (D : Dn K mg "is_beneath" sBeneath f fd ["tree", "one", "other"]) (D1 : Dn K mg "look_at_tree" sLook f1 fd1 ["thing"]) (G1 : FnOk P w K mg base CX0 3 f1 fd1 ["thing"] spLook)
    (D2 : Dn K mg "is_tie" sTie f2 fd2 ["tree", "thing"]) (G2 : FnOk P w K mg base CX0 3 f2 fd2 ["tree", "thing"] spTie) (D3 : Dn K mg "lies_beneath" sLies f3 fd3 ["parents", "one", "other"]) : FnOk P w K mg base CX0 4 f fd ["tree", "one", "other"] spBeneath := by
  have G3 := ok_lies (P := P) (w := w) (base := base) D3
  refine D.F.ok scBeneath (fun vs H Q E h => ?_) (fun cdv A outer s H vs Q E hr h => ?_)
  · obtain ⟨t, ps, k, z, rfl, _⟩ := h
    rfl
  obtain ⟨t, ps, k, z, rfl, T, k0, k1, z0, z1, q⟩ := h
  refine ⟨_, pss_cons (ps_expr (pe_call G1 hr (by rfl) D1.g D1.F.kp D1.b .nil pass0 (pa_cons (pv 0) pa_nil)))
    (pss_cons (ps_if (PW.pt (pw_or (pt_not (pt_val (pe_call G2 hr (by rfl) D2.g D2.F.kp D2.b .nil pass0 (pa_cons (pv 0) (pa_cons (pv 1) pa_nil)))))
      (pw_or1 (pt_not (pt_val (pe_call G2 hr (by rfl) D2.g D2.F.kp D2.b .nil pass0 (pa_cons (pv 0) (pa_cons (pv 2) pa_nil)))))))) (pss_one ps_never) pss_nil)
    (pss_one (ps_ret (pe_call G3 (hr.mono (by decide)) (by rfl) D3.g D3.F.kp D3.b .nil pass0 (pa_cons (pe_ix ix_tup (pv 0) pe_int (fun _ _ => rfl)) (pa_cons (pv 1) (pa_cons (pv 2) pa_nil))))))), ?_⟩
  refine ⟨_, rfl, t, ps, rfl, T, fun H1 s1 => ?_⟩
  have T1 := T.same s1
  obtain ⟨a, b, rs, ht, ha, hb, hl, hrs⟩ := id T1.at_
  refine ⟨_, rfl, _, rfl, t, ps, k, rfl, T1, k0, k1, true, rfl, iteF ?_⟩
  refine ⟨_, rfl, _, rfl, t, ps, z, rfl, T1, z0, z1, true, rfl, iteF ?_⟩
  exact ⟨_, rfl, t, _, 0, _, rfl, rfl, SqT.of ht, atI_nat (j := 0) rfl, _, rfl, _, rfl, a, ps, k, z, rfl, ha, T.ahead, k1, z0, q H1 s1⟩
/-! ### cells, pools, draws -/
abbrev sCell : Stmt := topS 27
theorem scCell : FnScope ["_law_script", "_law_k"] ["_law_script", "_law_k"] (defScope sCell) := ⟨rfl, rfl, rfl, by decide +kernel, rfl, by decide +kernel, by decide +kernel⟩
def spCell (K : PySem.W.Frag) : Sp := fun vs H Q _ => ∃ (a : Addr) (ns : List Int) (k : Nat), vs = [.ref a, .int (k : Int)] ∧ SqL K H a (ns.map V.int) ∧ ∀ x : Int, Q (.int x) H
theorem ok_cell {f : Addr} {fd : FuncData} (D : Dn K mg "_law_cell_at" sCell f fd ["_law_script", "_law_k"]) (B : Bi mg) : FnOk P w K mg base CX0 1 f fd ["_law_script", "_law_k"] (spCell K) := by
  refine D.F.ok scCell (fun vs H Q E h => ?_) (fun cdv A outer s H vs Q E hr h => ?_)
  · obtain ⟨a, ns, k, rfl, _⟩ := h
    rfl
  obtain ⟨a, ns, k, rfl, hS, q⟩ := h
  refine ⟨_, pss_cons (ps_if (pt_cmpR op_lt (pv 1) (pe_callB call_len_seq (by rfl) B.len PySem.boot_len (pa_cons (pv 0) pa_nil)) (nomark _)) (pss_one (ps_ret (pe_ix ix_list (pv 0) (pv 1) (fun _ _ => rfl)))) pss_nil)
    (pss_one (ps_ret pe_int)), ?_⟩
  refine ⟨_, rfl, _, rfl, a, _, rfl, .inl hS, _, _, rfl, rfl, _, rfl, ?_⟩
  by_cases g : k < ns.length
  · refine iteD (by rw [List.length_map]; omega) ?_
    have e : (ns.map V.int)[k]? = some (.int ns[k]) := by
      rw [List.getElem?_map, List.getElem?_eq_getElem g]
      rfl
    exact ⟨_, rfl, _, rfl, a, _, _, _, rfl, rfl, hS, atI_nat e, q _⟩
  · exact iteDF (by rw [List.length_map]; omega) (q 0)
abbrev sPool : Stmt := topS 28
theorem scPool : FnScope ["_law_script", "_law_k", "_law_cell", "_law_mixed"] ["_law_script", "_law_k"] (defScope sPool) := ⟨rfl, rfl, rfl, by decide +kernel, rfl, by decide +kernel, by decide +kernel⟩
def spPool (K : PySem.W.Frag) : Sp := fun vs H Q _ => ∃ (a : Addr) (ns : List Int) (k : Nat), vs = [.ref a, .int (k : Int)] ∧ SqL K H a (ns.map V.int) ∧ k ≤ 63 ∧ ∀ (x y : Int) (p : Addr), H p = none → Q (.ref p) (upd H p (.lst [.int x, .int y]))
theorem ok_pool {f f1 : Addr} {fd fd1 : FuncData} (D : Dn K mg "_law_pool" sPool f fd ["_law_script", "_law_k"]) (D1 : Dn K mg "_law_cell_at" sCell f1 fd1 ["_law_script", "_law_k"]) (B : Bi mg) : FnOk P w K mg base CX0 2 f fd ["_law_script", "_law_k"] (spPool K) := by
  have G := ok_cell (P := P) (w := w) (base := base) D1 B
  refine D.F.ok scPool (fun vs H Q E h => ?_) (fun cdv A outer s H vs Q E hr h => ?_)
  · obtain ⟨a, ns, k, rfl, _⟩ := h
    rfl
  obtain ⟨a, ns, k, rfl, hS, hk, q⟩ := h
  refine ⟨_, pss_cons (ps_set (i := 2) scPool.nd rfl (.inl rfl) (pe_call G hr (by rfl) D1.g D1.F.kp D1.b .nil pass0 (pa_cons (pv 0) (pa_cons (pv 1) pa_nil))))
    (pss_cons (ps_set (i := 3) scPool.nd rfl (.inl rfl) (pe_op op_add (pe_op op_add (pe_op op_add (pe_op op_mul (pe_op op_mod (pv 2) pe_int) pe_int) (pe_op op_mul (pe_op op_mul pe_int (pv 1)) (pv 1))) (pe_op op_mul pe_int (pv 1))) pe_int))
    (pss_cons (ps_if (pt_cmpR op_lt (pv 2) (pe_op op_pow pe_int pe_int) (nomark _)) (pss_one (ps_set (i := 2) scPool.nd rfl (.inl rfl) pe_int)) pss_nil)
    (pss_one (ps_ret (pe_lst (pa_cons (pv 2) (pa_cons (pe_op op_mod (pv 3) pe_int) pa_nil))))))), ?_⟩
  refine ⟨_, rfl, _, rfl, a, ns, k, rfl, hS, fun x => ?_⟩
  have m1 : (0 : Int) < 2147483629 := by decide
  have m2 : (0 : Int) < 2147483647 := by decide
  refine ⟨_, rfl, _, _, rfl, rfl, m1, _, _, rfl, rfl, .inr (by decide), _, rfl, _, _, rfl, rfl, .inl (by decide), _, rfl, _, _, rfl, rfl, .inl (by omega), _, _, rfl, rfl, _, rfl, _, _, rfl, rfl, .inl (by decide), _, _, rfl, rfl, _, _, rfl, rfl, ?_⟩
  refine ⟨_, rfl, _, _, rfl, rfl, ⟨by decide, by decide, by decide⟩, _, _, rfl, rfl, _, rfl, ite2 (fun _ => ?_) (fun _ => ?_)⟩
  · exact ⟨_, rfl, _, rfl, _, _, rfl, rfl, m2, by show 2 ≤ sizeLine; decide, fun p np => q _ _ p np⟩
  · exact ⟨_, rfl, _, rfl, _, _, rfl, rfl, m2, by show 2 ≤ sizeLine; decide, fun p np => q _ _ p np⟩
end
end K14
/-! a draw, a drawn tree -/
namespace K14
open PySem PySem.Spec PyProof.Rows L2 Ways
theorem upd_back {H : Hp} {a : Addr} {o : HO} (h : H a = some o) : upd H a o = H := by
  funext b
  by_cases e : b = a
  · subst e
    rw [upd_same, h]
  · rw [upd_ne e]
section
variable {P : Program} {w : World} {K : PySem.W.Frag} {mg : Str → Option Value} {base : Heap}
abbrev sTake : Stmt := topS 29
theorem scTake : FnScope ["_law_pool_here", "_law_many", "_law_found", "_law_made", "_law_turn"] ["_law_pool_here", "_law_many"] (defScope sTake) := ⟨rfl, rfl, rfl, by decide +kernel, rfl, by decide +kernel, by decide +kernel⟩
def spTake : Sp := fun vs H Q _ => ∃ (a : Addr) (m : Nat) (x y : Int), vs = [.ref a, .int (m : Int)] ∧ H a = some (.lst [.int x, .int y]) ∧ 0 < m ∧ m ≤ 1000 ∧ ∀ (x' y' : Int) (r : Nat), r < m → Q (.int (r : Int)) (upd H a (.lst [.int x', .int y']))
theorem ok_take {f : Addr} {fd : FuncData} (D : Dn K mg "_law_take" sTake f fd ["_law_pool_here", "_law_many"]) (B : Bi mg) : FnOk P w K mg base CX0 1 f fd ["_law_pool_here", "_law_many"] spTake := by
  refine D.F.ok scTake (fun vs H Q E h => ?_) (fun cdv A outer s H vs Q E hr h => ?_)
  · obtain ⟨a, m, x, y, rfl, _⟩ := h
    rfl
  obtain ⟨a, m, x, y, rfl, ha, m0, m1, q⟩ := h
  have i0 : ∀ u v : Int, atI [V.int u, V.int v] 0 = some (.int u) := fun u v => atI_nat (j := 0) rfl
  have i1 : ∀ u v : Int, atI [V.int u, V.int v] 1 = some (.int v) := fun u v => atI_nat (j := 1) rfl
  have rest : ∀ z : Int, ∃ r : Nat, z % (m : Int) = (r : Int) ∧ r < m := fun z => by
    have h1 := Int.emod_nonneg z (show (m : Int) ≠ 0 by omega)
    have h2 := Int.emod_lt_of_pos z (show (0 : Int) < m by omega)
    exact ⟨(z % (m : Int)).toNat, by omega, by omega⟩
  refine ⟨_, pss_cons (ps_if (pt_cmpR op_gt (pe_ix ix_list (pv 0) pe_int (fun _ _ => rfl)) pe_int (nomark _))
      (pss_cons (ps_set (i := 2) scTake.nd rfl (.inl rfl) (pe_op op_mod (pe_ix ix_list (pv 0) pe_int (fun _ _ => rfl)) (pv 1)))
      (pss_cons (ps_asg (pe_op op_fdiv (pe_ix ix_list (pv 0) pe_int (fun _ _ => rfl)) (pv 1)) (pg_sub (pv 0) pe_int set_list))
      (pss_one (ps_ret (pv 2))))) pss_nil)
    (pss_cons (ps_set (i := 3) scTake.nd rfl (.inl rfl) pe_int)
    (pss_cons (ps_for PassesOwn.never rfl (pi_range1 (by rfl) B.range (pa_cons (pe_op op_add pe_int (pe_op op_mul pe_int (pe_callTy call_int1 (by rfl) B.int PyProof.Rows.boot_int (pa_cons (pe_cmpR op_gt (pv 1) (pe_op op_pow pe_int pe_int) (nomark _)) pa_nil)))) pa_nil))
        (pg_name (i := 4) scTake.nd rfl (.inl rfl))
        (pss_cons (ps_asg (pe_op op_mod (pe_op op_add (pe_op op_mul (pe_ix ix_list (pv 0) pe_int (fun _ _ => rfl)) pe_int) pe_int) pe_int) (pg_sub (pv 0) pe_int set_list))
        (pss_one (ps_set (i := 3) scTake.nd rfl (.inl rfl) (pe_op op_add (pe_op op_mul (pv 3) pe_int) (pe_op op_mod (pe_op op_mul (pe_ix ix_list (pv 0) pe_int (fun _ _ => rfl)) pe_int) pe_int))))))
    (pss_one (ps_ret (pe_op op_mod (pe_op op_fdiv (pv 3) pe_int) (pv 1)))))), ?_⟩
  have d1 : (0 : Int) < 2147483587 := by decide
  have d2 : (0 : Int) < 2147483629 := by decide
  have mp : (0 : Int) < (m : Int) := by omega
  refine ⟨_, rfl, a, _, 0, _, rfl, rfl, SqL.of ha, i0 x y, _, _, rfl, rfl, _, rfl, ite2 (fun _ => ?_) (fun _ => ?_)⟩
  · obtain ⟨r, er, rl⟩ := rest x
    refine ⟨_, rfl, a, _, 0, _, rfl, rfl, SqL.of ha, i0 x y, _, rfl, _, _, rfl, rfl, mp, ?_⟩
    refine ⟨_, rfl, a, _, 0, _, rfl, rfl, SqL.of ha, i0 x y, _, rfl, _, _, rfl, rfl, ⟨mp, by omega⟩, _, rfl, a, _, _, 0, rfl, rfl, ha, rfl, ?_⟩
    refine ⟨_, rfl, ?_⟩
    show Q (.int (x % (m : Int))) _
    rw [er]
    exact q _ _ r rl
  · refine ⟨_, rfl, _, _, rfl, rfl, ⟨by decide, by decide, by decide⟩, _, _, rfl, rfl, .inr ⟨_, rfl, ?_⟩⟩
    refine ⟨_, _, rfl, rfl, .inl (by decide), _, _, rfl, rfl, _, rfl, ?_, ?_, for_range (fun i σ H' => ∃ (y' md : Int) (z : Option V), σ = [some (.ref a), some (.int (m : Int)), none, some (.int md), z] ∧ H' = upd H a (.lst [.int x, .int y']))
      ⟨y, 0, none, rfl, (upd_back ha).symm⟩ ?_ ?_⟩
    · split <;> omega
    · split <;> omega
    · rintro i σ H1 _ ⟨y', md, z, rfl, rfl⟩
      refine ⟨_, rfl, a, _, 1, _, rfl, rfl, SqL.of upd_same, i1 x y', _, _, rfl, rfl, .inr (by decide), _, _, rfl, rfl, _, _, rfl, rfl, d1, _, rfl, a, _, _, 1, rfl, rfl, upd_same, rfl, ?_⟩
      refine ⟨_, rfl, _, _, rfl, rfl, .inr (by decide), _, rfl, a, _, 1, _, rfl, rfl, SqL.of upd_same, i1 x _, _, _, rfl, rfl, .inr (by decide), _, _, rfl, rfl, d2, _, _, rfl, rfl, ?_⟩
      exact ⟨_, _, _, rfl, upd_upd⟩
    · rintro σ H1 ⟨y', md, z, rfl, rfl⟩
      obtain ⟨r, er, rl⟩ := rest (md / 64)
      refine ⟨_, rfl, _, _, rfl, rfl, ⟨by decide, by decide⟩, _, rfl, _, _, rfl, rfl, mp, ?_⟩
      show Q (.int (md / 64 % (m : Int))) _
      rw [er]
      exact q _ _ r rl
end
end K14
/-! a drawn tree -/
namespace K14
open PySem PySem.Spec PyProof.Rows L2 Ways
/-- the five parents among which a draw picks -/
theorem pick5 {i r d : Nat} (hr : r < i + 1) (hd : d < 5) : ∃ z : Nat, z ≤ i ∧
    atI [V.int (r : Int), V.int (((i + 1 : Nat) : Int) - 1), V.int 0, V.int (if (((i + 1 : Nat) : Int) - 1 - ((i + 1 : Nat) : Int) % 2) > 0 then (((i + 1 : Nat) : Int) - 1 - ((i + 1 : Nat) : Int) % 2) else 0), V.int (((i + 1 : Nat) : Int) / 2)] (d : Int) = some (.int (z : Int)) := by
  have h1 : ((i + 1 : Nat) : Int) - 1 = (i : Int) := by omega
  have h2 : (if (((i + 1 : Nat) : Int) - 1 - ((i + 1 : Nat) : Int) % 2) > 0 then (((i + 1 : Nat) : Int) - 1 - ((i + 1 : Nat) : Int) % 2) else 0) = ((i - (i + 1) % 2 : Nat) : Int) := by
    split <;> omega
  have h3 : ((i + 1 : Nat) : Int) / 2 = (((i + 1) / 2 : Nat) : Int) := by omega
  rw [h2, h1, h3]
  have hd' : d = 0 ∨ d = 1 ∨ d = 2 ∨ d = 3 ∨ d = 4 := by omega
  rcases hd' with e | e | e | e | e
  · subst e
    exact ⟨r, by omega, atI_nat rfl⟩
  · subst e
    exact ⟨i, by omega, atI_nat rfl⟩
  · subst e
    exact ⟨0, by omega, atI_nat rfl⟩
  · subst e
    exact ⟨i - (i + 1) % 2, by omega, atI_nat rfl⟩
  · subst e
    exact ⟨(i + 1) / 2, by omega, atI_nat rfl⟩
theorem ahead_push {ps : List Nat} {z : Nat} (A : Ahead ps) (h : z ≤ ps.length) : Ahead (ps ++ [z]) := by
  intro i x hx
  by_cases g : i < ps.length
  · rw [List.getElem?_append_left g] at hx
    exact A i x hx
  · rw [List.getElem?_append_right (by omega)] at hx
    have hi : i - ps.length = 0 := by
      have q := (List.getElem?_eq_some_iff.mp hx).1
      rw [List.length_singleton] at q
      omega
    rw [hi] at hx
    have e : z = x := Option.some.inj hx
    omega
section
variable {P : Program} {w : World} {K : PySem.W.Frag} {mg : Str → Option Value} {base : Heap}
abbrev sTree : Stmt := topS 30
theorem scTree : FnScope ["_law_pool_here", "_law_most", "_law_sizes", "_law_way_here", "_law_parents", "_law_rooms", "_law_size", "_law_k"] ["_law_pool_here", "_law_most", "_law_sizes"] (defScope sTree) := ⟨rfl, rfl, rfl, by decide +kernel, rfl, by decide +kernel, by decide +kernel⟩
def spTree : Sp := fun vs H Q _ => ∃ (a z : Addr) (x y : Int), vs = [.ref a, .int 16, .ref z] ∧ H a = some (.lst [.int x, .int y]) ∧ H z = some (.lst [.int 3]) ∧ ∀ H' t ps, Keep a H H' → TreeAt H' t ps → Q (.ref t) H'
theorem ok_tree {f f1 : Addr} {fd fd1 : FuncData} (D : Dn K mg "_law_tree" sTree f fd ["_law_pool_here", "_law_most", "_law_sizes"]) (D1 : Dn K mg "_law_take" sTake f1 fd1 ["_law_pool_here", "_law_many"]) (B : Bi mg) : FnOk P w K mg base CX0 2 f fd ["_law_pool_here", "_law_most", "_law_sizes"] spTree := by
  have G := ok_take (P := P) (w := w) (base := base) D1 B
  refine D.F.ok scTree (fun vs H Q E h => ?_) (fun cdv A outer s H vs Q E hr h => ?_)
  · obtain ⟨a, z, x, y, rfl, _⟩ := h
    rfl
  obtain ⟨a, z, x, y, rfl, ha, hz, q⟩ := h
  have naz : z ≠ a := ne_of hz ha (by intro e; cases e)
  refine ⟨_, pss_cons (ps_set (i := 3) scTree.nd rfl (.inl rfl) (pe_call G hr (by rfl) D1.g D1.F.kp D1.b .nil pass0 (pa_cons (pv 0) (pa_cons pe_int pa_nil))))
    (pss_cons (ps_set (i := 4) scTree.nd rfl (.inl rfl) (pe_lst pa_nil))
    (pss_cons (ps_set (i := 5) scTree.nd rfl (.inl rfl) (pe_lst pa_nil))
    (pss_cons (ps_set (i := 6) scTree.nd rfl (.inl rfl) (pe_ix ix_list (pv 2) (pe_call G hr (by rfl) D1.g D1.F.kp D1.b .nil pass0 (pa_cons (pv 0) (pa_cons (pe_callB call_len_seq (by rfl) B.len PySem.boot_len (pa_cons (pv 2) pa_nil)) pa_nil))) (fun _ _ => rfl)))
    (pss_cons (ps_for PassesOwn.never rfl (pi_range2 (by rfl) B.range (pa_cons pe_int (pa_cons (pe_op op_add pe_int (pe_call G hr (by rfl) D1.g D1.F.kp D1.b .nil pass0 (pa_cons (pv 0) (pa_cons (pv 1) pa_nil)))) pa_nil)))
        (pg_name (i := 7) scTree.nd rfl (.inl rfl))
        (pss_cons (ps_expr (pe_bm PySem.F.plainAttrs_list PySem.F.slot_list_append PySem.F.type_list_append mt_append (pv 4) (pa_cons (pe_ix ix_list
            (pe_lst (pa_cons (pe_call G hr (by rfl) D1.g D1.F.kp D1.b .nil pass0 (pa_cons (pv 0) (pa_cons (pv 7) pa_nil))) (pa_cons (pe_op op_sub (pv 7) pe_int) (pa_cons pe_int (pa_cons
              (pe_callB (call_max2 rfl) (by rfl) B.max (by decide +kernel) (pa_cons pe_int (pa_cons (pe_op op_sub (pe_op op_sub (pv 7) pe_int) (pe_op op_mod (pv 7) pe_int)) pa_nil)))
              (pa_cons (pe_op op_fdiv (pv 7) pe_int) pa_nil)))))) (pv 3) (fun _ _ => rfl)) pa_nil)))
        (pss_one (ps_expr (pe_bm PySem.F.plainAttrs_list PySem.F.slot_list_append PySem.F.type_list_append mt_append (pv 5) (pa_cons (pe_op op_add pe_int (pe_call G hr (by rfl) D1.g D1.F.kp D1.b .nil pass0 (pa_cons (pv 0) (pa_cons (pv 6) pa_nil)))) pa_nil))))))
    (pss_one (ps_ret (pe_tup (pa_cons (pv 4) (pa_cons (pv 5) pa_nil))))))))), ?_⟩
  refine ⟨_, rfl, a, 5, x, y, rfl, ha, by decide, by decide, fun x1 y1 d hd => ?_⟩
  refine ⟨Nat.zero_le _, fun p np => ?_⟩
  have npa : p ≠ a := fun e => by
    rw [e, upd_same] at np
    cases np
  have np0 : H p = none := by
    rw [upd_ne npa] at np
    exact np
  refine ⟨Nat.zero_le _, fun o no => ?_⟩
  have nop : o ≠ p := fun e => by
    rw [e, upd_same] at no
    cases no
  have noa : o ≠ a := fun e => by
    rw [e, upd_ne npa.symm, upd_same] at no
    cases no
  have no0 : H o = none := by
    rw [upd_ne nop, upd_ne noa] at no
    exact no
  have nzp : z ≠ p := ne_of_none hz np0
  have nzo : z ≠ o := ne_of_none hz no0
  have e3 : ∀ (u v : Int), (upd (upd (upd (upd H a (.lst [.int x1, .int y1])) p (.lst [])) o (.lst [])) a (.lst [.int u, .int v])) z = some (.lst [.int 3]) := fun u v => by
    rw [upd_ne naz, upd_ne nzo, upd_ne nzp, upd_ne naz]
    exact hz
  have e2 : (upd (upd (upd H a (.lst [.int x1, .int y1])) p (.lst [])) o (.lst [])) z = some (.lst [.int 3]) := by
    rw [upd_ne nzo, upd_ne nzp, upd_ne naz]
    exact hz
  have ea : (upd (upd (upd H a (.lst [.int x1, .int y1])) p (.lst [])) o (.lst [])) a = some (.lst [.int x1, .int y1]) := by
    rw [upd_ne noa.symm, upd_ne npa.symm, upd_same]
  refine ⟨_, rfl, _, rfl, _, rfl, z, _, rfl, .inl (SqL.of e2), a, 1, x1, y1, rfl, ea, by decide, by decide, fun x2 y2 d2 hd2 => ?_⟩
  have hd0 : d2 = 0 := by omega
  subst hd0
  refine ⟨z, [V.int 3], 0, _, rfl, rfl, SqL.of (e3 x2 y2), atI_nat (j := 0) rfl, ?_⟩
  refine ⟨_, rfl, _, rfl, a, 16, x2, y2, rfl, upd_same, by decide, by decide, fun x3 y3 n hn => ?_⟩
  rw [upd_upd]
  refine ⟨_, _, rfl, rfl, _, _, rfl, ⟨by decide, by decide, by omega, by omega⟩, for_range (fun i σ H' => ∃ (ps rs : List Nat) (u v : Int) (k : Option V), σ = [some (.ref a), some (.int 16), some (.ref z), some (.int (d : Int)), some (.ref p), some (.ref o), some (.int 3), k] ∧
      Keep a H H' ∧ H' a = some (.lst [.int u, .int v]) ∧ H' p = some (.lst (nv ps)) ∧ H' o = some (.lst (nv rs)) ∧ ps.length = i ∧ rs.length = i ∧ Ahead ps ∧ ∀ r ∈ rs, 1 ≤ r ∧ r ≤ 1000000)
    ⟨[], [], x3, y3, none, rfl, fun b u nb e => ?_, upd_same, ?_, ?_, rfl, rfl, fun i x h => (nomatch h), fun r h => (nomatch h)⟩ ?_ ?_⟩
  · rw [upd_ne nb, upd_ne (ne_of_none e no0), upd_ne (ne_of_none e np0), upd_ne nb]
    exact e
  · rw [upd_ne npa, upd_ne nop.symm, upd_same]
    rfl
  · rw [upd_ne noa, upd_same]
    rfl
  · rintro i σ H1 hi ⟨ps, rs, u, v, k, rfl, kp, e1, ep, eo, lp, lr, A1, R1⟩
    have hi16 : i < 16 := by omega
    have ek : (1 : Int) + (i : Int) = ((i + 1 : Nat) : Int) := by omega
    rw [ek]
    -- parents.append([..][way])
    refine ⟨_, rfl, .inl ⟨rfl, _, SqL.of ep⟩, _, rfl, _, rfl, a, i + 1, u, v, rfl, e1, by omega, by omega, fun u2 v2 r hr2 => ?_⟩
    obtain ⟨zz, hzz, ezz⟩ := pick5 (i := i) hr2 hd
    refine ⟨_, rfl, _, _, rfl, rfl, _, rfl, _, _, rfl, rfl, _, rfl, _, _, rfl, rfl, by show (0 : Int) < 2; decide, _, _, rfl, rfl, _, _, rfl, _, rfl, _, _, rfl, rfl, ⟨by decide, by decide⟩, by show 5 ≤ sizeLine; decide, fun T nT => ?_⟩
    have nTa : T ≠ a := fun e => by
      rw [e, upd_same] at nT
      cases nT
    have nT1 : H1 T = none := by
      rw [upd_ne nTa] at nT
      exact nT
    have nTp : p ≠ T := ne_of_none ep nT1
    have nTo : o ≠ T := ne_of_none eo nT1
    refine ⟨_, rfl, T, _, _, _, rfl, rfl, SqL.of upd_same, ezz, ?_⟩
    refine ⟨p, nv ps, _, rfl, rfl, ?_, ?_, ?_⟩
    · rw [upd_ne nTp, upd_ne npa]
      exact ep
    · rw [nv_len]
      exact small16 (by omega)
    -- rooms.append(1 + ..)
    refine ⟨_, rfl, .inl ⟨rfl, nv rs, SqL.of ?_⟩, _, rfl, _, rfl, a, 3, u2, v2, rfl, ?_, by decide, by decide, fun u3 v3 r3 hr3 => ?_⟩
    · rw [upd_ne nop, upd_ne nTo, upd_ne noa]
      exact eo
    · rw [upd_ne npa.symm, upd_ne nTa.symm, upd_same]
    refine ⟨_, _, rfl, rfl, o, nv rs, _, rfl, rfl, ?_, ?_, ?_⟩
    · rw [upd_ne noa, upd_ne nop, upd_ne nTo, upd_ne noa]
      exact eo
    · rw [nv_len]
      exact small16 (by omega)
    have er : (1 : Int) + (r3 : Int) = ((r3 + 1 : Nat) : Int) := by omega
    refine ⟨ps ++ [zz], rs ++ [r3 + 1], u3, v3, _, rfl, fun b w nb e => ?_, ?_, ?_, ?_, ?_, ?_, ahead_push A1 (by omega), ?_⟩
    · have nbp : b ≠ p := ne_of_none e np0
      have nbo : b ≠ o := ne_of_none e no0
      have e1' := kp b w nb e
      rw [upd_ne nbo, upd_ne nb, upd_ne nbp, upd_ne (ne_of_none e1' nT1), upd_ne nb]
      exact e1'
    · rw [upd_ne noa.symm, upd_same]
    · rw [upd_ne nop.symm, upd_ne npa, upd_same, nv_push]
    · rw [upd_same, nv_push, ← er]
    · rw [List.length_append, lp]
      rfl
    · rw [List.length_append, lr]
      rfl
    · intro g hg
      rcases List.mem_append.mp hg with h | h
      · exact R1 g h
      · have e : g = r3 + 1 := List.mem_singleton.mp h
        omega
  · rintro σ H1 ⟨ps, rs, u, v, k, rfl, kp, e1, ep, eo, lp, lr, A1, R1⟩
    refine ⟨_, rfl, _, rfl, by show 2 ≤ sizeLine; decide, fun t nt => ?_⟩
    have ntp : p ≠ t := ne_of_none ep nt
    have nto : o ≠ t := ne_of_none eo nt
    refine q _ t ps (fun b w nb e => ?_) ⟨⟨p, o, rs, upd_same, ?_, ?_, by omega, R1⟩, by omega, by omega, A1⟩
    · have e1' := kp b w nb e
      rw [upd_ne (ne_of_none e1' nt)]
      exact e1'
    · rw [upd_ne ntp]
      exact ep
    · rw [upd_ne nto]
      exact eo
end
end K14
/-! the law's ways and meetings, its walk along the ties -/
namespace K14
open PySem PySem.Spec PyProof.Rows L2 Ways
theorem iv_erase : ∀ (l : List Nat) (j : Nat), (iv l).eraseIdx j = iv (l.eraseIdx j)
  | [], _ => rfl
  | _ :: _, 0 => rfl
  | x :: l, j + 1 => by
    show (x : Int) :: (iv l).eraseIdx j = (x : Int) :: iv (l.eraseIdx j)
    rw [iv_erase l j]
theorem iv_get_ne {l : List Nat} {j x : Nat} (h : l[j]? ≠ some x) : (iv l)[j]? ≠ some (x : Int) := fun e => by
  unfold iv at e
  rw [List.getElem?_map] at e
  cases g : l[j]? with
  | none =>
    rw [g] at e
    cases e
  | some y =>
    rw [g] at e
    have q : (y : Int) = (x : Int) := Option.some.inj e
    exact h (by rw [g]; exact congrArg some (by omega))
theorem eqv_nil : PyData.eqv (.list []) (.list []) = true := by decide +kernel
/-- what is left of the way behind so many of the two ends -/
def leftOf (ps : List Nat) (x y : Nat) : Nat → List Nat
  | 0 => seg ps x (meet ps x y) ++ seg ps y (meet ps x y)
  | 1 => seg ps y (meet ps x y)
  | _ => []
theorem leftOf_turn (ps : List Nat) {x y i g n : Nat} (hx : x ≤ n) (hy : y ≤ n) (h : [x, y][i]? = some g) : leftOf ps x y i = seg ps g (meet ps x y) ++ leftOf ps x y (i + 1) ∧ Anc ps (meet ps x y) g ∧ g ≤ n := by
  match i, h with
  | 0, h =>
    have e : x = g := Option.some.inj h
    subst e
    exact ⟨rfl, (meet_anc ps x y).1, hx⟩
  | 1, h =>
    have e : y = g := Option.some.inj h
    subst e
    exact ⟨(List.append_nil _).symm, (meet_anc ps x y).2, hy⟩
section
variable {P : Program} {w : World} {K : PySem.W.Frag} {mg : Str → Option Value} {base : Heap}
/-- two places of a tree, alike or not, are handed in -/
def Any2 (vs : List V) (H : Hp) (t : Addr) (ps : List Nat) (x y : Nat) : Prop := vs = [.ref t, .int (x : Int), .int (y : Int)] ∧ TreeAt H t ps ∧ x ≤ ps.length ∧ y ≤ ps.length
abbrev sWayL : Stmt := topS 31
theorem scWayL : FnScope ["_law_tree_here", "_law_one", "_law_other"] ["_law_tree_here", "_law_one", "_law_other"] (defScope sWayL) := ⟨rfl, rfl, rfl, by decide +kernel, rfl, by decide +kernel, by decide +kernel⟩
def spWayL : Sp := fun vs H Q _ => ∃ (t : Addr) (ps : List Nat) (x y : Nat), Any2 vs H t ps x y ∧ ∀ H' p W, Same H H' → H' p = some (.lst (nv W)) → W.Perm (way ps x y) → Q (.ref p) H'
theorem ok_wayL {f f1 : Addr} {fd fd1 : FuncData} (D : Dn K mg "_law_way" sWayL f fd ["_law_tree_here", "_law_one", "_law_other"]) (D1 : Dn K mg "way_between" sWayB f1 fd1 ["tree", "one", "other"]) (G1 : FnOk P w K mg base CX0 5 f1 fd1 ["tree", "one", "other"] spWayB) :
    FnOk P w K mg base CX0 6 f fd ["_law_tree_here", "_law_one", "_law_other"] spWayL := by
  refine D.F.ok scWayL (fun vs H Q E h => ?_) (fun cdv A outer s H vs Q E hr h => ?_)
  · obtain ⟨t, ps, x, y, ⟨rfl, _⟩, _⟩ := h
    rfl
  obtain ⟨t, ps, x, y, ⟨rfl, T, hx, hy⟩, q⟩ := h
  refine ⟨_, pss_cons (ps_if (pt_cmpR op_eq (pv 1) (pv 2) (nomark _)) (pss_one (ps_ret (pe_lst pa_nil))) pss_nil)
    (pss_one (ps_ret (pe_call G1 hr (by rfl) D1.g D1.F.kp D1.b .nil pass0 (pa_cons (pv 0) (pa_cons (pv 1) (pa_cons (pv 2) pa_nil)))))), ?_⟩
  refine ⟨_, rfl, _, rfl, rfl, _, rfl, ?_⟩
  by_cases e : x = y
  · refine iteD (int_eq e) ⟨Nat.zero_le _, fun p np => ?_⟩
    refine q _ p [] (same_new np _) upd_same ?_
    rw [e, way_same]
  · refine iteDF (int_ne e) ⟨_, rfl, _, rfl, _, rfl, t, ps, x, y, ⟨rfl, T, hx, hy, e⟩, q⟩
abbrev sMeetL : Stmt := topS 32
theorem scMeetL : FnScope ["_law_tree_here", "_law_one", "_law_other"] ["_law_tree_here", "_law_one", "_law_other"] (defScope sMeetL) := ⟨rfl, rfl, rfl, by decide +kernel, rfl, by decide +kernel, by decide +kernel⟩
def spMeetL : Sp := fun vs H Q _ => ∃ (t : Addr) (ps : List Nat) (x y : Nat), Any2 vs H t ps x y ∧ ∀ H', Same H H' → Q (.int ((meet ps x y : Nat) : Int)) H'
theorem ok_meetL {f f1 : Addr} {fd fd1 : FuncData} (D : Dn K mg "_law_meeting" sMeetL f fd ["_law_tree_here", "_law_one", "_law_other"]) (D1 : Dn K mg "meeting_of" sMeetO f1 fd1 ["tree", "one", "other"]) (G1 : FnOk P w K mg base CX0 5 f1 fd1 ["tree", "one", "other"] spMeetO) :
    FnOk P w K mg base CX0 6 f fd ["_law_tree_here", "_law_one", "_law_other"] spMeetL := by
  refine D.F.ok scMeetL (fun vs H Q E h => ?_) (fun cdv A outer s H vs Q E hr h => ?_)
  · obtain ⟨t, ps, x, y, ⟨rfl, _⟩, _⟩ := h
    rfl
  obtain ⟨t, ps, x, y, ⟨rfl, T, hx, hy⟩, q⟩ := h
  refine ⟨_, pss_cons (ps_if (pt_cmpR op_eq (pv 1) (pv 2) (nomark _)) (pss_one (ps_ret (pv 1))) pss_nil)
    (pss_one (ps_ret (pe_call G1 hr (by rfl) D1.g D1.F.kp D1.b .nil pass0 (pa_cons (pv 0) (pa_cons (pv 1) (pa_cons (pv 2) pa_nil)))))), ?_⟩
  refine ⟨_, rfl, _, rfl, rfl, _, rfl, ?_⟩
  by_cases e : x = y
  · refine iteD (int_eq e) ⟨_, rfl, ?_⟩
    have z := q H (Same.refl H)
    rw [← e, meet_same] at z
    exact z
  · refine iteDF (int_ne e) ⟨_, rfl, _, rfl, _, rfl, t, ps, x, y, ⟨rfl, T, hx, hy, e⟩, q⟩
abbrev sWalkedL : Stmt := topS 33
theorem scWalkedL : FnScope ["_law_tree_here", "_law_one", "_law_other", "_law_way_here", "_law_meeting_here", "_law_left", "_law_place"] ["_law_tree_here", "_law_one", "_law_other"] (defScope sWalkedL) := ⟨rfl, rfl, rfl, by decide +kernel, rfl, by decide +kernel, by decide +kernel⟩
def spTrue2 : Sp := fun vs H Q _ => ∃ (t : Addr) (ps : List Nat) (x y : Nat), Two vs H t ps x y ∧ ∀ H', Same H H' → Q (.bl true) H'
theorem ok_walkedL {f f1 f2 : Addr} {fd fd1 fd2 : FuncData} (D : Dn K mg "_law_walked" sWalkedL f fd ["_law_tree_here", "_law_one", "_law_other"]) (D1 : Dn K mg "way_between" sWayB f1 fd1 ["tree", "one", "other"]) (G1 : FnOk P w K mg base CX0 5 f1 fd1 ["tree", "one", "other"] spWayB)
    (D2 : Dn K mg "meeting_of" sMeetO f2 fd2 ["tree", "one", "other"]) (G2 : FnOk P w K mg base CX0 5 f2 fd2 ["tree", "one", "other"] spMeetO) (B : Bi mg) : FnOk P w K mg base CX0 6 f fd ["_law_tree_here", "_law_one", "_law_other"] spTrue2 := by
  refine D.F.ok scWalkedL (fun vs H Q E h => ?_) (fun cdv A outer s H vs Q E hr h => ?_)
  · obtain ⟨t, ps, x, y, ⟨rfl, _⟩, _⟩ := h
    rfl
  obtain ⟨t, ps, x, y, ⟨rfl, T, hx, hy, ne⟩, q⟩ := h
  obtain ⟨a, b, rs, ht, ha, hb, hl, hrs⟩ := id T.at_
  have i0 : atI [V.ref a, V.ref b] 0 = some (.ref a) := atI_nat (j := 0) rfl
  refine ⟨_, pss_cons (ps_set (i := 3) scWalkedL.nd rfl (.inl rfl) (pe_call G1 hr (by rfl) D1.g D1.F.kp D1.b .nil pass0 (pa_cons (pv 0) (pa_cons (pv 1) (pa_cons (pv 2) pa_nil)))))
    (pss_cons (ps_set (i := 4) scWalkedL.nd rfl (.inl rfl) (pe_call G2 hr (by rfl) D2.g D2.F.kp D2.b .nil pass0 (pa_cons (pv 0) (pa_cons (pv 1) (pa_cons (pv 2) pa_nil)))))
    (pss_cons (ps_set (i := 5) scWalkedL.nd rfl (.inl rfl) (pe_callTy call_list_of (by rfl) B.list PyProof.Rows.boot_list (pa_cons (pv 3) pa_nil)))
    (pss_cons (ps_for PassesOwn.never rfl (pi_list (pe_lst (pa_cons (pv 1) (pa_cons (pv 2) pa_nil)))) (pg_name (i := 6) scWalkedL.nd rfl (.inl rfl))
      (pss_one (ps_while PassesOwn.never (pt_cmpR op_ne (pv 6) (pv 4) (nomark _))
        (pss_cons (ps_if (pt_cmpR op_notIn_seq (pv 6) (pv 5) (by rfl)) (pss_one (ps_ret pe_bl)) pss_nil)
        (pss_cons (ps_expr (pe_bm PySem.F.plainAttrs_list PySem.F.slot_list_remove PySem.F.type_list_remove mt_remove (pv 5) (pa_cons (pv 6) pa_nil)))
        (pss_one (ps_set (i := 6) scWalkedL.nd rfl (.inl rfl) (pe_ix ix_list (pe_ix ix_tup (pv 0) pe_int (fun _ _ => rfl)) (pe_op op_sub (pv 6) pe_int) (fun _ _ => rfl))))))))) 
    (pss_one (ps_ret (pe_cmpR (op_eqD hr.units) (pv 5) (pe_lst pa_nil) (nomark _))))))), ?_⟩
  refine ⟨_, rfl, _, rfl, _, rfl, t, ps, x, y, ⟨rfl, T, hx, hy, ne⟩, fun H1 p W s1 ep pm => ?_⟩
  refine ⟨_, rfl, _, rfl, _, rfl, t, ps, x, y, ⟨rfl, T.same s1, hx, hy, ne⟩, fun H2 s2 => ?_⟩
  refine ⟨_, rfl, p, _, rfl, .inl (SqL.of (s2 _ _ ep)), fun l nl => ?_⟩
  have s02 := s1.trans s2
  have nl0 : H l = none := s02.free nl
  refine ⟨_, rfl, _, rfl, by show 2 ≤ sizeLine; decide, fun d nd => ?_⟩
  have ndl : d ≠ l := fun e => by
    rw [e, upd_same] at nd
    cases nd
  have nd0 : H d = none := by
    rw [upd_ne ndl] at nd
    exact s02.free nd
  have hdd : ∀ {H' : Hp}, H' d = some (.lst [.int (x : Int), .int (y : Int)]) → SqL K H' d (nv [x, y]) := fun h => SqL.of h
  refine ⟨d, rfl, ⟨_, hdd upd_same⟩, for_list (K := K) (a := d) (xs := nv [x, y]) (fun i σ H' => ∃ (L : List Nat) (z : Option V), σ = [some (.ref t), some (.int (x : Int)), some (.int (y : Int)), some (.ref p), some (.int ((meet ps x y : Nat) : Int)), some (.ref l), z] ∧
      Same H H' ∧ H' d = some (.lst [.int (x : Int), .int (y : Int)]) ∧ H' l = some (.lst (nv L)) ∧ L.Perm (leftOf ps x y i))
    ⟨W, none, rfl, fun c o e => ?_, upd_same, ?_, pm.trans (way_segs ps x y)⟩ (fun i σ H' _ ⟨_, _, _, _, h, _⟩ => hdd h) ?_ ?_⟩
  · rw [upd_ne (ne_of_none e nd0), upd_ne (ne_of_none e nl0)]
    exact s02 _ _ e
  · rw [upd_ne ndl.symm, upd_same]
  · rintro i v σ H3 hv ⟨L, z, rfl, s3, ed, el, pl⟩
    obtain ⟨g, hg, rfl⟩ := of_nv hv
    obtain ⟨eL, an, gn⟩ := leftOf_turn ps hx hy hg
    rw [eL] at pl
    refine ⟨fun m σ H' => ∃ (L : List Nat) (u : Nat), σ = [some (.ref t), some (.int (x : Int)), some (.int (y : Int)), some (.ref p), some (.int ((meet ps x y : Nat) : Int)), some (.ref l), some (.int (u : Int))] ∧
        Same H H' ∧ H' d = some (.lst [.int (x : Int), .int (y : Int)]) ∧ H' l = some (.lst (nv L)) ∧ L.Perm (seg ps u (meet ps x y) ++ leftOf ps x y (i + 1)) ∧ Anc ps (meet ps x y) u ∧ u ≤ ps.length ∧ m = u,
      ⟨g, L, g, rfl, s3, ed, el, pl, an, gn, rfl⟩, fun m σ H4 hW => ?_⟩
    obtain ⟨L, u, rfl, s4, ed, el, pl, an, un, rfl⟩ := hW
    refine ⟨_, rfl, _, rfl, rfl, _, rfl, ?_⟩
    by_cases e : m = meet ps x y
    · refine iteNS (int_eq e) ⟨L, _, rfl, s4, ed, el, ?_⟩
      rw [e, seg_self] at pl
      exact pl
    · refine iteNF (int_ne e) ?_
      have an' := an.step e
      have le := an.le
      have lt := pr_lt ps an'.1
      rw [seg_step (ps := ps) (show meet ps x y < m by omega)] at pl
      obtain ⟨j, h1, h2, h3⟩ := perm_erase pl
      refine ⟨fun σ H' => ∃ (L : List Nat) (u : Nat), σ = [some (.ref t), some (.int (x : Int)), some (.int (y : Int)), some (.ref p), some (.int ((meet ps x y : Nat) : Int)), some (.ref l), some (.int (u : Int))] ∧
          Same H H' ∧ H' d = some (.lst [.int (x : Int), .int (y : Int)]) ∧ H' l = some (.lst (nv L)) ∧ L.Perm (seg ps u (meet ps x y) ++ leftOf ps x y (i + 1)) ∧ Anc ps (meet ps x y) u ∧ u ≤ ps.length ∧ u < m, fun σ' H' hN => ?_, ?_⟩
      · obtain ⟨L', u', g1, g2, g3, g4, g5, g6, g7, g8⟩ := hN
        exact ⟨u', g8, L', u', g1, g2, g3, g4, g5, g6, g7, rfl⟩
      have hin : (!inV (.int (m : Int)) (nv L)) = false := by
        rw [inV_nv, decide_eq_true (mem_of_get h1)]
        rfl
      refine ⟨_, rfl, _, rfl, l, _, rfl, .inl (SqL.of el), rfl, flat_nv L, false, congrArg V.bl hin, iteF ?_⟩
      refine ⟨_, rfl, .inl ⟨rfl, _, SqL.of el⟩, _, rfl, l, iv L, (m : Int), j, rfl, rfl, el, iv_get h1, fun k hk => iv_get_ne (h2 k hk), ?_⟩
      have s5 : Same H (upd H4 l (.lst (((iv L).eraseIdx j).map V.int))) := fun c o e => by
        rw [upd_ne (ne_of_none e nl0)]
        exact s4 _ _ e
      refine ⟨_, rfl, t, _, 0, _, rfl, rfl, SqT.of (s5 _ _ ht), i0, _, rfl, _, _, rfl, rfl, a, _, _, _, rfl, rfl, SqL.of (s5 _ _ ha), par_at T.ahead an'.1 un, ?_⟩
      refine ⟨L.eraseIdx j, pr ps m, rfl, s5, ?_, ?_, h3, an'.2, by omega, lt⟩
      · rw [upd_ne ndl]
        exact ed
      · rw [upd_same, iv_erase]
        rfl
  · rintro σ H3 ⟨L, z, rfl, s3, ed, el, pl⟩
    have eL : L = [] := pl.eq_nil
    subst eL
    refine ⟨_, rfl, Nat.zero_le _, fun c nc => ?_⟩
    have ncl : l ≠ c := ne_of_none el nc
    refine ⟨.list [], .list [], .lst (SqL.of (by rw [upd_ne ncl]; exact el)) .nil, .lst (SqL.of upd_same) .nil, rfl, rfl, ?_⟩
    rw [eqv_nil]
    exact q _ (s3.trans (same_new nc _))
end
end K14
/-! the law's look at the tops -/
namespace K14
open PySem PySem.Spec PyProof.Rows L2 Ways
theorem mem_tops {ps : List Nat} {x y k : Nat} {W : List Nat} : k ∈ tops ps x y W ↔ k ∈ W ∧ pr ps k = meet ps x y := by
  unfold tops
  rw [List.mem_filter]
  simp
theorem tops_len {ps : List Nat} {x y : Nat} {W : List Nat} (pm : W.Perm (way ps x y)) : (tops ps x y W).length = (if x = meet ps x y then 0 else 1) + (if y = meet ps x y then 0 else 1) := by
  rw [← way_tops ps x y]
  exact (pm.filter _).length_eq
theorem unlike_int (x m : Nat) : (if (!decide (V.int (x : Int) = V.int (m : Int))) = true then (1 : Int) else 0) = ((if x = m then 0 else 1 : Nat) : Int) := by
  by_cases e : x = m
  · rw [if_pos e, decide_eq_true (int_eq e)]
    rfl
  · rw [if_neg e, decide_eq_false (int_ne e)]
    rfl
section
variable {P : Program} {w : World} {K : PySem.W.Frag} {mg : Str → Option Value} {base : Heap}
abbrev sTopsL : Stmt := topS 34
theorem scTopsL : FnScope ["_law_tree_here", "_law_one", "_law_other", "_law_way_here", "_law_tops_here", "_law_meeting_here", "_law_tie", "_law_top"] ["_law_tree_here", "_law_one", "_law_other"] (defScope sTopsL) := ⟨rfl, rfl, rfl, by decide +kernel, rfl, by decide +kernel, by decide +kernel⟩
theorem ok_topsL {f f1 f2 f3 f4 : Addr} {fd fd1 fd2 fd3 fd4 : FuncData} (D : Dn K mg "_law_tops" sTopsL f fd ["_law_tree_here", "_law_one", "_law_other"]) (D1 : Dn K mg "way_between" sWayB f1 fd1 ["tree", "one", "other"]) (G1 : FnOk P w K mg base CX0 5 f1 fd1 ["tree", "one", "other"] spWayB)
    (D2 : Dn K mg "meeting_of" sMeetO f2 fd2 ["tree", "one", "other"]) (G2 : FnOk P w K mg base CX0 5 f2 fd2 ["tree", "one", "other"] spMeetO) (D3 : Dn K mg "tops_between" sTopsB f3 fd3 ["tree", "one", "other"]) (G3 : FnOk P w K mg base CX0 5 f3 fd3 ["tree", "one", "other"] spTopsB)
    (D4 : Dn K mg "is_beneath" sBeneath f4 fd4 ["tree", "one", "other"]) (G4 : FnOk P w K mg base CX0 4 f4 fd4 ["tree", "one", "other"] spBeneath) (B : Bi mg) : FnOk P w K mg base CX0 6 f fd ["_law_tree_here", "_law_one", "_law_other"] spTrue2 := by
  refine D.F.ok scTopsL (fun vs H Q E h => ?_) (fun cdv A outer s H vs Q E hr h => ?_)
  · obtain ⟨t, ps, x, y, ⟨rfl, _⟩, _⟩ := h
    rfl
  obtain ⟨t, ps, x, y, ⟨rfl, T, hx, hy, ne⟩, q⟩ := h
  obtain ⟨a, b, rs, ht, ha, hb, hl, hrs⟩ := id T.at_
  have i0 : atI [V.ref a, V.ref b] 0 = some (.ref a) := atI_nat (j := 0) rfl
  refine ⟨_, pss_cons (ps_set (i := 3) scTopsL.nd rfl (.inr rfl) (pe_call G1 hr (by rfl) D1.g D1.F.kp D1.b .nil pass0 (pa_cons (pv 0) (pa_cons (pv 1) (pa_cons (pv 2) pa_nil)))))
    (pss_cons (ps_set (i := 4) scTopsL.nd rfl (.inl rfl) (pe_call G3 hr (by rfl) D3.g D3.F.kp D3.b .nil pass0 (pa_cons (pv 0) (pa_cons (pv 1) (pa_cons (pv 2) pa_nil)))))
    (pss_cons (ps_set (i := 5) scTopsL.nd rfl (.inr rfl) (pe_call G2 hr (by rfl) D2.g D2.F.kp D2.b .nil pass0 (pa_cons (pv 0) (pa_cons (pv 1) (pa_cons (pv 2) pa_nil)))))
    (pss_cons (ps_if (pt_cmpR (op_neD hr.units) (pe_lc (own := [("_law_tie", 6)]) (g := gName 6) rfl scTopsL.nd (pi_list (pv 4)) (blkOk_by (N := ["_law_tree_here", "_law_one", "_law_other", "_law_way_here", "_law_tops_here", "_law_meeting_here", "_law_tie", "_law_top"]) (sc := defScope sTopsL) (by decide +kernel))
        (fun _ _ _ _ _ => pg_name (i := 6) scTopsL.nd rfl (Or.inl rfl))
        (fun _ _ _ _ _ => pts_one (PW.pt (pw_or (pt_cmpR op_ne (pe_ix (ix_listK K) (pe_ix (ix_tupK K) (pv 0) pe_int (fun _ _ => rfl)) (pe_op op_sub (pv 6) pe_int) (fun _ _ => rfl)) (pv 5) (nomark _)) (pw_or1 (pt_cmpR (op_notInK K) (pv 6) (pv 3) (by rfl))))))
        (fun _ _ _ _ _ => pv 6)) (pe_lst pa_nil) (nomark _)) (pss_one (ps_ret pe_bl)) pss_nil)
    (pss_cons (ps_for PassesOwn.never rfl (pi_list (pv 3)) (pg_name (i := 6) scTopsL.nd rfl (.inr rfl))
      (pss_one (ps_if (PW.pt (pw_and (pt_cmpR op_notIn_seq (pv 6) (pv 4) (by rfl)) (pw_and1 (pt_not (pt_val (pe_callB (cr_any rfl) (by rfl) B.any (by decide +kernel) (pa_cons
          (pe_lc (own := [("_law_top", 7)]) (g := gName 7) (tt := tYes) rfl scTopsL.nd (pi_list (pv 4)) (blkOk_by (N := ["_law_tree_here", "_law_one", "_law_other", "_law_way_here", "_law_tops_here", "_law_meeting_here", "_law_tie", "_law_top"]) (sc := defScope sTopsL) (by decide +kernel))
            (fun _ _ _ _ _ => pg_name (i := 7) scTopsL.nd rfl (Or.inl rfl)) (fun _ _ _ _ _ => pts_nil)
            (fun _ _ _ _ _ => pe_call G4 (hr.mono (by decide)) (by rfl) D4.g D4.F.kp D4.b .nil pass0 (pa_cons (pv 0) (pa_cons (pv 6) (pa_cons (pv 7) pa_nil))))) pa_nil))))))) (pss_one (ps_ret pe_bl)) pss_nil)))
    (pss_one (ps_ret (pe_and (pe_chain op_le op_le pe_int (pe_callB call_len_seq (by rfl) B.len PySem.boot_len (pa_cons (pv 4) pa_nil)) pe_int)
      (pe_one (pe_cmpR op_eq (pe_callB call_len_seq (by rfl) B.len PySem.boot_len (pa_cons (pv 4) pa_nil))
        (pe_op op_add (pe_callTy call_int1 (by rfl) B.int PyProof.Rows.boot_int (pa_cons (pe_cmpR op_ne (pv 1) (pv 5) (nomark _)) pa_nil)) (pe_callTy call_int1 (by rfl) B.int PyProof.Rows.boot_int (pa_cons (pe_cmpR op_ne (pv 2) (pv 5) (nomark _)) pa_nil))) (nomark _)))))))))), ?_⟩
  refine ⟨_, rfl, _, rfl, _, rfl, t, ps, x, y, ⟨rfl, T, hx, hy, ne⟩, fun H1 p W s1 ep pm => ?_⟩
  refine ⟨_, rfl, _, rfl, _, rfl, t, ps, x, y, ⟨rfl, T.same s1, hx, hy, ne⟩, fun H2 o W2 s2 eo pm2 => ?_⟩
  refine ⟨_, rfl, _, rfl, _, rfl, t, ps, x, y, ⟨rfl, T.same (s1.trans s2), hx, hy, ne⟩, fun H3 s3 => ?_⟩
  have ep3 := s3 _ _ (s2 _ _ ep)
  have eo3 := s3 _ _ eo
  have s03 := (s1.trans s2).trans s3
  have tl := tops_len pm2
  have bnd : ∀ k, k ∈ tops ps x y W2 → 0 < k ∧ k ≤ ps.length := fun k hk => way_le ps hx hy (pm2.mem_iff.mp (mem_tops.mp hk).1)
  have few : (tops ps x y W2).length ≤ 2 ∧ 1 ≤ (tops ps x y W2).length := by
    rw [tl]
    by_cases g1 : x = meet ps x y
    · have g2 : ¬ y = meet ps x y := by omega
      rw [if_pos g1, if_neg g2]
      omega
    · rw [if_neg g1]
      split <;> omega
  refine ⟨_, rfl, o, rfl, ⟨_, SqL.of eo3⟩, fun Z nZ => lc_list (K := K) (a := o) (xs := nv (tops ps x y W2)) (fun i H' => Same H3 H' ∧ H' Z = some (.lst [])) ⟨same_new nZ _, upd_same⟩ (fun i H' _ hP => SqL.of (hP.1 _ _ eo3)) ?_ ?_⟩
  · rintro i v H4 hv ⟨s4, eZ⟩
    obtain ⟨k, hk, rfl⟩ := of_nv hv
    have hk2 := mem_of_get hk
    have kb := bnd k hk2
    have s04 := s03.trans s4
    have hin : (!inV (.int (k : Int)) (nv W)) = false := by
      rw [inV_nv, decide_eq_true (pm.mem_iff.mpr (pm2.mem_iff.mp (mem_tops.mp hk2).1))]
      rfl
    refine ⟨rfl, ?_⟩
    refine ⟨_, rfl, t, _, 0, _, rfl, rfl, SqT.of (s04 _ _ ht), i0, _, rfl, _, _, rfl, rfl, a, _, _, _, rfl, rfl, SqL.of (s04 _ _ ha), par_at T.ahead kb.1 kb.2, _, rfl, rfl, _, rfl, iteNS (int_eq (mem_tops.mp hk2).2) ?_⟩
    exact ⟨_, rfl, _, rfl, p, _, rfl, .inl (SqL.of (s4 _ _ ep3)), rfl, flat_nv W, false, congrArg V.bl hin, iteF ⟨s4, eZ⟩⟩
  rintro H4 ⟨s4, eZ⟩
  refine ⟨Nat.zero_le _, fun c nc => ?_⟩
  have nZc : Z ≠ c := ne_of_none eZ nc
  refine ⟨.list [], .list [], .lst (SqL.of (by rw [upd_ne nZc]; exact eZ)) .nil, .lst (SqL.of upd_same) .nil, rfl, rfl, false, by rw [eqv_nil]; rfl, iteF ?_⟩
  have s35 : Same H3 (upd H4 c (.lst [])) := s4.trans (same_new nc _)
  refine ⟨_, rfl, p, rfl, ⟨_, SqL.of (s35 _ _ ep3)⟩, for_list (K := K) (a := p) (xs := nv W) (fun i σ H' => ∃ z, σ = [some (.ref t), some (.int (x : Int)), some (.int (y : Int)), some (.ref p), some (.ref o), some (.int ((meet ps x y : Nat) : Int)), z, none] ∧ Same H3 H')
    ⟨none, rfl, s35⟩ (fun i σ H' _ ⟨_, _, h⟩ => SqL.of (h _ _ ep3)) ?_ ?_⟩
  · rintro i v σ H5 hv ⟨z, rfl, s5⟩
    obtain ⟨k, hk, rfl⟩ := of_nv hv
    have hkw : k ∈ way ps x y := pm.mem_iff.mp (mem_of_get hk)
    have kb := way_le ps hx hy hkw
    by_cases g : pr ps k = meet ps x y
    · have hin : (!inV (.int (k : Int)) (nv (tops ps x y W2))) = false := by
        rw [inV_nv, decide_eq_true (mem_tops.mpr ⟨pm2.mem_iff.mpr hkw, g⟩)]
        rfl
      exact ⟨_, rfl, _, rfl, o, _, rfl, .inl (SqL.of (s5 _ _ eo3)), rfl, flat_nv _, false, congrArg V.bl hin, iteF (iteF ⟨_, rfl, s5⟩)⟩
    · have hin : (!inV (.int (k : Int)) (nv (tops ps x y W2))) = true := by
        rw [inV_nv, decide_eq_false (fun h => g (mem_tops.mp h).2)]
        rfl
      refine ⟨_, rfl, _, rfl, o, _, rfl, .inl (SqL.of (s5 _ _ eo3)), rfl, flat_nv _, true, congrArg V.bl hin, iteT ?_⟩
      refine ⟨_, rfl, o, rfl, ⟨_, SqL.of (s5 _ _ eo3)⟩, fun Y nY => lc_list (K := K) (a := o) (xs := nv (tops ps x y W2)) (fun i H' => Same H5 H' ∧ H' Y = some (.lst ((((tops ps x y W2).take i).map fun z => decide (z ∈ up ps (pr ps k))).map V.bl)))
        ⟨same_new nY _, upd_same⟩ (fun i H' _ hP => SqL.of (hP.1 _ _ (s5 _ _ eo3))) ?_ ?_⟩
      · rintro j v H6 hv ⟨s6, eY⟩
        obtain ⟨z, hz, rfl⟩ := of_nv hv
        have zb := bnd z (mem_of_get hz)
        refine ⟨rfl, ?_⟩
        refine ⟨_, rfl, _, rfl, _, rfl, t, ps, k, z, rfl, T.same ((s03.trans s5).trans s6), kb.1, kb.2, zb.1, zb.2, fun H7 s7 => ?_⟩
        refine ⟨_, s7 _ _ eY, ?_, fun b u e => ?_, ?_⟩
        · rw [List.length_map, List.length_map, List.length_take]
          exact small16 (by omega)
        · rw [upd_ne (ne_of_none e nY)]
          exact s7 _ _ (s6 _ _ e)
        · rw [upd_same, List.take_add_one, hz, List.map_append, List.map_append]
          rfl
      · rintro H6 ⟨s6, eY⟩
        rw [nv_len, List.take_length] at eY
        have yes : ((tops ps x y W2).map fun z => decide (z ∈ up ps (pr ps k))).any id = true := by
          rcases way_beneath ps x y k hkw with h | ⟨u, hu, eu, h⟩
          · exact absurd h g
          · exact List.any_eq_true.mpr ⟨true, List.mem_map.mpr ⟨u, mem_tops.mpr ⟨pm2.mem_iff.mpr hu, eu⟩, decide_eq_true h⟩, rfl⟩
        exact ⟨Y, _, rfl, SqL.of eY, true, congrArg V.bl yes, iteF ⟨_, rfl, s5.trans s6⟩⟩
  · rintro σ H5 ⟨z, rfl, s5⟩
    have e1 : (1 : Int) ≤ ((nv (tops ps x y W2)).length : Int) := by
      rw [nv_len]
      omega
    have e2 : ((nv (tops ps x y W2)).length : Int) ≤ 2 := by
      rw [nv_len]
      omega
    refine ⟨_, rfl, o, _, rfl, .inl (SqL.of (s5 _ _ eo3)), _, _, rfl, rfl, true, congrArg V.bl (decide_eq_true e1), iteT ?_⟩
    refine ⟨_, _, rfl, rfl, true, congrArg V.bl (decide_eq_true e2), iteT ?_⟩
    refine ⟨_, rfl, o, _, rfl, .inl (SqL.of (s5 _ _ eo3)), _, rfl, _, rfl, rfl, .inr ⟨_, rfl, _, rfl, _, rfl, rfl, .inr ⟨_, rfl, _, _, rfl, rfl, rfl, ?_⟩⟩⟩
    refine q_true (Q := Q) ?_ (q _ (s03.trans s5))
    rw [unlike_int, unlike_int, nv_len, tl]
    exact congrArg V.int (by omega)
end
end K14
/-! three places -/
namespace K14
open PySem PySem.Spec PyProof.Rows L2 Ways
/-- what is true of three is true of each -/
theorem of_three {α : Type} {C : Nat → α → Prop} {u v z : α} (h0 : C 0 u) (h1 : C 1 v) (h2 : C 2 z) : ∀ (i : Nat) (y : α), [u, v, z][i]? = some y → C i y
  | 0, y, h => by
    have e : u = y := Option.some.inj h
    rw [← e]
    exact h0
  | 1, y, h => by
    have e : v = y := Option.some.inj h
    rw [← e]
    exact h1
  | 2, y, h => by
    have e : z = y := Option.some.inj h
    rw [← e]
    exact h2
theorem below3 {C : Nat → Prop} (h0 : C 0) (h1 : C 1) (h2 : C 2) (i : Nat) (h : i < 3) : C i := by
  have e : i = 0 ∨ i = 1 ∨ i = 2 := by omega
  rcases e with e | e | e
  · rw [e]
    exact h0
  · rw [e]
    exact h1
  · rw [e]
    exact h2
section
variable {P : Program} {w : World} {K : PySem.W.Frag} {mg : Str → Option Value} {base : Heap}
abbrev sThree : Stmt := topS 35
abbrev nThree : List Str := ["_law_tree_here", "_law_deep", "_law_places", "_law_a", "_law_b", "_law_c", "_law_ways", "_law_tie", "_law_meetings", "_law_k", "_law_one", "_law_other", "_law_way_here"]
theorem scThree : FnScope nThree ["_law_tree_here", "_law_deep", "_law_places"] (defScope sThree) := ⟨rfl, rfl, rfl, by decide +kernel, rfl, by decide +kernel, by decide +kernel⟩
def spThree : Sp := fun vs H Q _ => ∃ (t dp pl : Addr) (ps : List Nat) (x y z : Nat), vs = [.ref t, .ref dp, .ref pl] ∧ TreeAt H t ps ∧ H dp = some (.lst (nv (deps ps (ps.length + 1)))) ∧ H pl = some (.lst [.int (x : Int), .int (y : Int), .int (z : Int)]) ∧
  x ≤ ps.length ∧ y ≤ ps.length ∧ z ≤ ps.length ∧ ∀ H', Same H H' → Q (.bl true) H'
theorem ok_three {f f1 f2 f3 f4 : Addr} {fd fd1 fd2 fd3 fd4 : FuncData} (D : Dn K mg "_law_three" sThree f fd ["_law_tree_here", "_law_deep", "_law_places"])
    (D1 : Dn K mg "_law_way" sWayL f1 fd1 ["_law_tree_here", "_law_one", "_law_other"]) (G1 : FnOk P w K mg base CX0 6 f1 fd1 ["_law_tree_here", "_law_one", "_law_other"] spWayL)
    (D2 : Dn K mg "_law_meeting" sMeetL f2 fd2 ["_law_tree_here", "_law_one", "_law_other"]) (G2 : FnOk P w K mg base CX0 6 f2 fd2 ["_law_tree_here", "_law_one", "_law_other"] spMeetL)
    (D3 : Dn K mg "_law_walked" sWalkedL f3 fd3 ["_law_tree_here", "_law_one", "_law_other"]) (G3 : FnOk P w K mg base CX0 6 f3 fd3 ["_law_tree_here", "_law_one", "_law_other"] spTrue2)
    (D4 : Dn K mg "_law_tops" sTopsL f4 fd4 ["_law_tree_here", "_law_one", "_law_other"]) (G4 : FnOk P w K mg base CX0 6 f4 fd4 ["_law_tree_here", "_law_one", "_law_other"] spTrue2) (B : Bi mg) :
    FnOk P w K mg base CX0 7 f fd ["_law_tree_here", "_law_deep", "_law_places"] spThree := by
  refine D.F.ok scThree (fun vs H Q E h => ?_) (fun cdv A outer s H vs Q E hr h => ?_)
  · obtain ⟨t, dp, pl, ps, x, y, z, rfl, _⟩ := h
    rfl
  obtain ⟨t, dp, pl, ps, x, y, z, rfl, T, hdp, hpl, hx, hy, hz, q⟩ := h
  obtain ⟨a, b, rs, ht, ha, hb, hl, hrs⟩ := id T.at_
  have i0 : atI [V.ref a, V.ref b] 0 = some (.ref a) := atI_nat (j := 0) rfl
  refine ⟨_, pss_cons (ps_asg (pv 2) (pg_unl rfl (pgs_cons (pg_name (i := 3) scThree.nd rfl (.inl rfl)) (pgs_cons (pg_name (i := 4) scThree.nd rfl (.inl rfl)) (pgs_cons (pg_name (i := 5) scThree.nd rfl (.inl rfl)) pgs_nil)))))
    (pss_cons (ps_set (i := 6) scThree.nd rfl (.inl rfl) (pe_lst (pa_cons (pe_call G1 hr (by rfl) D1.g D1.F.kp D1.b .nil pass0 (pa_cons (pv 0) (pa_cons (pv 3) (pa_cons (pv 4) pa_nil))))
      (pa_cons (pe_call G1 hr (by rfl) D1.g D1.F.kp D1.b .nil pass0 (pa_cons (pv 0) (pa_cons (pv 4) (pa_cons (pv 5) pa_nil))))
      (pa_cons (pe_call G1 hr (by rfl) D1.g D1.F.kp D1.b .nil pass0 (pa_cons (pv 0) (pa_cons (pv 5) (pa_cons (pv 3) pa_nil)))) pa_nil)))))
    (pss_cons (ps_for PassesOwn.never rfl (pi_range2 (by rfl) B.range (pa_cons pe_int (pa_cons (pe_op op_add pe_int (pe_callB call_len_seq (by rfl) B.len PySem.boot_len (pa_cons (pe_ix ix_tup (pv 0) pe_int (fun _ _ => rfl)) pa_nil))) pa_nil)))
        (pg_name (i := 7) scThree.nd rfl (.inr rfl))
        (pss_one (ps_if (pt_cmpR op_notIn_seq (pe_bm PySem.F.plainAttrs_list PySem.F.slot_list_count PySem.F.type_list_count mt_countB
            (pe_lc (own := [("_law_way_here", 12)]) (g := gName 12) (tt := tYes) rfl scThree.nd (pi_list (pv 6)) (blkOk_by (N := nThree) (sc := defScope sThree) (by decide +kernel))
              (fun _ _ _ _ _ => pg_name (i := 12) scThree.nd rfl (Or.inl rfl)) (fun _ _ _ _ _ => pts_nil) (fun _ _ _ _ _ => pe_cmpR (op_inK K) (pv 7) (pv 12) (by rfl)))
            (pa_cons pe_bl pa_nil)) (pe_lst (pa_cons pe_int (pa_cons pe_int pa_nil))) (by rfl)) (pss_one (ps_ret pe_bl)) pss_nil)))
    (pss_cons (ps_set (i := 8) scThree.nd rfl (.inl rfl) (pe_lst (pa_cons (pe_call G2 hr (by rfl) D2.g D2.F.kp D2.b .nil pass0 (pa_cons (pv 0) (pa_cons (pv 3) (pa_cons (pv 4) pa_nil))))
      (pa_cons (pe_call G2 hr (by rfl) D2.g D2.F.kp D2.b .nil pass0 (pa_cons (pv 0) (pa_cons (pv 4) (pa_cons (pv 5) pa_nil))))
      (pa_cons (pe_call G2 hr (by rfl) D2.g D2.F.kp D2.b .nil pass0 (pa_cons (pv 0) (pa_cons (pv 5) (pa_cons (pv 3) pa_nil)))) pa_nil)))))
    (pss_cons (ps_if (pt_cmpR op_gt (pe_lenOf rfl (by rfl) B.len (by rfl) B.set (pv 8)) pe_int (nomark _)) (pss_one (ps_ret pe_bl)) pss_nil)
    (pss_cons (ps_for PassesOwn.never rfl (pi_range1 (by rfl) B.range (pa_cons pe_int pa_nil)) (pg_name (i := 9) scThree.nd rfl (.inl rfl))
        (pss_cons (ps_par (i := 10) (j := 11) rfl scThree.nd rfl rfl (by decide) rfl rfl (pa_cons (pe_ix ix_list (pv 2) (pv 9) (fun _ _ => rfl)) (pa_cons (pe_ix ix_list (pv 2) (pe_op op_mod (pe_op op_add (pv 9) pe_int) pe_int) (fun _ _ => rfl)) pa_nil)) (by rfl))
        (pss_cons (ps_if (pt_cmpR op_ne (pe_callB call_len_seq (by rfl) B.len PySem.boot_len (pa_cons (pe_ix ix_list (pv 6) (pv 9) (fun _ _ => rfl)) pa_nil))
          (pe_op op_sub (pe_op op_add (pe_ix ix_list (pv 1) (pv 10) (fun _ _ => rfl)) (pe_ix ix_list (pv 1) (pv 11) (fun _ _ => rfl))) (pe_op op_mul pe_int (pe_ix ix_list (pv 1) (pe_ix ix_list (pv 8) (pv 9) (fun _ _ => rfl)) (fun _ _ => rfl)))) (nomark _)) (pss_one (ps_ret pe_bl)) pss_nil)
        (pss_cons (ps_if (pt_cmpR op_eq (pv 10) (pv 11) (nomark _)) (pss_one ps_continue) pss_nil)
        (pss_one (ps_if (PW.pt (pw_or (pt_not (pt_val (pe_call G3 hr (by rfl) D3.g D3.F.kp D3.b .nil pass0 (pa_cons (pv 0) (pa_cons (pv 10) (pa_cons (pv 11) pa_nil))))))
          (pw_or1 (pt_not (pt_val (pe_call G4 hr (by rfl) D4.g D4.F.kp D4.b .nil pass0 (pa_cons (pv 0) (pa_cons (pv 10) (pa_cons (pv 11) pa_nil))))))))) (pss_one (ps_ret pe_bl)) pss_nil))))))
    (pss_one (ps_ret pe_bl))))))), ?_⟩
  -- the places, the ways
  refine ⟨_, rfl, pl, _, rfl, SqL.of hpl, rfl, _, _, rfl, _, _, rfl, _, _, rfl, rfl, ?_⟩
  refine ⟨_, rfl, _, rfl, _, rfl, t, ps, x, y, ⟨rfl, T, hx, hy⟩, fun H1 p1 W1 s1 e1 m1 => ?_⟩
  refine ⟨_, rfl, _, rfl, _, rfl, t, ps, y, z, ⟨rfl, T.same s1, hy, hz⟩, fun H2 p2 W2 s2 e2 m2 => ?_⟩
  refine ⟨_, rfl, _, rfl, _, rfl, t, ps, z, x, ⟨rfl, T.same (s1.trans s2), hz, hx⟩, fun H3 p3 W3 s3 e3 m3 => ?_⟩
  refine ⟨by show 3 ≤ sizeLine; decide, fun l nl => ?_⟩
  have s04 : Same H (upd H3 l (.lst [.ref p1, .ref p2, .ref p3])) := ((s1.trans s2).trans s3).trans (same_new nl _)
  have s34 := same_new nl (.lst [.ref p1, .ref p2, .ref p3])
  have f1 := s34 _ _ (s3 _ _ (s2 _ _ e1))
  have f2 := s34 _ _ (s3 _ _ e2)
  have f3 := s34 _ _ e3
  have fl : (upd H3 l (.lst [.ref p1, .ref p2, .ref p3])) l = some (.lst [.ref p1, .ref p2, .ref p3]) := upd_same
  generalize upd H3 l (.lst [.ref p1, .ref p2, .ref p3]) = H4 at s04 s34 f1 f2 f3 fl ⊢
  -- each tie
  have most := T.most
  refine ⟨_, rfl, t, _, 0, _, rfl, rfl, SqT.of (s04 _ _ ht), i0, a, _, rfl, .inl (SqL.of (s04 _ _ ha)), _, _, rfl, rfl, _, _, rfl, ⟨by decide, by decide, by rw [nv_len]; omega, by rw [nv_len]; omega⟩,
    for_range (fun i σ H' => ∃ k, σ = [some (.ref t), some (.ref dp), some (.ref pl), some (.int (x : Int)), some (.int (y : Int)), some (.int (z : Int)), some (.ref l), k, none, none, none, none, none] ∧ Same H4 H') ⟨none, rfl, Same.refl _⟩ ?_ ?_⟩
  · rintro i σ H5 _ ⟨k0, rfl, s5⟩
    have ek : (1 : Int) + (i : Int) = ((i + 1 : Nat) : Int) := by omega
    rw [ek]
    generalize i + 1 = k
    refine ⟨_, rfl, l, rfl, ⟨_, SqL.of (s5 _ _ fl)⟩, fun Z nZ => lc_list (K := K) (a := l) (xs := [.ref p1, .ref p2, .ref p3]) (fun i H' => Same H5 H' ∧ H' Z = some (.lst (([decide (k ∈ W1), decide (k ∈ W2), decide (k ∈ W3)].take i).map V.bl)))
      ⟨same_new nZ _, upd_same⟩ (fun i H' _ hP => SqL.of (hP.1 _ _ (s5 _ _ fl))) ?_ ?_⟩
    · rintro j v H6 hv ⟨s6, eZ⟩
      have s56 := s5.trans s6
      have pick : ∃ (p : Addr) (W : List Nat), v = .ref p ∧ H6 p = some (.lst (nv W)) ∧ [decide (k ∈ W1), decide (k ∈ W2), decide (k ∈ W3)][j]? = some (decide (k ∈ W)) :=
        of_three (C := fun j v => ∃ (p : Addr) (W : List Nat), v = V.ref p ∧ H6 p = some (.lst (nv W)) ∧ [decide (k ∈ W1), decide (k ∈ W2), decide (k ∈ W3)][j]? = some (decide (k ∈ W)))
          ⟨p1, W1, rfl, s56 _ _ f1, rfl⟩ ⟨p2, W2, rfl, s56 _ _ f2, rfl⟩ ⟨p3, W3, rfl, s56 _ _ f3, rfl⟩ j v hv
      obtain ⟨p, W, rfl, ep, eb⟩ := pick
      refine ⟨rfl, ?_⟩
      refine ⟨_, rfl, _, rfl, p, _, rfl, .inl (SqL.of ep), rfl, flat_nv W, _, eZ, ?_, fun c u e => ?_, ?_⟩
      · rw [List.length_map, List.length_take]
        exact Nat.lt_of_le_of_lt (Nat.min_le_right _ _) (small16 (n := 3) (by decide))
      · rw [upd_ne (ne_of_none e nZ)]
        exact s6 _ _ e
      · rw [upd_same, List.take_add_one, eb, List.map_append]
        show some (HO.lst (_ ++ [V.bl (inV (.int (k : Int)) (nv W))])) = _
        rw [inV_nv]
        rfl
    · rintro H6 ⟨s6, eZ⟩
      have eq1 : decide (k ∈ W1) = decide (k ∈ way ps x y) := decide_eq_decide.mpr m1.mem_iff
      have eq2 : decide (k ∈ W2) = decide (k ∈ way ps y z) := decide_eq_decide.mpr m2.mem_iff
      have eq3 : decide (k ∈ W3) = decide (k ∈ way ps z x) := decide_eq_decide.mpr m3.mem_iff
      have cnt := count3 ps x y z k
      rw [← eq1, ← eq2, ← eq3] at cnt
      have eZ' : H6 Z = some (.lst ([decide (k ∈ W1), decide (k ∈ W2), decide (k ∈ W3)].map V.bl)) := eZ
      refine ⟨.inl ⟨rfl, _, SqL.of eZ'⟩, Z, _, true, rfl, rfl, SqL.of eZ', by show 2 ≤ sizeLine; decide, fun Y nY => ?_⟩
      have hin : (!inV (.int (([decide (k ∈ W1), decide (k ∈ W2), decide (k ∈ W3)].count true : Nat) : Int)) [V.int 0, V.int 2]) = false := by
        rcases cnt with c | c
        · rw [c]
          decide
        · rw [c]
          decide
      exact ⟨Y, _, rfl, .inl (SqL.of upd_same), rfl, rfl, false, congrArg V.bl hin, iteF ⟨_, rfl, (s5.trans s6).trans (same_new nY _)⟩⟩
  rintro σ H5 ⟨k0, rfl, s5⟩
  have s05 := s04.trans s5
  -- the meetings
  refine ⟨_, rfl, _, rfl, _, rfl, t, ps, x, y, ⟨rfl, T.same s05, hx, hy⟩, fun H6 s6 => ?_⟩
  refine ⟨_, rfl, _, rfl, _, rfl, t, ps, y, z, ⟨rfl, T.same (s05.trans s6), hy, hz⟩, fun H7 s7 => ?_⟩
  refine ⟨_, rfl, _, rfl, _, rfl, t, ps, z, x, ⟨rfl, T.same ((s05.trans s6).trans s7), hz, hx⟩, fun H8 s8 => ?_⟩
  refine ⟨by show 3 ≤ sizeLine; decide, fun M nM => ?_⟩
  have s49 := (((s5.trans s6).trans s7).trans s8).trans (same_new nM (.lst [.int ((meet ps x y : Nat) : Int), .int ((meet ps y z : Nat) : Int), .int ((meet ps z x : Nat) : Int)]))
  have fM : (upd H8 M (.lst [.int ((meet ps x y : Nat) : Int), .int ((meet ps y z : Nat) : Int), .int ((meet ps z x : Nat) : Int)])) M = some (.lst [.int ((meet ps x y : Nat) : Int), .int ((meet ps y z : Nat) : Int), .int ((meet ps z x : Nat) : Int)]) := upd_same
  refine ⟨_, rfl, M, iv [meet ps x y, meet ps y z, meet ps z x], rfl, SqL.of fM, by show 3 < 64; decide, ?_⟩
  have ms := meets ps x y z
  have two := firstMet3 (x := ((meet ps x y : Nat) : Int)) (y := ((meet ps y z : Nat) : Int)) (z := ((meet ps z x : Nat) : Int)) (by omega)
  have two' : ¬ ((((PyProof.Rows.firstMet (fun i => (iv [meet ps x y, meet ps y z, meet ps z x]).getD i 0) (iv [meet ps x y, meet ps y z, meet ps z x]).length).length : Nat) : Int) > 2) := by
    have e : (PyProof.Rows.firstMet (fun i => (iv [meet ps x y, meet ps y z, meet ps z x]).getD i 0) (iv [meet ps x y, meet ps y z, meet ps z x]).length).length ≤ 2 := two
    omega
  refine ⟨_, _, rfl, rfl, _, rfl, iteDF two' ?_⟩
  have s09 := s04.trans s49
  have g1 := s49 _ _ f1
  have g2 := s49 _ _ f2
  have g3 := s49 _ _ f3
  have gl := s49 _ _ fl
  generalize upd H8 M (.lst [.int ((meet ps x y : Nat) : Int), .int ((meet ps y z : Nat) : Int), .int ((meet ps z x : Nat) : Int)]) = H9 at s49 s09 fM g1 g2 g3 gl ⊢
  have g4 := s09 _ _ hdp
  have g5 := s09 _ _ hpl
  -- each pair
  refine ⟨3, rfl, by decide, by decide, for_range (fun i σ H' => ∃ k1 k2 k3 k4, σ = [some (.ref t), some (.ref dp), some (.ref pl), some (.int (x : Int)), some (.int (y : Int)), some (.int (z : Int)), some (.ref l), k1, some (.ref M), k2, k3, k4, none] ∧ Same H9 H')
    ⟨k0, none, none, none, rfl, Same.refl _⟩ ?_ ?_⟩
  · rintro i σ H10 hi ⟨k1, k2, k3, k4, rfl, s10⟩
    have s010 := s09.trans s10
    rw [Int.zero_add]
    have pick : ∃ (u v : Nat) (p : Addr) (W : List Nat), atI [V.int (x : Int), V.int (y : Int), V.int (z : Int)] (i : Int) = some (.int (u : Int)) ∧ atI [V.int (x : Int), V.int (y : Int), V.int (z : Int)] (((i : Int) + 1) % 3) = some (.int (v : Int)) ∧
        atI [V.ref p1, V.ref p2, V.ref p3] (i : Int) = some (.ref p) ∧ atI [V.int ((meet ps x y : Nat) : Int), V.int ((meet ps y z : Nat) : Int), V.int ((meet ps z x : Nat) : Int)] (i : Int) = some (.int ((meet ps u v : Nat) : Int)) ∧ H10 p = some (.lst (nv W)) ∧ W.Perm (way ps u v) ∧ u ≤ ps.length ∧ v ≤ ps.length :=
      below3 (C := fun i => ∃ (u v : Nat) (p : Addr) (W : List Nat), atI [V.int (x : Int), V.int (y : Int), V.int (z : Int)] (i : Int) = some (.int (u : Int)) ∧ atI [V.int (x : Int), V.int (y : Int), V.int (z : Int)] (((i : Int) + 1) % 3) = some (.int (v : Int)) ∧
          atI [V.ref p1, V.ref p2, V.ref p3] (i : Int) = some (.ref p) ∧ atI [V.int ((meet ps x y : Nat) : Int), V.int ((meet ps y z : Nat) : Int), V.int ((meet ps z x : Nat) : Int)] (i : Int) = some (.int ((meet ps u v : Nat) : Int)) ∧ H10 p = some (.lst (nv W)) ∧ W.Perm (way ps u v) ∧ u ≤ ps.length ∧ v ≤ ps.length)
        ⟨x, y, p1, W1, atI_nat (j := 0) rfl, atI_nat (j := 1) rfl, atI_nat (j := 0) rfl, atI_nat (j := 0) rfl, s10 _ _ g1, m1, hx, hy⟩
        ⟨y, z, p2, W2, atI_nat (j := 1) rfl, atI_nat (j := 2) rfl, atI_nat (j := 1) rfl, atI_nat (j := 1) rfl, s10 _ _ g2, m2, hy, hz⟩
        ⟨z, x, p3, W3, atI_nat (j := 2) rfl, atI_nat (j := 0) rfl, atI_nat (j := 2) rfl, atI_nat (j := 2) rfl, s10 _ _ g3, m3, hz, hx⟩ i hi
    obtain ⟨u, v, p, W, b1, b2, b3, b4, ep, pm, hu, hv⟩ := pick
    have three : (0 : Int) < 3 := by decide
    refine ⟨_, rfl, _, rfl, pl, _, _, _, rfl, rfl, SqL.of (s10 _ _ g5), b1, _, rfl, _, rfl, _, _, rfl, rfl, _, _, rfl, rfl, three, pl, _, _, _, rfl, rfl, SqL.of (s10 _ _ g5), b2, _, _, rfl, ?_⟩
    have ml := meet_le ps u v
    have d1 : atI (nv (deps ps (ps.length + 1))) (u : Int) = some (.int ((dep ps u : Nat) : Int)) := atI_nat (nv_get (deps_get ps (by omega)))
    have d2 : atI (nv (deps ps (ps.length + 1))) (v : Int) = some (.int ((dep ps v : Nat) : Int)) := atI_nat (nv_get (deps_get ps (by omega)))
    have d3 : atI (nv (deps ps (ps.length + 1))) ((meet ps u v : Nat) : Int) = some (.int ((dep ps (meet ps u v) : Nat) : Int)) := atI_nat (nv_get (deps_get ps (by omega)))
    have dd := SqL.of (K := K) (s10 _ _ g4)
    have wl := way_len ps u v
    have Wl := pm.length_eq
    have same : V.int ((nv W).length : Int) = V.int (((dep ps u : Nat) : Int) + ((dep ps v : Nat) : Int) - 2 * ((dep ps (meet ps u v) : Nat) : Int)) := by
      rw [nv_len]
      exact congrArg V.int (by omega)
    refine ⟨_, rfl, _, rfl, l, _, _, _, rfl, rfl, SqL.of (s10 _ _ gl), b3, p, _, rfl, .inl (SqL.of ep), _, rfl, _, rfl, dp, _, _, _, rfl, rfl, dd, d1, _, rfl, _, rfl, dp, _, _, _, rfl, rfl, dd, d2, _, _, rfl, rfl,
      _, rfl, _, rfl, _, rfl, M, _, _, _, rfl, rfl, SqL.of (s10 _ _ fM), b4, dp, _, _, _, rfl, rfl, dd, d3, _, _, rfl, rfl, .inl (by decide), _, _, rfl, rfl, rfl, _, rfl, iteNS same ?_⟩
    refine ⟨_, rfl, _, rfl, rfl, _, rfl, ?_⟩
    by_cases e : u = v
    · exact iteD (int_eq e) ⟨_, _, _, _, rfl, s10⟩
    · refine iteDF (int_ne e) ?_
      refine ⟨_, rfl, _, rfl, _, rfl, t, ps, u, v, ⟨rfl, T.same s010, hu, hv, e⟩, fun H11 s11 => ⟨true, rfl, iteF ?_⟩⟩
      refine ⟨_, rfl, _, rfl, _, rfl, t, ps, u, v, ⟨rfl, T.same (s010.trans s11), hu, hv, e⟩, fun H12 s12 => ⟨true, rfl, iteF ?_⟩⟩
      exact ⟨_, _, _, _, rfl, (s10.trans s11).trans s12⟩
  · rintro σ H10 ⟨k1, k2, k3, k4, rfl, s10⟩
    exact q _ (s09.trans s10)
end
end K14
/-! the law -/
namespace K14
open PySem PySem.Spec PyProof.Rows L2 Ways
section
variable {P : Program} {w : World} {K : PySem.W.Frag} {mg : Str → Option Value} {base : Heap}
abbrev sLaw : Stmt := topS 36
abbrev nLaw : List Str := ["_law_script", "_law_tree_here", "_law_deep", "_law_places", "_law_k", "_law_pool_here", "_law_three_here", "_law_turn"]
theorem scLaw : FnScope nLaw ["_law_script"] (defScope sLaw) := ⟨rfl, rfl, rfl, by decide +kernel, rfl, by decide +kernel, by decide +kernel⟩
def spLaw (K : PySem.W.Frag) : Sp := fun vs H Q _ => ∃ (a : Addr) (ns : List Int), vs = [.ref a] ∧ SqL K H a (ns.map V.int) ∧ ns.length ≤ 63 ∧ ∀ H', Q (.bl true) H'
theorem ok_law {f f1 f2 f3 f4 f5 : Addr} {fd fd1 fd2 fd3 fd4 fd5 : FuncData} (F : Fun K "law" "law" sLaw f fd) (D1 : Dn K mg "_law_pool" sPool f1 fd1 ["_law_script", "_law_k"]) (G1 : FnOk P w K mg base CX0 2 f1 fd1 ["_law_script", "_law_k"] (spPool K))
    (D2 : Dn K mg "_law_tree" sTree f2 fd2 ["_law_pool_here", "_law_most", "_law_sizes"]) (G2 : FnOk P w K mg base CX0 2 f2 fd2 ["_law_pool_here", "_law_most", "_law_sizes"] spTree) (D3 : Dn K mg "depths" sDepths f3 fd3 ["tree"]) (G3 : FnOk P w K mg base CX0 4 f3 fd3 ["tree"] spDepths)
    (D4 : Dn K mg "_law_take" sTake f4 fd4 ["_law_pool_here", "_law_many"]) (G4 : FnOk P w K mg base CX0 1 f4 fd4 ["_law_pool_here", "_law_many"] spTake)
    (D5 : Dn K mg "_law_three" sThree f5 fd5 ["_law_tree_here", "_law_deep", "_law_places"]) (G5 : FnOk P w K mg base CX0 7 f5 fd5 ["_law_tree_here", "_law_deep", "_law_places"] spThree) (B : Bi mg) : FnOk P w K mg base CX0 8 f fd ["_law_script"] (spLaw K) := by
  refine F.ok scLaw (fun vs H Q E h => ?_) (fun cdv A outer s H vs Q E hr h => ?_)
  · obtain ⟨a, ns, rfl, _⟩ := h
    rfl
  obtain ⟨a, ns, rfl, hS, h63, q⟩ := h
  refine ⟨_, pss_cons (ps_set (i := 1) scLaw.nd rfl (.inl rfl) (pe_call G2 (hr.mono (by decide)) (by rfl) D2.g D2.F.kp D2.b .nil pass0
      (pa_cons (pe_call G1 (hr.mono (by decide)) (by rfl) D1.g D1.F.kp D1.b .nil pass0 (pa_cons (pv 0) (pa_cons pe_int pa_nil))) (pa_cons pe_int (pa_cons (pe_lst (pa_cons pe_int pa_nil)) pa_nil)))))
    (pss_cons (ps_set (i := 2) scLaw.nd rfl (.inl rfl) (pe_call G3 (hr.mono (by decide)) (by rfl) D3.g D3.F.kp D3.b .nil pass0 (pa_cons (pv 1) pa_nil)))
    (pss_cons (ps_set (i := 3) scLaw.nd rfl (.inr rfl) (pe_op op_add pe_int (pe_callB call_len_seq (by rfl) B.len PySem.boot_len (pa_cons (pe_ix ix_tup (pv 1) pe_int (fun _ _ => rfl)) pa_nil))))
    (pss_cons (ps_for PassesOwn.never rfl (pi_range2 (by rfl) B.range (pa_cons pe_int (pa_cons (pe_callB (call_max2 rfl) (by rfl) B.max (by decide +kernel) (pa_cons pe_int (pa_cons
          (pe_callB (call_min2 rfl) (by rfl) B.min (by decide +kernel) (pa_cons pe_int (pa_cons (pe_callB call_len_seq (by rfl) B.len PySem.boot_len (pa_cons (pv 0) pa_nil)) pa_nil))) pa_nil))) pa_nil)))
        (pg_name (i := 4) scLaw.nd rfl (.inl rfl))
        (pss_cons (ps_set (i := 5) scLaw.nd rfl (.inr rfl) (pe_call G1 (hr.mono (by decide)) (by rfl) D1.g D1.F.kp D1.b .nil pass0 (pa_cons (pv 0) (pa_cons (pv 4) pa_nil))))
        (pss_cons (ps_setLc (i := 6) (own := [("_law_turn", 7)]) (g := gName 7) (tt := tYes) (by rfl) scLaw.nd rfl rfl (sw_true rfl rfl rfl (by decide +kernel)) (pi_range1 (by rfl) B.range (pa_cons pe_int pa_nil))
          (blkOk_by (N := nLaw) (sc := defScope sLaw) (by decide +kernel)) (fun _ _ _ _ _ => pg_name (i := 7) scLaw.nd rfl (Or.inl rfl)) (fun _ _ _ _ _ => pts_nil)
          (fun _ _ _ _ _ => pe_call G4 (hr.mono (by decide)) (by rfl) D4.g D4.F.kp D4.b .nil pass0 (pa_cons (pv 5) (pa_cons (pv 3) pa_nil))))
        (pss_one (ps_if (pt_not (pt_val (pe_call G5 hr (by rfl) D5.g D5.F.kp D5.b .nil pass0 (pa_cons (pv 1) (pa_cons (pv 2) (pa_cons (pv 6) pa_nil)))))) (pss_one (ps_ret pe_bl)) pss_nil)))))
    (pss_one (ps_ret pe_bl))))), ?_⟩
  -- the tree
  refine ⟨_, rfl, a, ns, 0, rfl, hS, by decide, fun x y p np => ?_⟩
  refine ⟨by show 1 ≤ sizeLine; decide, fun z nz => ?_⟩
  have npz : p ≠ z := ne_of_none upd_same nz
  refine ⟨p, z, x, y, rfl, by rw [upd_ne npz, upd_same], upd_same, fun H1 t ps k1 T => ?_⟩
  have s1 : Same H H1 := Keep.same k1 ((same_new np _).trans (same_new nz _)) np
  refine ⟨_, rfl, t, ps, rfl, T, fun H2 dp s2 ed => ?_⟩
  obtain ⟨ta, tb, rs, ht, ha, hb, hl, hrs⟩ := (T.same s2).at_
  have s02 := s1.trans s2
  refine ⟨_, rfl, t, _, 0, _, rfl, rfl, SqT.of ht, atI_nat (j := 0) rfl, ta, _, rfl, .inl (SqL.of ha), _, _, rfl, rfl, ?_⟩
  have en : (1 : Int) + ((nv ps).length : Int) = ((ps.length + 1 : Nat) : Int) := by
    rw [nv_len]
    omega
  show tSeq _ _ _ [some (.ref a), some (.ref t), some (.ref dp), some (.int ((1 : Int) + ((nv ps).length : Int))), none, none, none, none] H2
  rw [en]
  have most := T.most
  -- each cell
  refine ⟨_, rfl, a, _, rfl, .inl (s02.seq hS), _, _, rfl, _, _, rfl, _, _, rfl, ⟨by decide, by decide, ?_, ?_⟩,
    for_range (fun i σ H' => ∃ z4 z5 z6, σ = [some (.ref a), some (.ref t), some (.ref dp), some (.int ((ps.length + 1 : Nat) : Int)), z4, z5, z6, none] ∧ Same H2 H') ⟨none, none, none, rfl, Same.refl _⟩ ?_ ?_⟩
  · split <;> split <;> omega
  · split <;> split <;> omega
  · rintro i σ H3 hi ⟨z4, z5, z6, rfl, s3⟩
    have ek : (1 : Int) + (i : Int) = ((i + 1 : Nat) : Int) := by omega
    rw [ek]
    have i40 : i + 1 ≤ 63 := by
      revert hi
      split <;> split <;> omega
    refine ⟨_, rfl, _, rfl, a, ns, i + 1, rfl, (s02.trans s3).seq hS, i40, fun u v o no => ?_⟩
    have s34 := same_new no (.lst [.int u, .int v])
    have eo : (upd H3 o (.lst [.int u, .int v])) o = some (.lst [.int u, .int v]) := upd_same
    refine ⟨3, rfl, by decide, by decide, fun Z nZ => lc_range (fun j H' => ∃ (u v : Int) (L : List Nat), Same H3 H' ∧ H' o = some (.lst [.int u, .int v]) ∧ H' Z = some (.lst (nv L)) ∧ L.length = j ∧ ∀ r ∈ L, r ≤ ps.length)
      ⟨u, v, [], s34.trans (same_new nZ _), by rw [upd_ne (ne_of_none eo nZ)]; exact eo, upd_same, rfl, fun r h => (nomatch h)⟩ ?_ ?_⟩
    · rintro j H4 hj ⟨u, v, L, s4, eo, eZ, len, bnd⟩
      have noZ : o ≠ Z := ne_of_none upd_same nZ
      have nZ3 : H3 Z = none := by
        rw [upd_ne noZ.symm] at nZ
        exact nZ
      refine ⟨rfl, ?_⟩
      refine ⟨_, rfl, _, rfl, o, ps.length + 1, u, v, rfl, eo, by omega, by omega, fun u' v' r hr' => ?_⟩
      refine ⟨nv L, by rw [upd_ne noZ.symm]; exact eZ, ?_, u', v', L ++ [r], fun b w e => ?_, ?_, ?_, ?_, ?_⟩
      · rw [nv_len]
        exact small16 (by omega)
      · rw [upd_ne (ne_of_none e nZ3), upd_ne (ne_of_none e no)]
        exact s4 _ _ e
      · rw [upd_ne noZ, upd_same]
      · rw [upd_same, nv_push]
      · rw [List.length_append, len]
        rfl
      · intro g hg
        rcases List.mem_append.mp hg with h | h
        · exact bnd g h
        · have e : g = r := List.mem_singleton.mp h
          omega
    · rintro H4 ⟨u, v, L, s4, eo, eZ, len, bnd⟩
      obtain ⟨x1, x2, x3, rfl⟩ : ∃ x1 x2 x3, L = [x1, x2, x3] := by
        match L, len with
        | [x1, x2, x3], _ => exact ⟨x1, x2, x3, rfl⟩
      have s24 := s3.trans s4
      refine ⟨_, rfl, _, rfl, _, rfl, t, dp, Z, ps, x1, x2, x3, rfl, T.same (s2.trans s24), s24 _ _ ed, eZ, bnd x1 (by simp), bnd x2 (by simp), bnd x3 (by simp), fun H5 s5 => ⟨true, rfl, iteF ?_⟩⟩
      exact ⟨_, _, _, rfl, s24.trans s5⟩
  · rintro σ H3 ⟨z4, z5, z6, rfl, s3⟩
    exact q _
end
end K14
/-! what the top has left; the end -/
namespace K14
open PySem PySem.Spec PyProof.Rows L2 Ways
/-- a def as the written part holds it -/
theorem dn_mk {K : PySem.W.Frag} {mg : Str → Option Value} {h : Heap} {x : Str} {st : Stmt} {f : Addr} {oc : Value} {od an : Option Addr} {sl : Array (Option Value)} {kV dc pm cd ct : Value} {ps : List Str} (X : K.In h) (G : h.Ns mainGlobals mg)
    (a : PySem.W.nsIn K mainGlobals x = some (some (.ref f))) (l : K.lookup f = some ⟨oc, od, .func (PySem.W.fnOf x x (defArgs st) (defBody st) (defScope st) .none kV dc pm an cd ct), sl⟩) (c : PySem.W.codeIn K cd x = true) (k : PySem.W.keepIn K (.ref f) = true)
    (b : ∀ (kV doc pm : Value) (an : Option Addr) (cdv ct : Value) (us : List Value), us.length = ps.length → bindArgs (PySem.W.fnOf x x (defArgs st) (defBody st) (defScope st) .none kV doc pm an cdv ct) ⟨us, []⟩ = pure (ps.zip us)) :
    Dn K mg x st f (PySem.W.fnOf x x (defArgs st) (defBody st) (defScope st) .none kV dc pm an cd ct) ps :=
  have F := fun_mk (st := st) l c k
  ⟨F, PySem.W.mg_of X G a, F.binds b⟩
theorem all_mk {l : PySem.W.OpenLaw} {w : World} {K : PySem.W.Frag} {h : Heap} {mg : Str → Option Value} {fa f1 f2 f3 f4 f5 f6 f7 f8 f9 f10 f11 f12 f13 f14 f15 f16 f17 f18 f19 f20 f21 f22 f23 f24 f25 f26 f27 : Addr} (X : K.In h) (G : h.Ns mainGlobals mg) (hfa : mg "law" = some (.ref fa))
    {od1 an1 od2 an2 od3 an3 od4 an4 od5 an5 od6 an6 od7 an7 od8 an8 od9 an9 od10 an10 od11 an11 od12 an12 od13 an13 od14 an14 od15 an15 od16 an16 od17 an17 od18 an18 od19 an19 od20 an20 od21 an21 od22 an22 od23 an23 od24 an24 od25 an25 od26 an26 od27 an27 : Option Addr} {sl1 sl2 sl3 sl4 sl5 sl6 sl7 sl8 sl9 sl10 sl11 sl12 sl13 sl14 sl15 sl16 sl17 sl18 sl19 sl20 sl21 sl22 sl23 sl24 sl25 sl26 sl27 : Array (Option Value)} {oc1 kV1 dc1 pm1 cd1 ct1 oc2 kV2 dc2 pm2 cd2 ct2 oc3 kV3 dc3 pm3 cd3 ct3 oc4 kV4 dc4 pm4 cd4 ct4 oc5 kV5 dc5 pm5 cd5 ct5 oc6 kV6 dc6 pm6 cd6 ct6 oc7 kV7 dc7 pm7 cd7 ct7 oc8 kV8 dc8 pm8 cd8 ct8 oc9 kV9 dc9 pm9 cd9 ct9 oc10 kV10 dc10 pm10 cd10 ct10 oc11 kV11 dc11 pm11 cd11 ct11 oc12 kV12 dc12 pm12 cd12 ct12 oc13 kV13 dc13 pm13 cd13 ct13 oc14 kV14 dc14 pm14 cd14 ct14 oc15 kV15 dc15 pm15 cd15 ct15 oc16 kV16 dc16 pm16 cd16 ct16 oc17 kV17 dc17 pm17 cd17 ct17 oc18 kV18 dc18 pm18 cd18 ct18 oc19 kV19 dc19 pm19 cd19 ct19 oc20 kV20 dc20 pm20 cd20 ct20 oc21 kV21 dc21 pm21 cd21 ct21 oc22 kV22 dc22 pm22 cd22 ct22 oc23 kV23 dc23 pm23 cd23 ct23 oc24 kV24 dc24 pm24 cd24 ct24 oc25 kV25 dc25 pm25 cd25 ct25 oc26 kV26 dc26 pm26 cd26 ct26 oc27 kV27 dc27 pm27 cd27 ct27 : Value} {tk1 tk2 : Tok}
    (a1 : PySem.W.nsIn K mainGlobals "is_whole" = some (some (.ref f1))) (l1 : K.lookup f1 = some ⟨oc1, od1, .func (PySem.W.fnOf "is_whole" "is_whole" (defArgs sWhole) (defBody sWhole) (defScope sWhole) .none kV1 dc1 pm1 an1 cd1 ct1), sl1⟩) (c1 : PySem.W.codeIn K cd1 "is_whole" = true) (k1 : PySem.W.keepIn K (.ref f1) = true)
    (a2 : PySem.W.nsIn K mainGlobals "is_parent" = some (some (.ref f2))) (l2 : K.lookup f2 = some ⟨oc2, od2, .func (PySem.W.fnOf "is_parent" "is_parent" (defArgs sParent) (defBody sParent) (defScope sParent) .none kV2 dc2 pm2 an2 cd2 ct2), sl2⟩) (c2 : PySem.W.codeIn K cd2 "is_parent" = true) (k2 : PySem.W.keepIn K (.ref f2) = true)
    (a3 : PySem.W.nsIn K mainGlobals "is_room" = some (some (.ref f3))) (l3 : K.lookup f3 = some ⟨oc3, od3, .func (PySem.W.fnOf "is_room" "is_room" (defArgs sRoom) (defBody sRoom) (defScope sRoom) .none kV3 dc3 pm3 an3 cd3 ct3), sl3⟩) (c3 : PySem.W.codeIn K cd3 "is_room" = true) (k3 : PySem.W.keepIn K (.ref f3) = true)
    (a4 : PySem.W.nsIn K mainGlobals "are_two_lists" = some (some (.ref f4))) (l4 : K.lookup f4 = some ⟨oc4, od4, .func (PySem.W.fnOf "are_two_lists" "are_two_lists" (defArgs sTwo) (defBody sTwo) (defScope sTwo) .none kV4 dc4 pm4 an4 cd4 ct4), sl4⟩) (c4 : PySem.W.codeIn K cd4 "are_two_lists" = true) (k4 : PySem.W.keepIn K (.ref f4) = true)
    (a5 : PySem.W.nsIn K mainGlobals "look_at_tree" = some (some (.ref f5))) (l5 : K.lookup f5 = some ⟨oc5, od5, .func (PySem.W.fnOf "look_at_tree" "look_at_tree" (defArgs sLook) (defBody sLook) (defScope sLook) .none kV5 dc5 pm5 an5 cd5 ct5), sl5⟩) (c5 : PySem.W.codeIn K cd5 "look_at_tree" = true) (k5 : PySem.W.keepIn K (.ref f5) = true)
    (a6 : PySem.W.nsIn K mainGlobals "depths_by" = some (some (.ref f6))) (l6 : K.lookup f6 = some ⟨oc6, od6, .func (PySem.W.fnOf "depths_by" "depths_by" (defArgs sDepthsBy) (defBody sDepthsBy) (defScope sDepthsBy) .none kV6 dc6 pm6 an6 cd6 ct6), sl6⟩) (c6 : PySem.W.codeIn K cd6 "depths_by" = true) (k6 : PySem.W.keepIn K (.ref f6) = true)
    (a7 : PySem.W.nsIn K mainGlobals "depths" = some (some (.ref f7))) (l7 : K.lookup f7 = some ⟨oc7, od7, .func (PySem.W.fnOf "depths" "depths" (defArgs sDepths) (defBody sDepths) (defScope sDepths) .none kV7 dc7 pm7 an7 cd7 ct7), sl7⟩) (c7 : PySem.W.codeIn K cd7 "depths" = true) (k7 : PySem.W.keepIn K (.ref f7) = true)
    (a8 : PySem.W.nsIn K mainGlobals "is_place" = some (some (.ref f8))) (l8 : K.lookup f8 = some ⟨oc8, od8, .func (PySem.W.fnOf "is_place" "is_place" (defArgs sPlace) (defBody sPlace) (defScope sPlace) .none kV8 dc8 pm8 an8 cd8 ct8), sl8⟩) (c8 : PySem.W.codeIn K cd8 "is_place" = true) (k8 : PySem.W.keepIn K (.ref f8) = true)
    (a9 : PySem.W.nsIn K mainGlobals "is_tie" = some (some (.ref f9))) (l9 : K.lookup f9 = some ⟨oc9, od9, .func (PySem.W.fnOf "is_tie" "is_tie" (defArgs sTie) (defBody sTie) (defScope sTie) .none kV9 dc9 pm9 an9 cd9 ct9), sl9⟩) (c9 : PySem.W.codeIn K cd9 "is_tie" = true) (k9 : PySem.W.keepIn K (.ref f9) = true)
    (a10 : PySem.W.nsIn K mainGlobals "walked" = some (some (.ref f10))) (l10 : K.lookup f10 = some ⟨oc10, od10, .func (PySem.W.fnOf "walked" "walked" (defArgs sWalked) (defBody sWalked) (defScope sWalked) .none kV10 dc10 pm10 an10 cd10 ct10), sl10⟩) (c10 : PySem.W.codeIn K cd10 "walked" = true) (k10 : PySem.W.keepIn K (.ref f10) = true)
    (a11 : PySem.W.nsIn K mainGlobals "tops_of" = some (some (.ref f11))) (l11 : K.lookup f11 = some ⟨oc11, od11, .func (PySem.W.fnOf "tops_of" "tops_of" (defArgs sTopsOf) (defBody sTopsOf) (defScope sTopsOf) .none kV11 dc11 pm11 an11 cd11 ct11), sl11⟩) (c11 : PySem.W.codeIn K cd11 "tops_of" = true) (k11 : PySem.W.keepIn K (.ref f11) = true)
    (a12 : PySem.W.nsIn K mainGlobals "look_at_places" = some (some (.ref f12))) (l12 : K.lookup f12 = some ⟨oc12, od12, .func (PySem.W.fnOf "look_at_places" "look_at_places" (defArgs sLookP) (defBody sLookP) (defScope sLookP) .none kV12 dc12 pm12 an12 cd12 ct12), sl12⟩) (c12 : PySem.W.codeIn K cd12 "look_at_places" = true) (k12 : PySem.W.keepIn K (.ref f12) = true)
    (a13 : PySem.W.nsIn K mainGlobals "way_between" = some (some (.ref f13))) (l13 : K.lookup f13 = some ⟨oc13, od13, .func (PySem.W.fnOf "way_between" "way_between" (defArgs sWayB) (defBody sWayB) (defScope sWayB) .none kV13 dc13 pm13 an13 cd13 ct13), sl13⟩) (c13 : PySem.W.codeIn K cd13 "way_between" = true) (k13 : PySem.W.keepIn K (.ref f13) = true)
    (a14 : PySem.W.nsIn K mainGlobals "meeting_of" = some (some (.ref f14))) (l14 : K.lookup f14 = some ⟨oc14, od14, .func (PySem.W.fnOf "meeting_of" "meeting_of" (defArgs sMeetO) (defBody sMeetO) (defScope sMeetO) .none kV14 dc14 pm14 an14 cd14 ct14), sl14⟩) (c14 : PySem.W.codeIn K cd14 "meeting_of" = true) (k14 : PySem.W.keepIn K (.ref f14) = true)
    (a15 : PySem.W.nsIn K mainGlobals "tops_between" = some (some (.ref f15))) (l15 : K.lookup f15 = some ⟨oc15, od15, .func (PySem.W.fnOf "tops_between" "tops_between" (defArgs sTopsB) (defBody sTopsB) (defScope sTopsB) .none kV15 dc15 pm15 an15 cd15 ct15), sl15⟩) (c15 : PySem.W.codeIn K cd15 "tops_between" = true) (k15 : PySem.W.keepIn K (.ref f15) = true)
    (a16 : PySem.W.nsIn K mainGlobals "lies_beneath" = some (some (.ref f16))) (l16 : K.lookup f16 = some ⟨oc16, od16, .func (PySem.W.fnOf "lies_beneath" "lies_beneath" (defArgs sLies) (defBody sLies) (defScope sLies) .none kV16 dc16 pm16 an16 cd16 ct16), sl16⟩) (c16 : PySem.W.codeIn K cd16 "lies_beneath" = true) (k16 : PySem.W.keepIn K (.ref f16) = true)
    (a17 : PySem.W.nsIn K mainGlobals "is_beneath" = some (some (.ref f17))) (l17 : K.lookup f17 = some ⟨oc17, od17, .func (PySem.W.fnOf "is_beneath" "is_beneath" (defArgs sBeneath) (defBody sBeneath) (defScope sBeneath) .none kV17 dc17 pm17 an17 cd17 ct17), sl17⟩) (c17 : PySem.W.codeIn K cd17 "is_beneath" = true) (k17 : PySem.W.keepIn K (.ref f17) = true)
    (a18 : PySem.W.nsIn K mainGlobals "_law_cell_at" = some (some (.ref f18))) (l18 : K.lookup f18 = some ⟨oc18, od18, .func (PySem.W.fnOf "_law_cell_at" "_law_cell_at" (defArgs sCell) (defBody sCell) (defScope sCell) .none kV18 dc18 pm18 an18 cd18 ct18), sl18⟩) (c18 : PySem.W.codeIn K cd18 "_law_cell_at" = true) (k18 : PySem.W.keepIn K (.ref f18) = true)
    (a19 : PySem.W.nsIn K mainGlobals "_law_pool" = some (some (.ref f19))) (l19 : K.lookup f19 = some ⟨oc19, od19, .func (PySem.W.fnOf "_law_pool" "_law_pool" (defArgs sPool) (defBody sPool) (defScope sPool) .none kV19 dc19 pm19 an19 cd19 ct19), sl19⟩) (c19 : PySem.W.codeIn K cd19 "_law_pool" = true) (k19 : PySem.W.keepIn K (.ref f19) = true)
    (a20 : PySem.W.nsIn K mainGlobals "_law_take" = some (some (.ref f20))) (l20 : K.lookup f20 = some ⟨oc20, od20, .func (PySem.W.fnOf "_law_take" "_law_take" (defArgs sTake) (defBody sTake) (defScope sTake) .none kV20 dc20 pm20 an20 cd20 ct20), sl20⟩) (c20 : PySem.W.codeIn K cd20 "_law_take" = true) (k20 : PySem.W.keepIn K (.ref f20) = true)
    (a21 : PySem.W.nsIn K mainGlobals "_law_tree" = some (some (.ref f21))) (l21 : K.lookup f21 = some ⟨oc21, od21, .func (PySem.W.fnOf "_law_tree" "_law_tree" (defArgs sTree) (defBody sTree) (defScope sTree) .none kV21 dc21 pm21 an21 cd21 ct21), sl21⟩) (c21 : PySem.W.codeIn K cd21 "_law_tree" = true) (k21 : PySem.W.keepIn K (.ref f21) = true)
    (a22 : PySem.W.nsIn K mainGlobals "_law_way" = some (some (.ref f22))) (l22 : K.lookup f22 = some ⟨oc22, od22, .func (PySem.W.fnOf "_law_way" "_law_way" (defArgs sWayL) (defBody sWayL) (defScope sWayL) .none kV22 dc22 pm22 an22 cd22 ct22), sl22⟩) (c22 : PySem.W.codeIn K cd22 "_law_way" = true) (k22 : PySem.W.keepIn K (.ref f22) = true)
    (a23 : PySem.W.nsIn K mainGlobals "_law_meeting" = some (some (.ref f23))) (l23 : K.lookup f23 = some ⟨oc23, od23, .func (PySem.W.fnOf "_law_meeting" "_law_meeting" (defArgs sMeetL) (defBody sMeetL) (defScope sMeetL) .none kV23 dc23 pm23 an23 cd23 ct23), sl23⟩) (c23 : PySem.W.codeIn K cd23 "_law_meeting" = true) (k23 : PySem.W.keepIn K (.ref f23) = true)
    (a24 : PySem.W.nsIn K mainGlobals "_law_walked" = some (some (.ref f24))) (l24 : K.lookup f24 = some ⟨oc24, od24, .func (PySem.W.fnOf "_law_walked" "_law_walked" (defArgs sWalkedL) (defBody sWalkedL) (defScope sWalkedL) .none kV24 dc24 pm24 an24 cd24 ct24), sl24⟩) (c24 : PySem.W.codeIn K cd24 "_law_walked" = true) (k24 : PySem.W.keepIn K (.ref f24) = true)
    (a25 : PySem.W.nsIn K mainGlobals "_law_tops" = some (some (.ref f25))) (l25 : K.lookup f25 = some ⟨oc25, od25, .func (PySem.W.fnOf "_law_tops" "_law_tops" (defArgs sTopsL) (defBody sTopsL) (defScope sTopsL) .none kV25 dc25 pm25 an25 cd25 ct25), sl25⟩) (c25 : PySem.W.codeIn K cd25 "_law_tops" = true) (k25 : PySem.W.keepIn K (.ref f25) = true)
    (a26 : PySem.W.nsIn K mainGlobals "_law_three" = some (some (.ref f26))) (l26 : K.lookup f26 = some ⟨oc26, od26, .func (PySem.W.fnOf "_law_three" "_law_three" (defArgs sThree) (defBody sThree) (defScope sThree) .none kV26 dc26 pm26 an26 cd26 ct26), sl26⟩) (c26 : PySem.W.codeIn K cd26 "_law_three" = true) (k26 : PySem.W.keepIn K (.ref f26) = true)
    (a27 : PySem.W.nsIn K mainGlobals "law" = some (some (.ref f27))) (l27 : K.lookup f27 = some ⟨oc27, od27, .func (PySem.W.fnOf "law" "law" (defArgs sLaw) (defBody sLaw) (defScope sLaw) .none kV27 dc27 pm27 an27 cd27 ct27), sl27⟩) (c27 : PySem.W.codeIn K cd27 "law" = true) (k27 : PySem.W.keepIn K (.ref f27) = true)
    (z1 : PySem.W.nsIn K mainGlobals "isinstance" = some none)
    (z2 : PySem.W.nsIn K mainGlobals "int" = some none)
    (z3 : PySem.W.nsIn K mainGlobals "bool" = some none)
    (z4 : PySem.W.nsIn K mainGlobals "tuple" = some none)
    (z5 : PySem.W.nsIn K mainGlobals "list" = some none)
    (z6 : PySem.W.nsIn K mainGlobals "len" = some none)
    (z7 : PySem.W.nsIn K mainGlobals "enumerate" = some none)
    (z8 : PySem.W.nsIn K mainGlobals "sorted" = some none)
    (z9 : PySem.W.nsIn K mainGlobals "range" = some none)
    (z10 : PySem.W.nsIn K mainGlobals "max" = some none)
    (z11 : PySem.W.nsIn K mainGlobals "min" = some none)
    (z12 : PySem.W.nsIn K mainGlobals "any" = some none)
    (z13 : PySem.W.nsIn K mainGlobals "set" = some none)
    (m1 : PySem.W.nsIn K mainGlobals "MOST_TIES" = some (some (.int 23 tk1))) (gr : mg "GREATEST_ROOM" = some (.int 1000000 tk2)) :
    ∃ fd : FuncData, (∀ (s : Shared) (v : Value), BindsTo s fd ⟨[v], []⟩ [("_law_script", v)]) ∧ ∀ base : Heap, K.In base → base.Ns mainGlobals mg → FnOk l.prog w K mg base CX0 8 fa fd ["_law_script"] (spLaw K) := by
  have e := hfa.symm.trans (PySem.W.mg_of X G a27)
  cases e
  have B : Bi mg := ⟨PySem.W.mg_none_of X G z1, PySem.W.mg_none_of X G z2, PySem.W.mg_none_of X G z3, PySem.W.mg_none_of X G z4, PySem.W.mg_none_of X G z5, PySem.W.mg_none_of X G z6, PySem.W.mg_none_of X G z7, PySem.W.mg_none_of X G z8, PySem.W.mg_none_of X G z9, PySem.W.mg_none_of X G z10, PySem.W.mg_none_of X G z11, PySem.W.mg_none_of X G z12, PySem.W.mg_none_of X G z13⟩
  have gm := PySem.W.mg_of X G m1
  have D1 := dn_mk (st := sWhole) (ps := ["thing"]) X G a1 l1 c1 k1 fun _ _ _ _ _ _ us hl => match us, hl with | [_], _ => rfl
  have D2 := dn_mk (st := sParent) (ps := ["thing", "place"]) X G a2 l2 c2 k2 fun _ _ _ _ _ _ us hl => match us, hl with | [_, _], _ => rfl
  have D3 := dn_mk (st := sRoom) (ps := ["thing"]) X G a3 l3 c3 k3 fun _ _ _ _ _ _ us hl => match us, hl with | [_], _ => rfl
  have D4 := dn_mk (st := sTwo) (ps := ["thing"]) X G a4 l4 c4 k4 fun _ _ _ _ _ _ us hl => match us, hl with | [_], _ => rfl
  have D5 := dn_mk (st := sLook) (ps := ["thing"]) X G a5 l5 c5 k5 fun _ _ _ _ _ _ us hl => match us, hl with | [_], _ => rfl
  have D6 := dn_mk (st := sDepthsBy) (ps := ["parents"]) X G a6 l6 c6 k6 fun _ _ _ _ _ _ us hl => match us, hl with | [_], _ => rfl
  have D7 := dn_mk (st := sDepths) (ps := ["tree"]) X G a7 l7 c7 k7 fun _ _ _ _ _ _ us hl => match us, hl with | [_], _ => rfl
  have D8 := dn_mk (st := sPlace) (ps := ["tree", "thing"]) X G a8 l8 c8 k8 fun _ _ _ _ _ _ us hl => match us, hl with | [_, _], _ => rfl
  have D9 := dn_mk (st := sTie) (ps := ["tree", "thing"]) X G a9 l9 c9 k9 fun _ _ _ _ _ _ us hl => match us, hl with | [_, _], _ => rfl
  have D10 := dn_mk (st := sWalked) (ps := ["parents", "one", "other"]) X G a10 l10 c10 k10 fun _ _ _ _ _ _ us hl => match us, hl with | [_, _, _], _ => rfl
  have D11 := dn_mk (st := sTopsOf) (ps := ["tree", "ask"]) X G a11 l11 c11 k11 fun _ _ _ _ _ _ us hl => match us, hl with | [_, _], _ => rfl
  have D12 := dn_mk (st := sLookP) (ps := ["tree", "one", "other"]) X G a12 l12 c12 k12 fun _ _ _ _ _ _ us hl => match us, hl with | [_, _, _], _ => rfl
  have D13 := dn_mk (st := sWayB) (ps := ["tree", "one", "other"]) X G a13 l13 c13 k13 fun _ _ _ _ _ _ us hl => match us, hl with | [_, _, _], _ => rfl
  have D14 := dn_mk (st := sMeetO) (ps := ["tree", "one", "other"]) X G a14 l14 c14 k14 fun _ _ _ _ _ _ us hl => match us, hl with | [_, _, _], _ => rfl
  have D15 := dn_mk (st := sTopsB) (ps := ["tree", "one", "other"]) X G a15 l15 c15 k15 fun _ _ _ _ _ _ us hl => match us, hl with | [_, _, _], _ => rfl
  have D16 := dn_mk (st := sLies) (ps := ["parents", "one", "other"]) X G a16 l16 c16 k16 fun _ _ _ _ _ _ us hl => match us, hl with | [_, _, _], _ => rfl
  have D17 := dn_mk (st := sBeneath) (ps := ["tree", "one", "other"]) X G a17 l17 c17 k17 fun _ _ _ _ _ _ us hl => match us, hl with | [_, _, _], _ => rfl
  have D18 := dn_mk (st := sCell) (ps := ["_law_script", "_law_k"]) X G a18 l18 c18 k18 fun _ _ _ _ _ _ us hl => match us, hl with | [_, _], _ => rfl
  have D19 := dn_mk (st := sPool) (ps := ["_law_script", "_law_k"]) X G a19 l19 c19 k19 fun _ _ _ _ _ _ us hl => match us, hl with | [_, _], _ => rfl
  have D20 := dn_mk (st := sTake) (ps := ["_law_pool_here", "_law_many"]) X G a20 l20 c20 k20 fun _ _ _ _ _ _ us hl => match us, hl with | [_, _], _ => rfl
  have D21 := dn_mk (st := sTree) (ps := ["_law_pool_here", "_law_most", "_law_sizes"]) X G a21 l21 c21 k21 fun _ _ _ _ _ _ us hl => match us, hl with | [_, _, _], _ => rfl
  have D22 := dn_mk (st := sWayL) (ps := ["_law_tree_here", "_law_one", "_law_other"]) X G a22 l22 c22 k22 fun _ _ _ _ _ _ us hl => match us, hl with | [_, _, _], _ => rfl
  have D23 := dn_mk (st := sMeetL) (ps := ["_law_tree_here", "_law_one", "_law_other"]) X G a23 l23 c23 k23 fun _ _ _ _ _ _ us hl => match us, hl with | [_, _, _], _ => rfl
  have D24 := dn_mk (st := sWalkedL) (ps := ["_law_tree_here", "_law_one", "_law_other"]) X G a24 l24 c24 k24 fun _ _ _ _ _ _ us hl => match us, hl with | [_, _, _], _ => rfl
  have D25 := dn_mk (st := sTopsL) (ps := ["_law_tree_here", "_law_one", "_law_other"]) X G a25 l25 c25 k25 fun _ _ _ _ _ _ us hl => match us, hl with | [_, _, _], _ => rfl
  have D26 := dn_mk (st := sThree) (ps := ["_law_tree_here", "_law_deep", "_law_places"]) X G a26 l26 c26 k26 fun _ _ _ _ _ _ us hl => match us, hl with | [_, _, _], _ => rfl
  have F := fun_mk (st := sLaw) l27 c27 k27
  refine ⟨PySem.W.fnOf "law" "law" (defArgs sLaw) (defBody sLaw) (defScope sLaw) .none kV27 dc27 pm27 an27 cd27 ct27, fun s v => .of_eq rfl, fun base _ _ => ?_⟩
  have gLook := ok_look (P := l.prog) (w := w) (base := base) D5 D1 D2 D3 D4 B gr gm
  have gDepthsBy := ok_depthsBy (P := l.prog) (w := w) (base := base) D6 B
  have gDepths := ok_depths (P := l.prog) (w := w) (base := base) D7 D5 gLook D6 gDepthsBy
  have gPlace := ok_place (P := l.prog) (w := w) (base := base) D8 D1 B
  have gTie := ok_tie (P := l.prog) (w := w) (base := base) D9 D8 gPlace
  have gWalked := ok_walked (P := l.prog) (w := w) (base := base) D10 B
  have gTopsOf := ok_topsOf (P := l.prog) (w := w) (base := base) D11 D10 gWalked
  have gLookP := ok_lookP (P := l.prog) (w := w) (base := base) D12 D5 gLook D8 gPlace
  have gWayB := ok_wayB (P := l.prog) (w := w) (base := base) D13 D12 gLookP D10 gWalked
  have gMeetO := ok_meetO (P := l.prog) (w := w) (base := base) D14 D12 gLookP D10 gWalked
  have gTopsB := ok_topsB (P := l.prog) (w := w) (base := base) D15 D12 gLookP D11 gTopsOf
  have gBeneath := ok_beneath (P := l.prog) (w := w) (base := base) D17 D5 gLook D9 gTie D16
  have gPool := ok_pool (P := l.prog) (w := w) (base := base) D19 D18 B
  have gTake := ok_take (P := l.prog) (w := w) (base := base) D20 B
  have gTree := ok_tree (P := l.prog) (w := w) (base := base) D21 D20 B
  have gWayL := ok_wayL (P := l.prog) (w := w) (base := base) D22 D13 gWayB
  have gMeetL := ok_meetL (P := l.prog) (w := w) (base := base) D23 D14 gMeetO
  have gWalkedL := ok_walkedL (P := l.prog) (w := w) (base := base) D24 D13 gWayB D14 gMeetO B
  have gTopsL := ok_topsL (P := l.prog) (w := w) (base := base) D25 D13 gWayB D14 gMeetO D15 gTopsB D17 gBeneath B
  have gThree := ok_three (P := l.prog) (w := w) (base := base) D26 D22 gWayL D23 gMeetL D24 gWalkedL D25 gTopsL B
  exact ok_law F D19 gPool D21 gTree D7 gDepths D20 gTake D26 gThree B
/-- the law's end, the facts of the names that the view leaves loose handed on -/
theorem walkX {l : PySem.W.OpenLaw} {q : Program} {loose : List Str} {XP : (Str → Option Value) → Heap → Prop} {YP : World → Heap → Prop} {d : DefRec} {K : Params → PySem.W.Frag} (hn : l.most = some 63) (hdf : d.params.defaults = [])
    (hY : ∀ (w : World) (h : Heap), YP w h → (K w.params).In h)
    (F : ∀ (w : World) (mg : Str → Option Value) (fa : Addr) (h : Heap), (K w.params).In h → h.Ns mainGlobals mg → XP mg h → mg d.name = some (.ref fa) → ∃ fd : FuncData, (∀ (s : Shared) (u : Value), BindsTo s fd ⟨[u], []⟩ [("_law_script", u)]) ∧
      ∀ base : Heap, (K w.params).In base → base.Ns mainGlobals mg → FnOk l.prog w (K w.params) mg base CX0 8 fa fd ["_law_script"] (spLaw (K w.params))) : PySem.W.WalkO q loose XP YP l.row.toRowW d [] (fun f vs => PySem.call f vs) := by
  refine Att.attach_call hn hdf fun w s₀ s₁ mg mb fa o pm cd doc a vs ns G Y ho hd hcd hmg hobj hints hlen hg => ?_
  have KX := hY w _ Y
  obtain ⟨fd, hb, hF⟩ := F w mg fa _ KX G.T.g G.X hmg
  exact law_call KX G.T.g G.T.b G.T.builtins G.T.nolimit hg hobj hints (Nat.le_trans hlen (by decide)) ⟨rfl, by decide, by decide⟩ hF hb (fun H hO hS => ⟨a, ns, rfl, hS, hlen, fun _ => rfl⟩) fun H e s' h => h
theorem loose_int {p : Program} {x : Str} {i : Int} {mg : Str → Option Value} {h : Heap} (X : PySem.W.XL p [(x, PySem.W.WData.int i)] mg h) : ∃ t : Tok, mg x = some (.int i t) := by
  obtain ⟨v, e, r⟩ := X.2.val (x, PySem.W.WData.int i) List.mem_cons_self
  cases r
  exact ⟨_, e⟩
end K14
open PySem PySem.W PyProof.Rows
set_option maxRecDepth 100000 in
set_option maxHeartbeats 0 in
theorem PySem.Challenge.cw_treeasks_k14_whole_ways_of_three_holds : PySem.Challenge.rw_treeasks_k14_whole_ways_of_three.Holds := by
  w_on; o_law; k_head; (case hw => w_witness2)
  k_fill
  refine K14.walkX (l := PySem.Challenge.rw_treeasks_k14_whole_ways_of_three) rfl rfl (fun w h Y => PySem.W.kIn_of Y) ?F
  case F =>
    intro w mg fa h KX G XX hmg
    obtain ⟨tk, gr⟩ := K14.loose_int XX
    refine' K14.all_mk KX G hmg ?a1 ?l1 ?c1 ?k1 ?a2 ?l2 ?c2 ?k2 ?a3 ?l3 ?c3 ?k3 ?a4 ?l4 ?c4 ?k4 ?a5 ?l5 ?c5 ?k5 ?a6 ?l6 ?c6 ?k6 ?a7 ?l7 ?c7 ?k7 ?a8 ?l8 ?c8 ?k8 ?a9 ?l9 ?c9 ?k9 ?a10 ?l10 ?c10 ?k10 ?a11 ?l11 ?c11 ?k11 ?a12 ?l12 ?c12 ?k12 ?a13 ?l13 ?c13 ?k13 ?a14 ?l14 ?c14 ?k14 ?a15 ?l15 ?c15 ?k15 ?a16 ?l16 ?c16 ?k16 ?a17 ?l17 ?c17 ?k17 ?a18 ?l18 ?c18 ?k18 ?a19 ?l19 ?c19 ?k19 ?a20 ?l20 ?c20 ?k20 ?a21 ?l21 ?c21 ?k21 ?a22 ?l22 ?c22 ?k22 ?a23 ?l23 ?c23 ?k23 ?a24 ?l24 ?c24 ?k24 ?a25 ?l25 ?c25 ?k25 ?a26 ?l26 ?c26 ?k26 ?a27 ?l27 ?c27 ?k27 ?z1 ?z2 ?z3 ?z4 ?z5 ?z6 ?z7 ?z8 ?z9 ?z10 ?z11 ?z12 ?z13 ?m1 gr
    (case a1 => k_is)
    (case l1 => k_is)
    (case c1 => k_is)
    (case k1 => k_is)
    (case a2 => k_is)
    (case l2 => k_is)
    (case c2 => k_is)
    (case k2 => k_is)
    (case a3 => k_is)
    (case l3 => k_is)
    (case c3 => k_is)
    (case k3 => k_is)
    (case a4 => k_is)
    (case l4 => k_is)
    (case c4 => k_is)
    (case k4 => k_is)
    (case a5 => k_is)
    (case l5 => k_is)
    (case c5 => k_is)
    (case k5 => k_is)
    (case a6 => k_is)
    (case l6 => k_is)
    (case c6 => k_is)
    (case k6 => k_is)
    (case a7 => k_is)
    (case l7 => k_is)
    (case c7 => k_is)
    (case k7 => k_is)
    (case a8 => k_is)
    (case l8 => k_is)
    (case c8 => k_is)
    (case k8 => k_is)
    (case a9 => k_is)
    (case l9 => k_is)
    (case c9 => k_is)
    (case k9 => k_is)
    (case a10 => k_is)
    (case l10 => k_is)
    (case c10 => k_is)
    (case k10 => k_is)
    (case a11 => k_is)
    (case l11 => k_is)
    (case c11 => k_is)
    (case k11 => k_is)
    (case a12 => k_is)
    (case l12 => k_is)
    (case c12 => k_is)
    (case k12 => k_is)
    (case a13 => k_is)
    (case l13 => k_is)
    (case c13 => k_is)
    (case k13 => k_is)
    (case a14 => k_is)
    (case l14 => k_is)
    (case c14 => k_is)
    (case k14 => k_is)
    (case a15 => k_is)
    (case l15 => k_is)
    (case c15 => k_is)
    (case k15 => k_is)
    (case a16 => k_is)
    (case l16 => k_is)
    (case c16 => k_is)
    (case k16 => k_is)
    (case a17 => k_is)
    (case l17 => k_is)
    (case c17 => k_is)
    (case k17 => k_is)
    (case a18 => k_is)
    (case l18 => k_is)
    (case c18 => k_is)
    (case k18 => k_is)
    (case a19 => k_is)
    (case l19 => k_is)
    (case c19 => k_is)
    (case k19 => k_is)
    (case a20 => k_is)
    (case l20 => k_is)
    (case c20 => k_is)
    (case k20 => k_is)
    (case a21 => k_is)
    (case l21 => k_is)
    (case c21 => k_is)
    (case k21 => k_is)
    (case a22 => k_is)
    (case l22 => k_is)
    (case c22 => k_is)
    (case k22 => k_is)
    (case a23 => k_is)
    (case l23 => k_is)
    (case c23 => k_is)
    (case k23 => k_is)
    (case a24 => k_is)
    (case l24 => k_is)
    (case c24 => k_is)
    (case k24 => k_is)
    (case a25 => k_is)
    (case l25 => k_is)
    (case c25 => k_is)
    (case k25 => k_is)
    (case a26 => k_is)
    (case l26 => k_is)
    (case c26 => k_is)
    (case k26 => k_is)
    (case a27 => k_is)
    (case l27 => k_is)
    (case c27 => k_is)
    (case k27 => k_is)
    (case z1 => k_is)
    (case z2 => k_is)
    (case z3 => k_is)
    (case z4 => k_is)
    (case z5 => k_is)
    (case z6 => k_is)
    (case z7 => k_is)
    (case z8 => k_is)
    (case z9 => k_is)
    (case z10 => k_is)
    (case z11 => k_is)
    (case z12 => k_is)
    (case z13 => k_is)
    (case m1 => k_is)
