import PyProof.Rows.All
import Wide.All
import OpenK.AllK
import Wide.FinOn
import HandS.ForMost
import HandS.ForExc
import HandS.IsInst
import HandS.FStr
import HandS.Wide
import HandS.More
import HandS.SetKeys
import HandS.DictComp
import HandS.TupAny
import HandS.Zip
import HandS.RevRange
import HandS.IterVal
import HandS.ExcInit
import HandS.ExcField
import HandS.ExcIs
import HandS.RaiseMore
import HandS.Conv
import HandS.Walk
import HandS.ExcSuper
import KE.KExcSuper
import KE.KSuper
import HandS.Nested
import KE.GoesEnum
import KE.KExcIs
import HandS.HotCalls
import PySem.Challenge.RW_forkflags_k25_whole_runs_with_cuts
set_option Elab.async false
set_option linter.all false
/-! The plain law: trees, ways, boards, updates. No program here. -/
namespace FK

inductive Tr (α : Type) where
  | leaf (a : α)
  | node (l r : Tr α)

section
variable {α : Type}

def Tr.leaves : Tr α → List α
  | .leaf a => [a]
  | .node l r => l.leaves ++ r.leaves
/-- name and way, left to right, ahead of p -/
def Tr.ways : Tr α → List Bool → List (α × List Bool)
  | .leaf a, p => [(a, p)]
  | .node l r, p => l.ways (p ++ [false]) ++ r.ways (p ++ [true])
def Tr.forks : Tr α → List Bool → List (List Bool)
  | .leaf _, _ => []
  | .node l r, p => p :: (l.forks (p ++ [false]) ++ r.forks (p ++ [true]))
/-- place and subtree, a subtree ahead of its parts -/
def Tr.subs : Tr α → List Bool → List (List Bool × Tr α)
  | .leaf a, p => [(p, .leaf a)]
  | .node l r, p => (p, .node l r) :: (l.subs (p ++ [false]) ++ r.subs (p ++ [true]))
def Tr.isLeaf : Tr α → Bool
  | .leaf _ => true
  | .node _ _ => false
def Tr.depth : Tr α → Nat
  | .leaf _ => 0
  | .node l r => max l.depth r.depth + 1
/-- who is told by boards b, from the place p -/
def Tr.tell (b : List Bool → Bool) : Tr α → List Bool → α
  | .leaf a, _ => a
  | .node l r, p => if b p then r.tell b (p ++ [true]) else l.tell b (p ++ [false])

theorem ways_fst (t : Tr α) : ∀ p, (t.ways p).map (·.1) = t.leaves := by
  induction t with
  | leaf a => intro p; rfl
  | node l r hl hr => intro p; simp [Tr.ways, Tr.leaves, hl, hr]
theorem leaves_pos (t : Tr α) : 0 < t.leaves.length := by
  induction t with
  | leaf a => simp [Tr.leaves]
  | node l r hl hr => simp only [Tr.leaves, List.length_append]; omega
theorem depth_leaves (t : Tr α) : t.depth + 1 ≤ t.leaves.length := by
  induction t with
  | leaf a => simp [Tr.leaves, Tr.depth]
  | node l r hl hr =>
    have := leaves_pos l
    have := leaves_pos r
    simp only [Tr.leaves, Tr.depth, List.length_append]; omega
theorem way_pre (t : Tr α) : ∀ (p : List Bool) (a : α) (w : List Bool), (a, w) ∈ t.ways p → ∃ v, w = p ++ v ∧ v.length ≤ t.depth := by
  induction t with
  | leaf a =>
    intro p b w h
    simp [Tr.ways] at h
    exact ⟨[], by simp [h.2], by simp⟩
  | node l r hl hr =>
    intro p b w h
    rcases List.mem_append.mp h with h | h
    · obtain ⟨v, e, hv⟩ := hl _ _ _ h
      exact ⟨false :: v, by simp [e], by simp only [List.length_cons, Tr.depth]; omega⟩
    · obtain ⟨v, e, hv⟩ := hr _ _ _ h
      exact ⟨true :: v, by simp [e], by simp only [List.length_cons, Tr.depth]; omega⟩
theorem fork_pre (t : Tr α) : ∀ (p f : List Bool), f ∈ t.forks p → ∃ v, f = p ++ v := by
  induction t with
  | leaf a => intro p f h; simp [Tr.forks] at h
  | node l r hl hr =>
    intro p f h
    rcases List.mem_cons.mp h with h | h
    · exact ⟨[], by simp [h]⟩
    rcases List.mem_append.mp h with h | h
    · obtain ⟨v, e⟩ := hl _ _ h
      exact ⟨false :: v, by simp [e]⟩
    · obtain ⟨v, e⟩ := hr _ _ h
      exact ⟨true :: v, by simp [e]⟩
theorem app_ne {p : List Bool} {v v' : List Bool} : p ++ [false] ++ v ≠ p ++ [true] ++ v' := by
  intro h
  rw [List.append_assoc, List.append_assoc] at h
  have := List.append_cancel_left h
  simp at this
/-- a fork is a proper beginning of some way -/
theorem fork_way (t : Tr α) : ∀ (p f : List Bool), f ∈ t.forks p → ∃ a w k, (a, w) ∈ t.ways p ∧ k < w.length ∧ w.take k = f := by
  induction t with
  | leaf a => intro p f h; simp [Tr.forks] at h
  | node l r hl hr =>
    intro p f h
    rcases List.mem_cons.mp h with h | h
    · subst h
      have hx : ∃ x, x ∈ l.ways (f ++ [false]) := by
        cases e : l.ways (f ++ [false]) with
        | nil =>
          have := leaves_pos l
          rw [← ways_fst l (f ++ [false]), e] at this
          simp at this
        | cons x r => exact ⟨x, by simp⟩
      obtain ⟨⟨a, w⟩, hx⟩ := hx
      obtain ⟨v, e, _⟩ := way_pre l _ _ _ hx
      refine ⟨a, w, f.length, List.mem_append_left _ hx, ?_, ?_⟩
      · rw [e]; simp only [List.length_append, List.length_cons, List.length_nil]; omega
      · rw [e, List.append_assoc, List.take_left]
    rcases List.mem_append.mp h with h | h
    · obtain ⟨a, w, k, h1, h2, h3⟩ := hl _ _ h
      exact ⟨a, w, k, List.mem_append_left _ h1, h2, h3⟩
    · obtain ⟨a, w, k, h1, h2, h3⟩ := hr _ _ h
      exact ⟨a, w, k, List.mem_append_right _ h1, h2, h3⟩
/-- the beginnings of a way, from p on, are forks -/
theorem way_fork (t : Tr α) : ∀ (p : List Bool) (a : α) (w : List Bool), (a, w) ∈ t.ways p → ∀ k, p.length ≤ k → k < w.length → w.take k ∈ t.forks p := by
  induction t with
  | leaf a =>
    intro p b w h k h1 h2
    simp [Tr.ways] at h
    rw [h.2] at h2
    omega
  | node l r hl hr =>
    intro p b w h k h1 h2
    by_cases hk : k = p.length
    · have : w.take k = p := by
        rcases List.mem_append.mp h with h | h
        · obtain ⟨v, e, _⟩ := way_pre l _ _ _ h
          rw [hk, e, List.append_assoc, List.take_left]
        · obtain ⟨v, e, _⟩ := way_pre r _ _ _ h
          rw [hk, e, List.append_assoc, List.take_left]
      rw [this]
      exact List.mem_cons_self
    · refine List.mem_cons_of_mem _ ?_
      rcases List.mem_append.mp h with h | h
      · exact List.mem_append_left _ (hl _ _ _ h k (by simp only [List.length_append, List.length_cons, List.length_nil]; omega) h2)
      · exact List.mem_append_right _ (hr _ _ _ h k (by simp only [List.length_append, List.length_cons, List.length_nil]; omega) h2)
/-- a way is no fork -/
theorem way_not_fork (t : Tr α) : ∀ (p : List Bool) (a : α) (w : List Bool), (a, w) ∈ t.ways p → w ∉ t.forks p := by
  induction t with
  | leaf a => intro p b w _ h; simp [Tr.forks] at h
  | node l r hl hr =>
    intro p b w h hf
    rcases List.mem_append.mp h with h | h
    · obtain ⟨v, e, _⟩ := way_pre l _ _ _ h
      rcases List.mem_cons.mp hf with q | q
      · rw [e] at q
        have := congrArg List.length q
        simp only [List.length_append, List.length_cons, List.length_nil] at this
        omega
      rcases List.mem_append.mp q with q | q
      · exact hl _ _ _ h q
      · obtain ⟨v', e'⟩ := fork_pre r _ _ q
        exact app_ne (e.symm.trans e')
    · obtain ⟨v, e, _⟩ := way_pre r _ _ _ h
      rcases List.mem_cons.mp hf with q | q
      · rw [e] at q
        have := congrArg List.length q
        simp only [List.length_append, List.length_cons, List.length_nil] at this
        omega
      rcases List.mem_append.mp q with q | q
      · obtain ⟨v', e'⟩ := fork_pre l _ _ q
        exact app_ne (e'.symm.trans e)
      · exact hr _ _ _ h q
/-- two leaves have two ways -/
theorem way_inj (t : Tr α) : ∀ (p : List Bool) (a b : α) (w : List Bool), (a, w) ∈ t.ways p → (b, w) ∈ t.ways p → a = b := by
  induction t with
  | leaf a => intro p b c w h h'; simp [Tr.ways] at h h'; rw [h.1, h'.1]
  | node l r hl hr =>
    intro p b c w h h'
    rcases List.mem_append.mp h with h | h <;> rcases List.mem_append.mp h' with h' | h'
    · exact hl _ _ _ _ h h'
    · obtain ⟨v, e, _⟩ := way_pre l _ _ _ h
      obtain ⟨v', e', _⟩ := way_pre r _ _ _ h'
      exact absurd (e.symm.trans e') app_ne
    · obtain ⟨v, e, _⟩ := way_pre r _ _ _ h
      obtain ⟨v', e', _⟩ := way_pre l _ _ _ h'
      exact absurd (e'.symm.trans e) app_ne
    · exact hr _ _ _ _ h h'
theorem ways_nodup (t : Tr α) : ∀ (p : List Bool), ((t.ways p).map (·.2)).Nodup := by
  induction t with
  | leaf a => intro p; simp [Tr.ways]
  | node l r hl hr =>
    intro p
    simp only [Tr.ways, List.map_append]
    refine List.nodup_append.mpr ⟨hl _, hr _, fun x hx y hy e => ?_⟩
    obtain ⟨⟨a, w⟩, h1, rfl⟩ := List.mem_map.mp hx
    obtain ⟨⟨b, w'⟩, h2, rfl⟩ := List.mem_map.mp hy
    obtain ⟨v, e1, _⟩ := way_pre l _ _ _ h1
    obtain ⟨v', e2, _⟩ := way_pre r _ _ _ h2
    have e : w = w' := e
    exact app_ne (e1.symm.trans (e.trans e2))
theorem forks_nodup (t : Tr α) : ∀ (p : List Bool), (t.forks p).Nodup := by
  induction t with
  | leaf a => intro p; simp [Tr.forks]
  | node l r hl hr =>
    intro p
    simp only [Tr.forks]
    refine List.nodup_cons.mpr ⟨fun h => ?_, List.nodup_append.mpr ⟨hl _, hr _, fun x hx y hy e => ?_⟩⟩
    · rcases List.mem_append.mp h with h | h
      · obtain ⟨v, e⟩ := fork_pre l _ _ h
        have := congrArg List.length e
        simp only [List.length_append, List.length_cons, List.length_nil] at this
        omega
      · obtain ⟨v, e⟩ := fork_pre r _ _ h
        have := congrArg List.length e
        simp only [List.length_append, List.length_cons, List.length_nil] at this
        omega
    · obtain ⟨v, e1⟩ := fork_pre l _ _ hx
      obtain ⟨v', e2⟩ := fork_pre r _ _ hy
      exact app_ne (e1.symm.trans (e.trans e2))
theorem forks_length (t : Tr α) : ∀ p, (t.forks p).length + 1 = t.leaves.length := by
  induction t with
  | leaf a => intro p; rfl
  | node l r hl hr =>
    intro p
    have h1 := hl (p ++ [false])
    have h2 := hr (p ++ [true])
    simp only [Tr.forks, Tr.leaves, List.length_append, List.length_cons]
    omega

/-! ### who is told -/
/-- all boards on the way lead to the writer -/
theorem tell_way (b : List Bool → Bool) (t : Tr α) : ∀ (p : List Bool) (a : α) (v : List Bool), (a, p ++ v) ∈ t.ways p → (∀ k (h : k < v.length), b (p ++ v.take k) = v[k]) → t.tell b p = a := by
  induction t with
  | leaf a =>
    intro p b' v h _
    simp [Tr.ways] at h
    exact h.1.symm
  | node l r hl hr =>
    intro p a v h hb
    rcases List.mem_append.mp h with h | h
    · obtain ⟨v', e, _⟩ := way_pre l _ _ _ h
      rw [List.append_assoc] at e
      have e := List.append_cancel_left e
      have e : v = false :: v' := e
      subst e
      have h0 := hb 0 (by simp)
      simp at h0
      simp only [Tr.tell, h0, Bool.false_eq_true, if_false]
      refine hl _ a v' (by rw [List.append_assoc]; exact h) fun k hk => ?_
      have := hb (k + 1) (by simp only [List.length_cons]; omega)
      simpa [List.append_assoc] using this
    · obtain ⟨v', e, _⟩ := way_pre r _ _ _ h
      rw [List.append_assoc] at e
      have e := List.append_cancel_left e
      have e : v = true :: v' := e
      subst e
      have h0 := hb 0 (by simp)
      simp at h0
      simp only [Tr.tell, h0, if_true]
      refine hr _ a v' (by rw [List.append_assoc]; exact h) fun k hk => ?_
      have := hb (k + 1) (by simp only [List.length_cons]; omega)
      simpa [List.append_assoc] using this
theorem tell_congr {b b' : List Bool → Bool} (t : Tr α) : ∀ (p : List Bool), (∀ v, b (p ++ v) = b' (p ++ v)) → t.tell b p = t.tell b' p := by
  induction t with
  | leaf a => intro p _; rfl
  | node l r hl hr =>
    intro p h
    have h0 := h []
    rw [List.append_nil] at h0
    simp only [Tr.tell, h0]
    rw [hl (p ++ [false]) fun v => by have := h (false :: v); simpa [List.append_assoc] using this,
      hr (p ++ [true]) fun v => by have := h (true :: v); simpa [List.append_assoc] using this]
theorem tell_mem (b : List Bool → Bool) (t : Tr α) : ∀ p, t.tell b p ∈ t.leaves := by
  induction t with
  | leaf a => intro p; simp [Tr.tell, Tr.leaves]
  | node l r hl hr =>
    intro p
    simp only [Tr.tell, Tr.leaves]
    split
    · exact List.mem_append_right _ (hr _)
    · exact List.mem_append_left _ (hl _)
/-- a wrong board that stays keeps the told writer, whatever happens behind it on the way -/
theorem tell_cut {b b' : List Bool → Bool} (t : Tr α) : ∀ (p : List Bool) (a : α) (v : List Bool) (k0 : Nat) (h0 : k0 < v.length), (a, p ++ v) ∈ t.ways p → b (p ++ v.take k0) ≠ v[k0] →
    (∀ k, k ≤ k0 → b' (p ++ v.take k) = b (p ++ v.take k)) → (∀ f, (∀ k, f ≠ p ++ v.take k) → b' f = b f) → t.tell b' p = t.tell b p := by
  induction t with
  | leaf a => intro p _ v k0 h0 h _ _ _; rfl
  | node l r hl hr =>
    intro p a v k0 h0 h hw hk hf
    have hp : b' p = b p := by have := hk 0 (by omega); simpa using this
    -- the side off the way is untouched
    have off : ∀ (c : Bool) (v' : List Bool), v = c :: v' → ∀ u, b' (p ++ [!c] ++ u) = b (p ++ [!c] ++ u) := fun c v' e u => by
      refine hf _ fun k q => ?_
      rw [List.append_assoc] at q
      have q := List.append_cancel_left q
      rw [e] at q
      cases k with
      | zero => simp at q
      | succ k => cases c <;> simp at q
    have go : ∀ (c : Bool) (t' : Tr α) (v' : List Bool), v = c :: v' → (∀ k0, (h0 : k0 < v'.length) → (a, (p ++ [c]) ++ v') ∈ t'.ways (p ++ [c]) → b ((p ++ [c]) ++ v'.take k0) ≠ v'[k0] →
        (∀ k, k ≤ k0 → b' ((p ++ [c]) ++ v'.take k) = b ((p ++ [c]) ++ v'.take k)) → (∀ f, (∀ k, f ≠ (p ++ [c]) ++ v'.take k) → b' f = b f) → t'.tell b' (p ++ [c]) = t'.tell b (p ++ [c])) →
        (a, p ++ v) ∈ t'.ways (p ++ [c]) → b p = c → t'.tell b' (p ++ [c]) = t'.tell b (p ++ [c]) := by
      intro c t' v' e ih hm hbp
      subst e
      cases k0 with
      | zero => simp [hbp] at hw
      | succ k0 =>
        refine ih k0 (by simp only [List.length_cons] at h0; omega) (by rw [List.append_assoc]; exact hm) (by simpa [List.append_assoc] using hw) (fun k hk' => ?_) (fun f hf' => ?_)
        · have := hk (k + 1) (by omega)
          simpa [List.append_assoc] using this
        · by_cases hfp : f = p
          · rw [hfp]; exact hp
          · refine hf f fun k q => ?_
            cases k with
            | zero => simp at q; exact hfp q
            | succ k => exact hf' k (by rw [q]; simp [List.append_assoc])
    simp only [Tr.tell, hp]
    rcases List.mem_append.mp h with h | h
    · obtain ⟨v', e, _⟩ := way_pre l _ _ _ h
      rw [List.append_assoc] at e
      have e : v = false :: v' := List.append_cancel_left e
      by_cases hbp : b p = true
      · rw [if_pos hbp, if_pos hbp]
        exact tell_congr r _ fun u => off false v' e u
      · rw [if_neg hbp, if_neg hbp]
        refine go false l v' e (fun k0 h0 => hl _ a v' k0 h0) h (by simpa using hbp)
    · obtain ⟨v', e, _⟩ := way_pre r _ _ _ h
      rw [List.append_assoc] at e
      have e : v = true :: v' := List.append_cancel_left e
      by_cases hbp : b p = true
      · rw [if_pos hbp, if_pos hbp]
        exact go true r v' e (fun k0 h0 => hr _ a v' k0 h0) h hbp
      · rw [if_neg hbp, if_neg hbp]
        exact tell_congr l _ fun u => off true v' e u
end

/-! ### cells -/
section
variable {α : Type} [DecidableEq α]
def beg (W : α → List Bool) : List α → α → Nat
  | [], _ => 0
  | b :: r, a => if b = a then 0 else (W b).length + beg W r a
def cellsOf (W : α → List Bool) (names : List α) : List (α × Nat) := names.flatMap fun a => (List.range (W a).length).map fun l => (a, l)
/-- the forks of the cells -/
def cf (W : α → List Bool) (names : List α) : List (List Bool) := (cellsOf W names).map fun c => (W c.1).take c.2
theorem cells_cons (W : α → List Bool) (b : α) (r : List α) : cellsOf W (b :: r) = ((List.range (W b).length).map fun l => (b, l)) ++ cellsOf W r := by
  simp [cellsOf]
theorem cells_at {W : α → List Bool} : ∀ {names : List α} {a : α} {l : Nat}, a ∈ names → l < (W a).length → (cellsOf W names)[beg W names a + l]? = some (a, l)
  | [], _, _, h, _ => by simp at h
  | b :: r, a, l, h, hl => by
    rw [cells_cons]
    unfold beg
    by_cases e : b = a
    · subst e
      rw [if_pos rfl, Nat.zero_add, List.getElem?_append_left (by simpa using hl)]
      simp [hl]
    · rw [if_neg e, List.getElem?_append_right (by simp; omega)]
      have hm : a ∈ r := by
        rcases List.mem_cons.mp h with h | h
        · exact absurd h.symm e
        · exact h
      have := cells_at (W := W) hm hl
      simp only [List.length_map, List.length_range]
      rw [show (W b).length + beg W r a + l - (W b).length = beg W r a + l by omega]
      exact this
theorem cells_inv {W : α → List Bool} : ∀ {names : List α} {a : α} {l i : Nat}, names.Nodup → (cellsOf W names)[i]? = some (a, l) → a ∈ names ∧ l < (W a).length ∧ i = beg W names a + l
  | [], _, _, i, _, h => by simp [cellsOf] at h
  | b :: r, a, l, i, hn, h => by
    rw [cells_cons] at h
    obtain ⟨hb, hn⟩ := List.nodup_cons.mp hn
    by_cases hi : i < (W b).length
    · rw [List.getElem?_append_left (by simpa using hi)] at h
      simp [hi] at h
      obtain ⟨rfl, rfl⟩ := h
      exact ⟨List.mem_cons_self, hi, by simp [beg]⟩
    · rw [List.getElem?_append_right (by simp; omega)] at h
      simp only [List.length_map, List.length_range] at h
      obtain ⟨h1, h2, h3⟩ := cells_inv hn h
      have e : b ≠ a := fun e => hb (e ▸ h1)
      exact ⟨List.mem_cons_of_mem _ h1, h2, by unfold beg; rw [if_neg e]; omega⟩
theorem cf_at {W : α → List Bool} {names : List α} {a : α} {l : Nat} (h : a ∈ names) (hl : l < (W a).length) : (cf W names)[beg W names a + l]? = some ((W a).take l) := by
  unfold cf
  rw [List.getElem?_map, cells_at h hl]
  rfl
theorem cf_length (W : α → List Bool) (names : List α) : (cf W names).length = (cellsOf W names).length := by simp [cf]
theorem beg_lt {W : α → List Bool} {names : List α} {a : α} {l : Nat} (h : a ∈ names) (hl : l < (W a).length) : beg W names a + l < (cf W names).length := (List.getElem?_eq_some_iff.mp (cf_at h hl)).1
/-- the indexes of a writer's own cells -/
theorem own_from {W : α → List Bool} {a : α} : ∀ (names : List α) (n : Nat), names.Nodup → a ∈ names →
    ((cellsOf W names).zipIdx n).filterMap (fun x => if x.1.1 = a then some x.2 else none) = (List.range (W a).length).map fun l => n + beg W names a + l
  | [], _, _, h => by simp at h
  | b :: r, n, hn, h => by
    obtain ⟨hb, hn⟩ := List.nodup_cons.mp hn
    rw [cells_cons, List.zipIdx_append, List.filterMap_append]
    by_cases e : b = a
    · subst e
      have h1 : ((List.map (fun l => (b, l)) (List.range (W b).length)).zipIdx n).filterMap (fun x => if x.1.1 = b then some x.2 else none) = (List.range (W b).length).map fun l => n + l := by
        generalize (W b).length = m
        induction m with
        | zero => simp
        | succ m ih =>
          rw [List.range_succ, List.map_append, List.zipIdx_append, List.filterMap_append, ih]
          simp
      have h2 : ∀ (q : Nat), ((cellsOf W r).zipIdx q).filterMap (fun x => if x.1.1 = b then some x.2 else none) = [] := by
        intro q
        rw [List.filterMap_eq_nil_iff]
        rintro ⟨⟨c, l⟩, i⟩ hx
        have hm : (c, l) ∈ cellsOf W r := List.fst_mem_of_mem_zipIdx hx
        obtain ⟨c', hc', hm⟩ := List.mem_flatMap.mp hm
        obtain ⟨l', _, e⟩ := List.mem_map.mp hm
        have e : c' = c := congrArg Prod.fst e
        subst e
        have : c' ≠ b := fun e => hb (e ▸ hc')
        simp [this]
      rw [h1, h2, List.append_nil]
      simp [beg]
    · have hm : a ∈ r := by
        rcases List.mem_cons.mp h with h | h
        · exact absurd h.symm e
        · exact h
      have h1 : ((List.map (fun l => (b, l)) (List.range (W b).length)).zipIdx n).filterMap (fun x => if x.1.1 = a then some x.2 else none) = [] := by
        rw [List.filterMap_eq_nil_iff]
        rintro ⟨⟨c, l⟩, i⟩ hx
        have hm : (c, l) ∈ List.map (fun l => (b, l)) (List.range (W b).length) := List.fst_mem_of_mem_zipIdx hx
        obtain ⟨l', _, e'⟩ := List.mem_map.mp hm
        have e' : b = c := congrArg Prod.fst e'
        subst e'
        simp [e]
      rw [h1, List.nil_append, own_from r _ hn hm]
      have eb : beg W (b :: r) a = (W b).length + beg W r a := if_neg e
      rw [eb]
      simp only [List.length_map, List.length_range]
      refine List.map_congr_left fun l _ => ?_
      omega
end

/-! ### flags of a fork, boards -/
section
variable {F : Type} [DecidableEq F]
def idxF : Nat → List F → F → List Nat
  | _, [], _ => []
  | n, c :: cs, f => if c = f then n :: idxF (n + 1) cs f else idxF (n + 1) cs f
def sumAt : List F → List Int → F → Int
  | c :: cs, m :: ms, f => (if c = f then m else 0) + sumAt cs ms f
  | _, _, _ => 0
theorem idx_snoc (g f : F) : ∀ (cs : List F) (n : Nat), idxF n (cs ++ [g]) f = idxF n cs f ++ (if g = f then [n + cs.length] else [])
  | [], n => by
    simp only [List.nil_append, idxF]
    split <;> simp
  | c :: cs, n => by
    simp only [List.cons_append, idxF]
    have ih := idx_snoc g f cs (n + 1)
    split
    · rw [ih]; simp only [List.cons_append, List.length_cons, Nat.add_assoc, Nat.add_comm 1]
    · rw [ih]; simp only [List.length_cons, Nat.add_assoc, Nat.add_comm 1]
theorem idx_lt (f : F) : ∀ (cs : List F) (n i : Nat), i ∈ idxF n cs f → n ≤ i ∧ i < n + cs.length
  | [], n, i, h => by simp [idxF] at h
  | c :: cs, n, i, h => by
    simp only [idxF] at h
    simp only [List.length_cons]
    split at h
    · rcases List.mem_cons.mp h with h | h
      · omega
      · have := idx_lt f cs (n + 1) i h; omega
    · have := idx_lt f cs (n + 1) i h; omega
theorem idx_length (f : F) : ∀ (cs : List F) (n : Nat), (idxF n cs f).length ≤ cs.length
  | [], n => by simp [idxF]
  | c :: cs, n => by
    have := idx_length f cs (n + 1)
    simp only [idxF, List.length_cons]
    split
    · simp only [List.length_cons]; omega
    · omega
theorem idx_none (f : F) : ∀ (cs : List F) (n : Nat), f ∉ cs → idxF n cs f = []
  | [], n, _ => rfl
  | c :: cs, n, h => by
    simp only [List.mem_cons, not_or] at h
    simp only [idxF, if_neg (Ne.symm h.1)]
    exact idx_none f cs _ h.2
theorem idx_sum (st : List Int) (f : F) : ∀ (cs : List F) (n : Nat), ((idxF n cs f).map fun i => st.getD i 0).sum = sumAt cs (st.drop n) f
  | [], n => by
    show (0 : Int) = _
    cases st.drop n <;> rfl
  | c :: cs, n => by
    have ih := idx_sum st f cs (n + 1)
    by_cases hn : n < st.length
    · rw [List.drop_eq_getElem_cons hn]
      simp only [idxF, sumAt]
      split
      · simp only [List.map_cons, List.sum_cons, ih]
        simp [List.getD, List.getElem?_eq_getElem hn]
      · rw [ih, Int.zero_add]
    · have e : st.drop n = [] := List.drop_eq_nil_of_le (by omega)
      have e' : st.drop (n + 1) = [] := List.drop_eq_nil_of_le (by omega)
      rw [e'] at ih
      have z : ∀ c : List F, sumAt c [] f = 0 := fun c => by cases c <;> rfl
      rw [z] at ih
      rw [e, z]
      simp only [idxF]
      split
      · simp only [List.map_cons, List.sum_cons, ih]
        simp [List.getD, List.getElem?_eq_none (show st.length ≤ n by omega)]
      · exact ih
theorem sumAt_set (f : F) : ∀ (cs : List F) (st : List Int) (i : Nat) (v : Int), i < st.length → sumAt cs (st.set i v) f = sumAt cs st f + (if cs[i]? = some f then v - st.getD i 0 else 0)
  | [], st, i, v, h => by cases st <;> simp [sumAt]
  | c :: cs, [], i, v, h => by simp at h
  | c :: cs, m :: ms, 0, v, h => by
    simp only [List.set_cons_zero, sumAt, List.getElem?_cons_zero, Option.some.injEq, List.getD_cons_zero]
    split <;> omega
  | c :: cs, m :: ms, i + 1, v, h => by
    have ih := sumAt_set f cs ms i v (by simpa using h)
    simp only [List.set_cons_succ, sumAt, List.getElem?_cons_succ, List.getD_cons_succ]
    rw [ih]
    omega
/-- the board of a fork -/
def brd (cs : List F) (st : List Int) (f : F) : Bool := decide (sumAt cs st f % 2 = 1)
def Marks (st : List Int) : Prop := ∀ m ∈ st, m = 0 ∨ m = 1
theorem Marks.at {st : List Int} (h : Marks st) (i : Nat) : st.getD i 0 = 0 ∨ st.getD i 0 = 1 := by
  by_cases hi : i < st.length
  · have := h _ (List.getElem_mem hi)
    simpa [List.getD, List.getElem?_eq_getElem hi] using this
  · left
    simp [List.getD, List.getElem?_eq_none (show st.length ≤ i by omega)]
theorem Marks.set {st : List Int} (h : Marks st) (i : Nat) {v : Int} (hv : v = 0 ∨ v = 1) : Marks (st.set i v) := fun m hm => by
  rcases List.mem_or_eq_of_mem_set hm with q | q
  · exact h m q
  · rw [q]; exact hv
theorem brd_flip {cs : List F} {st : List Int} {i : Nat} {g : F} (hm : Marks st) (hi : i < st.length) (hg : cs[i]? = some g) (f : F) :
    brd cs (st.set i (1 - st.getD i 0)) f = if g = f then !brd cs st f else brd cs st f := by
  unfold brd
  rw [sumAt_set f cs st i _ hi, hg]
  have := hm.at i
  by_cases e : g = f
  · rw [if_pos (by rw [e]), if_pos e]
    rw [← decide_not]
    refine decide_eq_decide.mpr ?_
    omega
  · rw [if_neg (by simpa using e), if_neg e, Int.add_zero]
/-- the state behind a list of turns -/
def after (st : List Int) (row : List (Nat × Int)) : List Int := row.foldl (fun s t => s.set t.1 t.2) st
theorem after_length : ∀ (row : List (Nat × Int)) (st : List Int), (after st row).length = st.length
  | [], st => rfl
  | t :: r, st => by
    show (after (st.set t.1 t.2) r).length = _
    rw [after_length r]; simp
theorem after_marks : ∀ (row : List (Nat × Int)) (st : List Int), Marks st → (∀ t ∈ row, t.2 = 0 ∨ t.2 = 1) → Marks (after st row)
  | [], st, h, _ => h
  | t :: r, st, h, hr => after_marks r _ (h.set _ (hr t List.mem_cons_self)) fun t' ht => hr t' (List.mem_cons_of_mem _ ht)
/-- own flags turned, each one once -/
theorem brd_after {cs : List F} {B : Nat} {nm : Nat → F} (val : Nat → Int) : ∀ (L : List Nat) (st : List Int), L.Nodup → Marks st → (∀ k ∈ L, B + k < st.length ∧ cs[B + k]? = some (nm k) ∧ val k = 1 - st.getD (B + k) 0) →
    (∀ k ∈ L, ∀ k' ∈ L, nm k = nm k' → k = k') → ∀ f, brd cs (after st (L.map fun k => (B + k, val k))) f = if (∃ k ∈ L, nm k = f) then !brd cs st f else brd cs st f
  | [], st, _, _, _, _, f => by simp [after]
  | k :: L, st, hn, hm, hk, hi, f => by
    obtain ⟨hn1, hn2⟩ := List.nodup_cons.mp hn
    obtain ⟨a1, a2, a3⟩ := hk k List.mem_cons_self
    show brd cs (after (st.set (B + k) (val k)) (L.map fun k => (B + k, val k))) f = _
    have hv : val k = 0 ∨ val k = 1 := by
      have := hm.at (B + k)
      omega
    rw [brd_after val L (st.set (B + k) (val k)) hn2 (hm.set _ hv) (fun j hj => ?_) (fun j hj j' hj' => hi j (List.mem_cons_of_mem _ hj) j' (List.mem_cons_of_mem _ hj')) f]
    · have e := brd_flip hm a1 a2 f
      rw [← a3] at e
      rw [e]
      by_cases h : nm k = f
      · have n : ¬ ∃ j ∈ L, nm j = f := fun ⟨j, hj, e⟩ => hn1 ((hi k List.mem_cons_self j (List.mem_cons_of_mem _ hj) (h.trans e.symm)) ▸ hj)
        rw [if_neg n, if_pos h, if_pos ⟨k, List.mem_cons_self, h⟩]
      · rw [if_neg h]
        by_cases hex : ∃ j ∈ L, nm j = f
        · rw [if_pos hex, if_pos (by obtain ⟨j, hj, e⟩ := hex; exact ⟨j, List.mem_cons_of_mem _ hj, e⟩)]
        · have n2 : ¬ ∃ j ∈ k :: L, nm j = f := by
            rintro ⟨j, hj, e2⟩
            rcases List.mem_cons.mp hj with q | hj
            · exact h (q ▸ e2)
            · exact hex ⟨j, hj, e2⟩
          rw [if_neg hex, if_neg n2]
    · obtain ⟨b1, b2, b3⟩ := hk j (List.mem_cons_of_mem _ hj)
      have ne : k ≠ j := fun e => hn1 (e ▸ hj)
      refine ⟨by simpa using b1, b2, ?_⟩
      rw [b3]
      simp [List.getD, List.getElem?_set_ne (show B + k ≠ B + j by omega)]
end

/-! ### an update -/
def wrong (b : List Bool → Bool) (w : List Bool) : List Nat := (List.range w.length).reverse.filter fun k => decide (b (w.take k) ≠ w.getD k false)
theorem wrong_mem {b : List Bool → Bool} {w : List Bool} {k : Nat} : k ∈ wrong b w ↔ k < w.length ∧ b (w.take k) ≠ w.getD k false := by
  simp [wrong]
theorem wrong_desc (b : List Bool → Bool) (w : List Bool) : (wrong b w).Pairwise (· > ·) := by
  unfold wrong
  refine List.Pairwise.filter _ ?_
  rw [List.pairwise_reverse]
  exact List.pairwise_lt_range
theorem wrong_nodup (b : List Bool → Bool) (w : List Bool) : (wrong b w).Nodup := (wrong_desc b w).imp fun h => by omega
theorem take_inj {w : List Bool} {k k' : Nat} (h : k < w.length) (h' : k' < w.length) (e : w.take k = w.take k') : k = k' := by
  have := congrArg List.length e
  simp only [List.length_take] at this
  omega
section
variable {α : Type} [DecidableEq α]
/-- the turns of an update of a -/
def turnsOf (W : α → List Bool) (names : List α) (st : List Int) (a : α) : List (Nat × Int) :=
  (wrong (brd (cf W names) st) (W a)).map fun k => (beg W names a + k, 1 - st.getD (beg W names a + k) 0)
theorem turns_mark {W : α → List Bool} {names : List α} {st : List Int} {a : α} (hm : Marks st) : ∀ t ∈ turnsOf W names st a, t.2 = 0 ∨ t.2 = 1 := fun t ht => by
  obtain ⟨k, _, rfl⟩ := List.mem_map.mp ht
  have := hm.at (beg W names a + k)
  show 1 - _ = (0 : Int) ∨ 1 - _ = (1 : Int)
  omega
theorem turns_lt {W : α → List Bool} {names : List α} {st : List Int} {a : α} (h : a ∈ names) : ∀ t ∈ turnsOf W names st a, t.1 < (cf W names).length := fun t ht => by
  obtain ⟨k, hk, rfl⟩ := List.mem_map.mp ht
  exact beg_lt h (wrong_mem.mp hk).1
variable {t : Tr α} {W : α → List Bool} {names : List α} {st : List Int} {a : α}
theorem boards_after (hm : Marks st) (hl : st.length = (cf W names).length) (ha : a ∈ names) (d : Nat) (f : List Bool) :
    brd (cf W names) (after st ((turnsOf W names st a).take d)) f = if (∃ k ∈ (wrong (brd (cf W names) st) (W a)).take d, (W a).take k = f) then !brd (cf W names) st f else brd (cf W names) st f := by
  unfold turnsOf
  rw [← List.map_take]
  have sub : ∀ k ∈ (wrong (brd (cf W names) st) (W a)).take d, k < (W a).length := fun k hk => (wrong_mem.mp (List.mem_of_mem_take hk)).1
  refine brd_after (cs := cf W names) (nm := fun k => (W a).take k) (fun k => 1 - st.getD (beg W names a + k) 0) _ st ((wrong_nodup _ _).sublist (List.take_sublist _ _)) hm (fun k hk => ?_) (fun k hk k' hk' e => ?_) f
  · exact ⟨by rw [hl]; exact beg_lt ha (sub k hk), cf_at ha (sub k hk), rfl⟩
  · exact take_inj (sub k hk) (sub k' hk') e
/-- a whole update makes its writer the told one -/
theorem told_whole (hm : Marks st) (hl : st.length = (cf W names).length) (ha : a ∈ names) (hw : (a, W a) ∈ t.ways []) : t.tell (brd (cf W names) (after st (turnsOf W names st a))) [] = a := by
  refine tell_way _ t [] a (W a) (by simpa using hw) fun k hk => ?_
  have h := boards_after (d := (turnsOf W names st a).length) hm hl ha (f := (W a).take k)
  rw [List.take_length] at h
  have e : (turnsOf W names st a).length = (wrong (brd (cf W names) st) (W a)).length := by simp [turnsOf]
  rw [e, List.take_length] at h
  simp only [List.nil_append]
  rw [h]
  have g : (W a).getD k false = (W a)[k] := by simp [List.getD, List.getElem?_eq_getElem hk]
  by_cases hx : ∃ j ∈ wrong (brd (cf W names) st) (W a), (W a).take j = (W a).take k
  · rw [if_pos hx]
    obtain ⟨j, hj, e⟩ := hx
    have hj' := wrong_mem.mp hj
    have := take_inj hj'.1 hk e
    subst this
    have q := hj'.2
    rw [g] at q
    cases h1 : brd (cf W names) st ((W a).take j) <;> cases h2 : (W a)[j] <;> simp_all
  · rw [if_neg hx, ← g]
    by_cases q : brd (cf W names) st ((W a).take k) = (W a).getD k false
    · exact q
    · exact absurd ⟨k, wrong_mem.mpr ⟨hk, q⟩, rfl⟩ hx
/-- an update cut before its last turn leaves the told writer -/
theorem told_cut (hm : Marks st) (hl : st.length = (cf W names).length) (ha : a ∈ names) (hw : (a, W a) ∈ t.ways []) {d : Nat} (hd : d < (turnsOf W names st a).length) :
    t.tell (brd (cf W names) (after st ((turnsOf W names st a).take d))) [] = t.tell (brd (cf W names) st) [] := by
  have e : (turnsOf W names st a).length = (wrong (brd (cf W names) st) (W a)).length := by simp [turnsOf]
  rw [e] at hd
  have hk := wrong_mem.mp (List.getElem_mem hd)
  have big : ∀ j ∈ (wrong (brd (cf W names) st) (W a)).take d, (wrong (brd (cf W names) st) (W a))[d] < j := fun j hj => by
    obtain ⟨i, hi, rfl⟩ := List.mem_iff_getElem.mp hj
    rw [List.getElem_take]
    rw [List.length_take] at hi
    exact List.pairwise_iff_getElem.mp (wrong_desc _ _) i d (by omega) hd (by omega)
  refine tell_cut t [] a (W a) ((wrong (brd (cf W names) st) (W a))[d]) hk.1 (by simpa using hw) ?_ (fun k hk' => ?_) (fun f hf => ?_)
  · have := hk.2
    simpa [List.getD, List.getElem?_eq_getElem hk.1] using this
  · simp only [List.nil_append]
    rw [boards_after hm hl ha, if_neg]
    rintro ⟨j, hj, e⟩
    have hj1 := big j hj
    have hj2 := (wrong_mem.mp (List.mem_of_mem_take hj)).1
    have := take_inj hj2 (by omega) e
    omega
  · rw [boards_after hm hl ha, if_neg]
    rintro ⟨j, hj, e⟩
    exact hf j (by simpa using e.symm)
end

/-! ### events -/
inductive Err (α : Type) where
  | unknown (a : α)
  | event (i : Nat)
abbrev Ev (α : Type) := α × Option Nat
section
variable {α : Type} [DecidableEq α]
/-- the turns that an event makes, or its error -/
def evT (W : α → List Bool) (names : List α) (st : List Int) (e : Ev α) (i : Nat) : Except (Err α) (List (Nat × Int)) :=
  if e.1 ∈ names then
    match e.2 with
    | none => .ok (turnsOf W names st e.1)
    | some d => if (turnsOf W names st e.1).length < d then .error (.event i) else .ok ((turnsOf W names st e.1).take d)
  else .error (.unknown e.1)
def runM (W : α → List Bool) (names : List α) : List Int → List (Ev α) → Nat → Except (Err α) (List Int)
  | st, [], _ => .ok st
  | st, e :: r, i =>
    match evT W names st e i with
    | .error x => .error x
    | .ok row => runM W names (after st row) r (i + 1)
def lastM (W : α → List Bool) (names : List α) : Option α → List Int → List (Ev α) → Nat → Except (Err α) (Option α)
  | acc, _, [], _ => .ok acc
  | acc, st, e :: r, i =>
    match evT W names st e i with
    | .error x => .error x
    | .ok row => lastM W names (if row.length = (turnsOf W names st e.1).length then some e.1 else acc) (after st row) r (i + 1)
/-- what the law makes: events that can be made, their whole writers, the states -/
inductive Chain (W : α → List Bool) (names : List α) : List (Ev α) → List (Option α) → List (List Int) → Prop where
  | nil (st : List Int) : Chain W names [] [] [st]
  | cons {st st' : List Int} {a : α} {d : Option Nat} {row : List (Nat × Int)} {wh : Option α} {evs : List (Ev α)} {whs : List (Option α)} {sts : List (List Int)} :
      a ∈ names → ((wh = some a ∧ row = turnsOf W names st a ∧ (d = none ∨ d = some (turnsOf W names st a).length)) ∨ (∃ k, wh = none ∧ d = some k ∧ k < (turnsOf W names st a).length ∧ row = (turnsOf W names st a).take k)) →
      st' = after st row → Chain W names evs whs (st' :: sts) → Chain W names ((a, d) :: evs) (wh :: whs) (st :: st' :: sts)
variable {W : α → List Bool} {names : List α}
theorem evT_ok {st : List Int} {a : α} {d : Option Nat} {row : List (Nat × Int)} {wh : Option α} (ha : a ∈ names)
    (h : ((wh = some a ∧ row = turnsOf W names st a ∧ (d = none ∨ d = some (turnsOf W names st a).length)) ∨ (∃ k, wh = none ∧ d = some k ∧ k < (turnsOf W names st a).length ∧ row = (turnsOf W names st a).take k))) (i : Nat) :
    evT W names st (a, d) i = .ok row ∧ (wh = some a ∧ row.length = (turnsOf W names st a).length ∨ wh = none ∧ row.length ≠ (turnsOf W names st a).length) := by
  unfold evT
  rw [if_pos ha]
  rcases h with ⟨h1, h2, h3 | h3⟩ | ⟨k, h1, h2, h3, h4⟩
  · subst h3; subst h2
    exact ⟨rfl, .inl ⟨h1, rfl⟩⟩
  · subst h3; subst h2
    exact ⟨by simp, .inl ⟨h1, rfl⟩⟩
  · subst h2; subst h4
    refine ⟨?_, .inr ⟨h1, ?_⟩⟩
    · show (if (turnsOf W names st a).length < k then _ else _) = _
      rw [if_neg (by omega)]
    · rw [List.length_take]; omega
theorem Chain.len : ∀ {evs : List (Ev α)} {whs : List (Option α)} {sts : List (List Int)}, Chain W names evs whs sts → whs.length = evs.length ∧ sts.length = evs.length + 1
  | _, _, _, .nil _ => ⟨rfl, rfl⟩
  | _, _, _, .cons _ _ _ c => by
    have := c.len
    simp only [List.length_cons] at *
    omega
/-- the writer of the last whole event -/
def lastOf : Option α → List (Option α) → Option α
  | acc, [] => acc
  | acc, none :: r => lastOf acc r
  | _, some a :: r => lastOf (some a) r
theorem Chain.run : ∀ {evs : List (Ev α)} {whs : List (Option α)} {sts : List (List Int)} (c : Chain W names evs whs sts) (i : Nat) {st : List Int}, sts[0]? = some st → ∃ en, sts[evs.length]? = some en ∧ runM W names st evs i = .ok en
  | _, _, _, .nil st', i, st, h => ⟨st, h, rfl⟩
  | _, _, _, @Chain.cons _ _ _ _ st0 st' a d row wh evs whs sts ha hd hs c, i, st, h => by
    have e : st0 = st := by simpa using h
    subst e
    obtain ⟨en, h1, h2⟩ := c.run (i + 1) (st := st') rfl
    refine ⟨en, by simpa using h1, ?_⟩
    unfold runM
    rw [(evT_ok ha hd i).1]
    subst hs
    exact h2
theorem Chain.last : ∀ {evs : List (Ev α)} {whs : List (Option α)} {sts : List (List Int)} (c : Chain W names evs whs sts) (acc : Option α) (i : Nat) {st : List Int}, sts[0]? = some st → lastM W names acc st evs i = .ok (lastOf acc whs)
  | _, _, _, .nil st', acc, i, st, h => rfl
  | _, _, _, @Chain.cons _ _ _ _ st0 st' a d row wh evs whs sts ha hd hs c, acc, i, st, h => by
    have e : st0 = st := by simpa using h
    subst e
    have hx := evT_ok ha hd i
    unfold lastM
    rw [hx.1]
    subst hs
    rcases hx.2 with ⟨h1, h2⟩ | ⟨h1, h2⟩
    · subst h1
      show lastM W names (if _ then _ else _) _ _ _ = _
      rw [if_pos h2, c.last (some a) (i + 1) rfl]
      rfl
    · subst h1
      show lastM W names (if _ then _ else _) _ _ _ = _
      rw [if_neg h2, c.last acc (i + 1) rfl]
      rfl
theorem Chain.told {t : Tr α} (hw : ∀ a ∈ names, (a, W a) ∈ t.ways []) : ∀ {evs : List (Ev α)} {whs : List (Option α)} {sts : List (List Int)} (c : Chain W names evs whs sts) {st en : List Int} (acc : Option α), Marks st → st.length = (cf W names).length → sts[0]? = some st →
    sts[evs.length]? = some en → (∀ a, acc = some a → t.tell (brd (cf W names) st) [] = a) → Marks en ∧ en.length = (cf W names).length ∧ t.tell (brd (cf W names) en) [] = (lastOf acc whs).getD (t.tell (brd (cf W names) st) [])
  | _, _, _, .nil st', st, en, acc, hm, hl, h, h', hacc => by
    have e : st = en := Option.some.inj (h.symm.trans h')
    subst e
    refine ⟨hm, hl, ?_⟩
    cases acc with
    | none => rfl
    | some a => exact hacc a rfl
  | _, _, _, @Chain.cons _ _ _ _ st0 st' a d row wh evs whs sts ha hd hs c, st, en, acc, hm, hl, h, h', hacc => by
    have e : st0 = st := by simpa using h
    subst e
    have hrow : ∃ k, row = (turnsOf W names st0 a).take k := by
      rcases hd with ⟨_, h2, _⟩ | ⟨k, _, _, _, h4⟩
      · exact ⟨(turnsOf W names st0 a).length, by rw [h2, List.take_length]⟩
      · exact ⟨k, h4⟩
    have hm' : Marks st' := by
      obtain ⟨k, e⟩ := hrow
      subst hs
      rw [e]
      exact after_marks _ _ hm fun t ht => turns_mark hm t (List.mem_of_mem_take ht)
    have hl' : st'.length = (cf W names).length := by subst hs; rw [after_length]; exact hl
    have h'' : (st' :: sts)[evs.length]? = some en := by simpa using h'
    rcases hd with ⟨h1, h2, _⟩ | ⟨k, h1, h2, h3, h4⟩
    · subst h1; subst h2
      have tw : t.tell (brd (cf W names) st') [] = a := by subst hs; exact told_whole hm hl ha (hw a ha)
      obtain ⟨x1, x2, x3⟩ := c.told hw (st := st') (some a) hm' hl' rfl h'' (fun b e => by cases e; exact tw)
      refine ⟨x1, x2, x3.trans ?_⟩
      show (lastOf (some a) whs).getD _ = (lastOf (some a) whs).getD _
      have : ∀ (l : List (Option α)) (b : α), ∃ c, lastOf (some b) l = some c := by
        intro l
        induction l with
        | nil => intro b; exact ⟨b, rfl⟩
        | cons o r ih =>
          intro b
          cases o with
          | none => exact ih b
          | some c => exact ih c
      obtain ⟨c', e⟩ := this whs a
      rw [e]; rfl
    · subst h1; subst h4
      have tc : t.tell (brd (cf W names) st') [] = t.tell (brd (cf W names) st0) [] := by subst hs; exact told_cut hm hl ha (hw a ha) h3
      obtain ⟨x1, x2, x3⟩ := c.told hw (st := st') acc hm' hl' rfl h'' (fun b e => tc.trans (hacc b e))
      refine ⟨x1, x2, x3.trans ?_⟩
      rw [tc]
      rfl
theorem Chain.take : ∀ {evs : List (Ev α)} {whs : List (Option α)} {sts : List (List Int)} (c : Chain W names evs whs sts) (k : Nat), k ≤ evs.length → Chain W names (evs.take k) (whs.take k) (sts.take (k + 1))
  | _, _, _, .nil st, k, h => by
    have : k = 0 := by simpa using h
    subst this
    exact .nil st
  | _, _, _, @Chain.cons _ _ _ _ st0 st' a d row wh evs whs sts ha hd hs c, 0, h => .nil st0
  | _, _, _, @Chain.cons _ _ _ _ st0 st' a d row wh evs whs sts ha hd hs c, k + 1, h => by
    have := c.take k (by simpa using h)
    exact .cons ha hd hs this
theorem Chain.drop : ∀ {evs : List (Ev α)} {whs : List (Option α)} {sts : List (List Int)} (c : Chain W names evs whs sts) (k : Nat), k ≤ evs.length → Chain W names (evs.drop k) (whs.drop k) (sts.drop k)
  | _, _, _, .nil st, k, h => by
    have : k = 0 := by simpa using h
    subst this
    exact .nil st
  | _, _, _, @Chain.cons _ _ _ _ st0 st' a d row wh evs whs sts ha hd hs c, 0, h => .cons ha hd hs c
  | _, _, _, @Chain.cons _ _ _ _ st0 st' a d row wh evs whs sts ha hd hs c, k + 1, h => by
    have := c.drop k (by simpa using h)
    exact this
theorem Chain.snoc : ∀ {evs : List (Ev α)} {whs : List (Option α)} {sts : List (List Int)} (c : Chain W names evs whs sts) {st st' : List Int} {a : α} {d : Option Nat} {row : List (Nat × Int)} {wh : Option α}, sts[evs.length]? = some st → a ∈ names →
      ((wh = some a ∧ row = turnsOf W names st a ∧ (d = none ∨ d = some (turnsOf W names st a).length)) ∨ (∃ k, wh = none ∧ d = some k ∧ k < (turnsOf W names st a).length ∧ row = (turnsOf W names st a).take k)) →
      st' = after st row → Chain W names (evs ++ [(a, d)]) (whs ++ [wh]) (sts ++ [st'])
  | _, _, _, .nil st0, st, st', a, d, row, wh, h, ha, hd, hs => by
    have e : st0 = st := by simpa using h
    subst e
    exact .cons ha hd hs (.nil st')
  | _, _, _, @Chain.cons _ _ _ _ st0 st1 a1 d1 row1 wh1 evs whs sts ha1 hd1 hs1 c, st, st', a, d, row, wh, h, ha, hd, hs => by
    have := c.snoc (by simpa using h) ha hd hs
    exact .cons ha1 hd1 hs1 this
/-- events that can be made, then one that cannot -/
theorem Chain.bad : ∀ {evs : List (Ev α)} {whs : List (Option α)} {sts : List (List Int)} (c : Chain W names evs whs sts) (i : Nat) {st en : List Int} {bad : Ev α} {x : Err α} (more : List (Ev α)), sts[0]? = some st → sts[evs.length]? = some en →
    evT W names en bad (i + evs.length) = .error x → runM W names st (evs ++ bad :: more) i = .error x ∧ ∀ acc, lastM W names acc st (evs ++ bad :: more) i = .error x
  | _, _, _, .nil st', i, st, en, bad, x, more, h, h', hx => by
    have e : st = en := Option.some.inj (h.symm.trans h')
    subst e
    have hx : evT W names st bad i = .error x := hx
    refine ⟨?_, fun acc => ?_⟩
    · show runM W names st (bad :: more) i = _
      unfold runM
      rw [hx]
    · show lastM W names acc st (bad :: more) i = _
      unfold lastM
      rw [hx]
  | _, _, _, @Chain.cons _ _ _ _ st0 st' a d row wh evs whs sts ha hd hs c, i, st, en, bad, x, more, h, h', hx => by
    have e : st0 = st := by simpa using h
    subst e
    have hq := c.bad (i + 1) (st := st') (en := en) (bad := bad) (x := x) more rfl (by simpa using h') (by simp only [List.length_cons] at hx; rw [show i + 1 + evs.length = i + (evs.length + 1) by omega]; exact hx)
    have hy := (evT_ok ha hd i).1
    subst hs
    refine ⟨?_, fun acc => ?_⟩
    · show runM W names st0 ((a, d) :: (evs ++ bad :: more)) i = _
      unfold runM
      rw [hy]
      exact hq.1
    · show lastM W names acc st0 ((a, d) :: (evs ++ bad :: more)) i = _
      unfold lastM
      rw [hy]
      exact hq.2 _
end
end FK
set_option Elab.async false
set_option linter.all false
set_option maxRecDepth 100000
set_option maxHeartbeats 4000000
/-! The text by places, what a def is behind the top, calls by a def's name. -/
namespace FK
open PySem PySem.Spec PyProof.Rows L2
def topS (i : Nat) : Stmt := PySem.Challenge.pw_forkflags_k25_whole_runs_with_cuts.main.body.getD i (.Pass ⟨0, 0, 0, 0⟩)
/-- a def of the top -/
structure DefAt (K : PySem.W.Frag) (mg : Str → Option Value) (x : Str) (st : Stmt) (ps : List Str) : Prop where
  ex : ∃ (f : Addr) (fd : FuncData), mg x = some (.ref f) ∧ Fun K x x st f fd ∧ Binds K fd ps []
/-- a method of the class at C -/
structure MethAt (K : PySem.W.Frag) (C : Addr) (m qual : Str) (st : Stmt) (ps : List Str) : Prop where
  ex : ∃ (f : Addr) (fd : FuncData), Meth K C m f ∧ Fun K m qual st f fd ∧ Binds K fd ps []
/-- the def x keeps the promise sp -/
def FnB (P : Program) (w : World) (K : PySem.W.Frag) (mg : Str → Option Value) (base : Heap) (CX : CXT) (k : Nat) (x : Str) (sp : Sp) : Prop :=
  ∃ (f : Addr) (fd : FuncData) (ps : List Str), mg x = some (.ref f) ∧ PySem.W.keepIn K (.ref f) = true ∧ FnOk P w K mg base CX k f fd ps sp ∧ Binds K fd ps []
/-- the method m of the class at C keeps the promise sp -/
def FnM (P : Program) (w : World) (K : PySem.W.Frag) (mg : Str → Option Value) (base : Heap) (CX : CXT) (k : Nat) (C : Addr) (m : Str) (sp : Sp) : Prop :=
  ∃ (f : Addr) (fd : FuncData) (ps : List Str), Meth K C m f ∧ FnOk P w K mg base CX k f fd ps sp ∧ Binds K fd ps []
section
variable {P : Program} {w : World} {K : PySem.W.Frag} {mg : Str → Option Value} {base : Heap} {CX : CXT} {k : Nat} {C : Addr} {x m qual : Str} {sp : Sp} {st : Stmt} {ps N : List Str}
theorem FnB.mono {j : Nat} (F : FnB P w K mg base CX j x sp) (h : j ≤ k) : FnB P w K mg base CX k x sp := by
  obtain ⟨f, fd, ps, h1, h2, h3, h4⟩ := F
  exact ⟨f, fd, ps, h1, h2, h3.mono h, h4⟩
theorem FnM.mono {j : Nat} (F : FnM P w K mg base CX j C m sp) (h : j ≤ k) : FnM P w K mg base CX k C m sp := by
  obtain ⟨f, fd, ps, h1, h3, h4⟩ := F
  exact ⟨f, fd, ps, h1, h3.mono h, h4⟩
theorem FnB.imp {sp' : Sp} (F : FnB P w K mg base CX k x sp) (h : ∀ vs H Q E, sp' vs H Q E → sp vs H Q E) : FnB P w K mg base CX k x sp' := by
  obtain ⟨f, fd, ps, h1, h2, h3, h4⟩ := F
  exact ⟨f, fd, ps, h1, h2, h3.imp h, h4⟩
theorem DefAt.ok (D : DefAt K mg x st ps) (S : FnScope N ps (defScope st)) (len : ∀ vs H Q E, sp vs H Q E → vs.length = ps.length)
    (hbody : ∀ (f : Addr) (cdv : Value) (A : Around) (outer : List Env) (s : Shared) (H : Hp) (vs : List V) (Q : VK) (E : XK), Room k (A.deeper (envOfC x (defScope st) s.heap.objs.size f cdv)) → sp vs H Q E →
      ∃ t, PSs (cxOf CX0 P w K mg base N x (defScope st) f cdv A outer s H E).nox (defBody st) t ∧ t { nx := fun _ H' => Q .non H', rt := Q } (start N vs) H) : FnB P w K mg base CX0 (k + 1) x sp := by
  obtain ⟨f, fd, h1, h2, h3⟩ := D.ex
  exact ⟨f, fd, ps, h1, h2.kp, h2.ok S len fun cdv A outer s H vs Q E => hbody f cdv A outer s H vs Q E, h3⟩
theorem DefAt.okX (D : DefAt K mg x st ps) (S : FnScope N ps (defScope st)) (len : ∀ vs H Q E, sp vs H Q E → vs.length = ps.length)
    (hbody : ∀ (f : Addr) (cdv : Value) (A : Around) (outer : List Env) (s : Shared) (H : Hp) (vs : List V) (Q : VK) (E : XK), Room k (A.deeper (envOfC x (defScope st) s.heap.objs.size f cdv)) → sp vs H Q E →
      ∃ t, PSs (cxOf (L2.CX P w) P w K mg base N x (defScope st) f cdv A outer s H E) (defBody st) t ∧ t { nx := fun _ H' => Q .non H', rt := Q } (start N vs) H) : FnB P w K mg base (L2.CX P w) (k + 1) x sp := by
  obtain ⟨f, fd, h1, h2, h3⟩ := D.ex
  exact ⟨f, fd, ps, h1, h2.kp, h2.okX S len fun cdv A outer s H vs Q E => hbody f cdv A outer s H vs Q E, h3⟩
theorem MethAt.ok (D : MethAt K C m qual st ps) (S : FnScope N ps (defScope st)) (len : ∀ vs H Q E, sp vs H Q E → vs.length = ps.length)
    (hbody : ∀ (f : Addr) (cdv : Value) (A : Around) (outer : List Env) (s : Shared) (H : Hp) (vs : List V) (Q : VK) (E : XK), Room k (A.deeper (envOfC qual (defScope st) s.heap.objs.size f cdv)) → sp vs H Q E →
      ∃ t, PSs (cxOf CX0 P w K mg base N qual (defScope st) f cdv A outer s H E).nox (defBody st) t ∧ t { nx := fun _ H' => Q .non H', rt := Q } (start N vs) H) : FnM P w K mg base CX0 (k + 1) C m sp := by
  obtain ⟨f, fd, h1, h2, h3⟩ := D.ex
  exact ⟨f, fd, ps, h1, h2.ok S len fun cdv A outer s H vs Q E => hbody f cdv A outer s H vs Q E, h3⟩
theorem MethAt.okX (D : MethAt K C m qual st ps) (S : FnScope N ps (defScope st)) (len : ∀ vs H Q E, sp vs H Q E → vs.length = ps.length)
    (hbody : ∀ (f : Addr) (cdv : Value) (A : Around) (outer : List Env) (s : Shared) (H : Hp) (vs : List V) (Q : VK) (E : XK), Room k (A.deeper (envOfC qual (defScope st) s.heap.objs.size f cdv)) → sp vs H Q E →
      ∃ t, PSs (cxOf (L2.CX P w) P w K mg base N qual (defScope st) f cdv A outer s H E) (defBody st) t ∧ t { nx := fun _ H' => Q .non H', rt := Q } (start N vs) H) : FnM P w K mg base (L2.CX P w) (k + 1) C m sp := by
  obtain ⟨f, fd, h1, h2, h3⟩ := D.ex
  exact ⟨f, fd, ps, h1, h2.okX S len fun cdv A outer s H vs Q E => hbody f cdv A outer s H vs Q E, h3⟩
end
section
variable {X : Cx} {CX : CXT} {k : Nat} {C : Addr} {sp : Sp} {E : XK} {x m : Str} {p pos apos : Pos} {e o : Expr} {es : List Expr} {ta : TE} {t : TA}
theorem pcall (G : FnB X.prog X.w X.K X.mg X.base CX k x sp) (hr : Room k X.A) (hx : Passes CX X E) (ha : PA X (e :: es) t) (hg : Gl X x := by rfl)
    (hdb : (x == ("__debug__" : Str)) = false := by decide) (he : starEach (e :: es) X.env = (false, eval e X.env) :: starEach es X.env := by rfl) (hpl : (backTo pos (starEach es X.env)).any (·.1) = false := by rfl) :
    PE X (.Call (.Name x p) (e :: es) [] pos) (tCall sp [] E t) := by
  obtain ⟨f, fd, ps, h1, h2, h3, h4⟩ := G
  exact pe_call h3 hr hg h1 h2 h4 .nil hx ha hdb he hpl
theorem pmeth {pl : Sem Bool} (G : FnM X.prog X.w X.K X.mg X.base CX k C m sp) (c : Cls X.K C) (hr : Room k X.A) (hx : Passes CX X E) (he : PE X o ta) (ha : PA X (e :: es) t)
    (hst : starEach (e :: es) X.env = (false, eval e X.env) :: starEach es X.env := by rfl) (hpl : (backTo pos (starEach es X.env)).any (·.1) = false := by rfl)
    (ht : eval (.Call (.Attribute o m apos) (e :: es) [] pos) X.env = (do
      let ov ← eval o X.env
      standAt apos.atName
      let (f, first) ← holding [ov] (getMethod ov m pl)
      callWith pos f first (backTo pos (starEach (e :: es) X.env)) (backToKw pos (keywordEach [] X.env))) := by rfl) :
    PE X (.Call (.Attribute o m apos) (e :: es) [] pos) (tMeth C m sp [] E ta t) := by
  obtain ⟨f, fd, ps, h1, h3, h4⟩ := G
  exact pe_meth he c h1 h3 hr h4 .nil hx ha hst hpl ht
end
/-- built-in names stand -/
structure BiOk (mg : Str → Option Value) : Prop where
  isinstance : mg "isinstance" = none
  str : mg "str" = none
  repr : mg "repr" = none
  len : mg "len" = none
  enumerate : mg "enumerate" = none
  tuple : mg "tuple" = none
  list : mg "list" = none
  zip : mg "zip" = none
  sorted : mg "sorted" = none
  range : mg "range" = none
  reversed : mg "reversed" = none
  sum : mg "sum" = none
  int : mg "int" = none
  bool : mg "bool" = none
  max : mg "max" = none
  valueError : mg "ValueError" = none
theorem pgI {X : Cx} {x : Str} {n : Int} {t : Tok} {pos : Pos} (hm : X.mg x = some (.int n t)) (hg : Gl X x := by rfl) (hd : (x == ("__debug__" : Str)) = false := by decide) : PE X (.Name x pos) (tC (.int n)) := pe_glob hg hm ⟨_, rfl⟩ hd
theorem pgS {X : Cx} {x z : Str} {t : Tok} {pos : Pos} (hm : X.mg x = some (.str z t)) (hg : Gl X x := by rfl) (hd : (x == ("__debug__" : Str)) = false := by decide) : PE X (.Name x pos) (tC (.str z)) := pe_glob hg hm ⟨_, rfl⟩ hd
/-- a built-in class as a value -/
theorem pty {X : Cx} {x : Str} {T : String} {pos : Pos} (hm : X.mg x = none) (hv : bootBuiltins x = some (.type T)) (hg : Gl X x := by rfl) (hn : x ≠ "__name__" := by decide) (hd : (x == ("__debug__" : Str)) = false := by decide) : PE X (.Name x pos) (tC (.ty T)) := pe_bltn hg hm hv rfl hn hd
/-- isinstance(e, T) -/
theorem pisi {X : Cx} {e : Expr} {te : TE} {x : Str} (T : String) {p pos pos2 : Pos} (B : BiOk X.mg) (he : PE X e te) (hm : X.mg x = none) (hv : bootBuiltins x = some (.type T)) (hg : Gl X x := by rfl) (hg2 : Gl X "isinstance" := by rfl) (hn : x ≠ "__name__" := by decide) (hd : (x == ("__debug__" : Str)) = false := by decide)
    (hst : starEach (e :: [.Name x p]) X.env = (false, eval e X.env) :: starEach [.Name x p] X.env := by rfl) (hpl : (backTo pos (starEach [.Name x p] X.env)).any (·.1) = false := by rfl) :
    PE X (.Call (.Name "isinstance" pos2) [e, .Name x p] [] pos) (tCB (rIsi X.K) (tCons te (tCons (tC (.ty T)) tNil))) :=
  pe_callB call_isi hg2 B.isinstance (by decide +kernel) (pa_cons he (pa_cons (pty hm hv hg hn hd) pa_nil) hst) (by decide) (by decide) hst hpl
/-- the alphabet -/
abbrev abc : Str := "abcdefghijklmnopqrstuvwxyz"
/-- a name: 1 to 8 letters -/
def NameOk (z : Str) : Prop := 1 ≤ z.length ∧ z.length ≤ 8 ∧ ∀ c ∈ z.cps.toList, c ∈ abc.cps.toList
theorem if_t {b : Bool} {A B : Prop} (h : b = true) (a : A) : if b = true then A else B := by rw [if_pos h]; exact a
theorem if_f {b : Bool} {A B : Prop} (h : b = false) (a : B) : if b = true then A else B := by rw [if_neg (by rw [h]; decide)]; exact a
/-- the classes' addresses -/
structure Cs where
  plan : Addr
  fork : Addr
  err : Addr
  eState : Addr
  eWriter : Addr
  eEvent : Addr
  eTurns : Addr
/-- what of the top the plain defs need -/
structure Txt (K : PySem.W.Frag) (mg : Str → Option Value) : Prop where
  b : BiOk mg
  letters : ∃ t, mg "_LETTERS" = some (.str abc t)
  most : ∃ t, mg "_MOST_LETTERS" = some (.int 8 t)
  leafs : ∃ t, mg "LEAF_LIMIT" = some (.int 12 t)
  dShown : DefAt K mg "_shown" (topS 2) ["value"]
  dEventTurns : DefAt K mg "event_turns" (topS 11) ["plan", "state", "event", "index"]
  dRun : DefAt K mg "run" (topS 12) ["plan", "state", "events"]
  dLast : DefAt K mg "last_whole" (topS 13) ["plan", "state", "events"]
  dIsName : DefAt K mg "is_name" (topS 17) ["value"]
  dIsTree : DefAt K mg "is_tree" (topS 20) ["value"]
  dCheckTree : DefAt K mg "check_tree" (topS 21) ["tree"]
  dSubs : DefAt K mg "subtrees_of" (topS 22) ["tree"]
  dWays : DefAt K mg "ways_of" (topS 23) ["tree"]
  dForks : DefAt K mg "forks_of" (topS 24) ["tree"]
  dFormat : DefAt K mg "format_tree" (topS 26) ["tree"]
  dSpelled : DefAt K mg "_spelled" (topS 27) ["tree"]
  dIsBelow : DefAt K mg "is_below" (topS 29) ["value", "bound"]
  dFlags : DefAt K mg "flags_by_fork" (topS 32) ["tree", "ways", "cells"]
  lInt : DefAt K mg "_law_is_integer" (topS 35) ["_law_value"]
  lMixed : DefAt K mg "_law_mixed" (topS 36) ["_law_seed", "_law_turn"]
  lBox : DefAt K mg "_law_box" (topS 37) ["_law_script", "_law_k"]
  lTake : DefAt K mg "_law_take" (topS 38) ["_law_box_here", "_law_many_here"]
  lWord : DefAt K mg "_law_word" (topS 39) ["_law_box_here", "_law_size"]
  lNames : DefAt K mg "_law_names" (topS 40) ["_law_box_here", "_law_many_here"]
  lTree : DefAt K mg "_law_tree" (topS 41) ["_law_box_here", "_law_names_here"]
  lMany : DefAt K mg "_law_many" (topS 42) ["_law_box_here"]
  lWays : DefAt K mg "_law_ways" (topS 43) ["_law_tree_here", "_law_way", "_law_ways_here"]
  lBook : DefAt K mg "_law_book" (topS 44) ["_law_tree_here"]
  lSide : DefAt K mg "_law_side" (topS 45) ["_law_book_here", "_law_state_here", "_law_fork"]
  lTeller : DefAt K mg "_law_teller" (topS 46) ["_law_book_here", "_law_state_here"]
  lNeeds : DefAt K mg "_law_needs" (topS 47) ["_law_book_here", "_law_state_here", "_law_writer"]
  lAfter : DefAt K mg "_law_after" (topS 48) ["_law_state_here", "_law_row"]
  lState : DefAt K mg "_law_state" (topS 49) ["_law_box_here", "_law_many_here"]
  lIsState : DefAt K mg "_law_is_state" (topS 50) ["_law_value", "_law_due"]
  lBadState : DefAt K mg "_law_bad_state" (topS 51) ["_law_box_here", "_law_state_here"]
  lStranger : DefAt K mg "_law_stranger" (topS 52) ["_law_box_here", "_law_names_here"]
  lDone : DefAt K mg "_law_done" (topS 53) ["_law_box_here", "_law_most"]
  lEvents : DefAt K mg "_law_events" (topS 54) ["_law_box_here", "_law_book_here", "_law_state_here", "_law_many_here"]
  lLast : DefAt K mg "_law_last" (topS 55) ["_law_wholes"]
  lAsked : DefAt K mg "_law_asked" (topS 56) ["_law_plan", "_law_state_here", "_law_events_here", "_law_whole"]
  lRight : DefAt K mg "_law_right" (topS 57) ["_law_plan", "_law_book_here", "_law_states", "_law_events_here", "_law_wholes"]
  lRefused : DefAt K mg "_law_refused" (topS 58) ["_law_box_here", "_law_plan", "_law_book_here", "_law_states", "_law_events_here"]
  law : DefAt K mg "law" (topS 59) ["_law_script"]
end FK
set_option Elab.async false
set_option linter.all false
set_option maxRecDepth 100000
set_option maxHeartbeats 4000000
namespace FK
open PySem PySem.Spec PyProof.Rows L2
section
variable {P : Program} {w : World} {K : PySem.W.Frag} {mg : Str → Option Value} {base : Heap}
def spIsName : Sp := fun vs H Q _ => ∃ z : Str, vs = [.str z] ∧ NameOk z ∧ Q (.bl true) H
abbrev sIsName : Stmt := topS 17
theorem scIsName : FnScope ["value", "letter"] ["value"] (defScope sIsName) := ⟨rfl, rfl, rfl, by decide +kernel, rfl, by decide +kernel, by decide +kernel⟩
theorem ok_isName (T : Txt K mg) : FnB P w K mg base CX0 1 "is_name" spIsName := by
  obtain ⟨tl, hl⟩ := T.letters
  obtain ⟨tm, hm⟩ := T.most
  refine T.dIsName.ok scIsName (fun vs H Q E h => ?_) (fun f cdv A outer s H vs Q E hr h => ?_)
  · obtain ⟨z, rfl, _⟩ := h
    rfl
  · obtain ⟨z, rfl, ⟨h1, h8, hc⟩, k⟩ := h
    have hz : z.length ≤ sizeLine := Nat.le_trans h8 (by decide)
    refine ⟨_, pss_cons (ps_if (pt_not (pt_val (pisi "str" T.b (pv 0) T.b.str (by decide +kernel)))) (pss_one (ps_ret pe_bl)) pss_nil)
      (pss_cons (ps_if (pt_not (pt_chain op_le op_le pe_int (pe_callB call_len_str (by rfl) T.b.len (by decide +kernel) (pa_cons (pv 0) pa_nil)) (pgI hm))) (pss_one (ps_ret pe_bl)) pss_nil)
      (pss_cons (ps_for PassesOwn.never rfl (pi_str (pv 0)) (pg_name (i := 1) scIsName.nd rfl (.inl rfl))
        (pss_one (ps_if (pt_cmpR op_notIn_sign (pv 1) (pgS hl) (by rfl)) (pss_one (ps_ret pe_bl)) pss_nil)))
      (pss_one (ps_ret pe_bl)))), ?_⟩
    refine ⟨_, rfl, _, _, _, _, true, rfl, .ty _, .base (.str _), kit_ty (by decide +kernel), _, rfl, iteF ?_⟩
    -- 1 <= len(value) <= 8
    refine ⟨_, rfl, z, rfl, hz, _, _, rfl, rfl, _, rfl, if_t (decide_eq_true (by omega)) ⟨_, _, rfl, rfl, _, rfl, iteNS (by omega) ?_⟩⟩
    refine ⟨_, rfl, z, rfl, for_it walk_str (fun i σ H' => ∃ v, σ = [some (.str z), v] ∧ H' = H) ⟨_, rfl, rfl⟩ (fun _ _ _ _ _ => trivial) ?_ ?_⟩
    · rintro i x σ H1 H2 hi ⟨v, rfl, rfl⟩ ⟨rfl, c, hc2, rfl⟩
      refine ⟨_, rfl, c, _, rfl, rfl, _, rfl, iteNS ?_ ?_⟩
      · exact hc c (Array.mem_toList_iff.mpr (Array.mem_of_getElem? hc2))
      · exact ⟨_, rfl, rfl⟩
    · rintro σ H' ⟨v, rfl, rfl⟩
      exact k
end
end FK
set_option Elab.async false
set_option linter.all false
set_option maxRecDepth 100000
set_option maxHeartbeats 4000000
/-! How the plain data stands in the heap. -/
namespace FK
open PySem PySem.Spec PyProof.Rows L2
/-! ### ways as texts -/
def bitc (b : Bool) : Nat := if b then 49 else 48
def S (w : List Bool) : Str := ⟨(w.map bitc).toArray⟩
theorem S_nil : S [] = "" := by decide +kernel
theorem S_len (w : List Bool) : (S w).length = w.length := by
  show ((w.map bitc).toArray).size = _
  simp
theorem bit_one (b : Bool) : S [b] = ⟨#[bitc b]⟩ := rfl
theorem S_false : S [false] = "0" := by decide +kernel
theorem S_true : S [true] = "1" := by decide +kernel
theorem S_app (u v : List Bool) : S u ++ S v = S (u ++ v) := PySem.Str.ext' (by
  rw [PySem.Str.cps_append]
  simp [S])
theorem S_snoc0 (w : List Bool) : S w ++ "0" = S (w ++ [false]) := by rw [← S_false, S_app]
theorem S_snoc1 (w : List Bool) : S w ++ "1" = S (w ++ [true]) := by rw [← S_true, S_app]
theorem bitc_inj {a b : Bool} (h : bitc a = bitc b) : a = b := by cases a <;> cases b <;> simp [bitc] at h ⊢
theorem S_inj {u v : List Bool} (h : S u = S v) : u = v := by
  have h1 : (S u).cps.toList = (S v).cps.toList := by rw [h]
  simp only [S] at h1
  exact (List.map_inj_right fun a b e => bitc_inj e).mp h1
theorem S_cut (w : List Bool) (k : Nat) : cutS (S w) none (some (k : Int)) = S (w.take k) := by
  unfold cutS
  rw [HT.sIx_none, HT.sIx_nat, S_len]
  simp only [S, List.drop_zero, Nat.sub_zero]
  rw [← List.map_take]
  have e : List.take (min k w.length) w = List.take k w := by
    rw [List.take_eq_take_iff]
    omega
  rw [e]
theorem S_at {w : List Bool} {k : Nat} (h : k < w.length) : atI (S w).cps.toList (k : Int) = some (bitc w[k]) := by
  refine atI_nat ?_
  simp [S, h]
/-! ### sorted texts -/
def leS (a b : Str) : Prop := Spec.ltCps b.cps.toList a.cps.toList = false
theorem leS_iff {a b : Str} : leS a b ↔ ¬ b.cps.toList < a.cps.toList := by
  unfold leS
  rw [PyProof.Rows.ltCps_eq]
  simp
theorem leS_trans {a b c : Str} (h : leS a b) (h' : leS b c) : leS a c := by
  rw [leS_iff] at *
  rw [List.not_lt] at *
  exact List.le_trans h h'
theorem leS_anti {a b : Str} (h : leS a b) (h' : leS b a) : a = b := by
  rw [leS_iff] at *
  rw [List.not_lt] at *
  exact PySem.Str.ext' (Array.toList_inj.mp (List.le_antisymm h h'))
theorem rising_pw : ∀ (l : List Str) (p : Str), risingS p l = true → (p :: l).Pairwise leS
  | [], p, _ => by simp
  | x :: r, p, h => by
    simp only [risingS, Bool.and_eq_true, Bool.not_eq_true'] at h
    have ih := rising_pw r x h.2
    have px : leS p x := h.1
    refine List.pairwise_cons.mpr ⟨fun y hy => ?_, ih⟩
    rcases List.mem_cons.mp hy with rfl | hy
    · exact px
    · exact leS_trans px ((List.pairwise_cons.mp ih).1 y hy)
theorem sorted_pw : ∀ {l : List Str}, sortedS l = true → l.Pairwise leS
  | [], _ => List.Pairwise.nil
  | x :: r, h => rising_pw r x h
/-- sorted texts are told by what they hold -/
theorem sorted_same {xs ys zs : List Str} (h1 : xs.Perm zs) (h2 : ys.Perm zs) (s1 : sortedS xs = true) (s2 : sortedS ys = true) : xs = ys :=
  List.Perm.eq_of_pairwise (le := leS) (fun a b _ _ h h' => leS_anti h h') (sorted_pw s1) (sorted_pw s2) (h1.trans h2.symm)
/-! ### trees in the heap -/
def TreeAt (R : Hp) : V → Tr Str → Prop
  | v, .leaf s => v = .str s
  | v, .node l r => ∃ (p : Addr) (vl vr : V), v = .ref p ∧ R p = some (.tup [vl, vr]) ∧ TreeAt R vl l ∧ TreeAt R vr r
theorem TreeAt.same {R R' : Hp} (e : Same R R') : ∀ {t : Tr Str} {v : V}, TreeAt R v t → TreeAt R' v t
  | .leaf s, v, h => h
  | .node l r, v, h => by
    obtain ⟨p, vl, vr, h1, h2, h3, h4⟩ := h
    exact ⟨p, vl, vr, h1, e _ _ h2, TreeAt.same e h3, TreeAt.same e h4⟩
structure TreeOk (t : Tr Str) : Prop where
  nd : t.leaves.Nodup
  le : t.leaves.length ≤ 12
  nm : ∀ s ∈ t.leaves, NameOk s
def Tr.size {α : Type} : Tr α → Nat
  | .leaf _ => 1
  | .node l r => l.size + r.size + 1
theorem _root_.L2.Same.upd {H : Hp} {p : Addr} {o : HO} (h : H p = none) : Same H (L2.upd H p o) := fun b u e => by rw [upd_ne (ne_of_none e h)]; exact e
theorem _root_.L2.Same.upd' {H H1 : Hp} {p : Addr} {o : HO} (x : Same H H1) (h : H1 p = none) : Same H (L2.upd H1 p o) := x.trans (Same.upd h)
/-- what is tracked in H stands in H' where p is written (p was free in H) -/
theorem _root_.L2.Same.at {H H1 : Hp} {p : Addr} {o : HO} (x : Same H H1) (h : H p = none) : Same H (L2.upd H1 p o) := fun b u e => by
  rw [upd_ne (ne_of_none e h)]; exact x b u e
theorem pop_rev {α : Type} (x : α) (us : List α) : (x :: us).reverse[(x :: us).reverse.length - 1]? = some x := by simp
theorem drop_rev {α : Type} (x : α) (us : List α) : (x :: us).reverse.dropLast = us.reverse := by simp
theorem app_rev {α : Type} (x : α) (us : List α) : us.reverse ++ [x] = (x :: us).reverse := by simp
theorem paired_len {α β : Type} {R : α → β → Prop} {xs : List α} {ys : List β} (h : Paired R xs ys) : xs.length = ys.length := Paired.length h
theorem stack_le (ts : List (Tr Str)) : ts.length ≤ (ts.flatMap Tr.leaves).length := by
  induction ts with
  | nil => simp
  | cons t ts ih =>
    have := leaves_pos t
    simp only [List.flatMap_cons, List.length_append, List.length_cons]
    omega
theorem sz {n m : Nat} (h : n ≤ m) (hm : m < 16777216 := by decide) : n < sizeLine := by rw [sizeLine_eq]; omega
theorem sz' {n m : Nat} (h : n ≤ m) (hm : m ≤ 16777216 := by decide) : n ≤ sizeLine := by rw [sizeLine_eq]; omega
/-- a dict of texts that holds the keys ks alone -/
theorem val_not {kvs : List (Key × V)} {k : Key} (h : k ∉ kvs.map (·.1)) : valV kvs k = none := by
  cases e : valV kvs k with
  | none => rfl
  | some v => exact absurd (valV_in e) h
end FK
set_option Elab.async false
set_option linter.all false
set_option maxRecDepth 100000
set_option maxHeartbeats 4000000
namespace FK
open PySem PySem.Spec PyProof.Rows L2
section
variable {P : Program} {w : World} {K : PySem.W.Frag} {mg : Str → Option Value} {base : Heap}
def spIsTree : Sp := fun vs H Q _ => ∃ (v : V) (t : Tr Str), vs = [v] ∧ TreeAt H v t ∧ TreeOk t ∧ ∀ H', Same H H' → Q (.bl true) H'
/-- the loop: vis were seen, the trees ts wait -/
def wIsTree (H : Hp) (v : V) (d l : Addr) (t : Tr Str) : Nat → L2.St → Hp → Prop := fun m σ H' => ∃ (vis : List Str) (us : List V) (ts : List (Tr Str)) (a b c : Option V), σ = [some v, some (.ref d), some (.ref l), a, b, c] ∧ Same H H' ∧
  H' d = some (.dK (vis.map fun s => ((Sum.inr s : Key), V.bl true))) ∧ H' l = some (.lst us.reverse) ∧ Paired (TreeAt H) us ts ∧ vis ++ ts.flatMap Tr.leaves = t.leaves ∧ m = (ts.map Tr.size).sum
abbrev sIsTree : Stmt := topS 20
theorem scIsTree : FnScope ["value", "seen", "waiting", "part", "left", "right"] ["value"] (defScope sIsTree) := ⟨rfl, rfl, rfl, by decide +kernel, rfl, by decide +kernel, by decide +kernel⟩
theorem ok_isTree (T : Txt K mg) : FnB P w K mg base CX0 2 "is_tree" spIsTree := by
  obtain ⟨tl, hl⟩ := T.leafs
  have G : FnB P w K mg base CX0 1 "is_name" spIsName := ok_isName T
  refine T.dIsTree.ok scIsTree (fun vs H Q E h => ?_) (fun f cdv A outer s H vs Q E hr h => ?_)
  · obtain ⟨v, t, rfl, _⟩ := h
    rfl
  · obtain ⟨v, t, rfl, hv, ok, k⟩ := h
    have hu := hu_of hr
    refine ⟨_, pss_cons (ps_set (i := 1) scIsTree.nd rfl (.inl rfl) pe_dnewK)
      (pss_cons (ps_set (i := 2) scIsTree.nd rfl (.inl rfl) (pe_lst (pa_cons (pv 0) pa_nil)))
      (pss_cons (ps_while PassesOwn.never (pt_truth (pv 2) (fun _ => rfl))
        (pss_cons (ps_set (i := 3) scIsTree.nd rfl (.inl rfl) (pe_bm0 PySem.F.plainAttrs_list PySem.F.slot_list_pop PySem.F.type_list_pop mt_pop (pv 2)))
        (pss_one (ps_if (pt_val (pisi "tuple" T.b (pv 3) T.b.tuple (by decide +kernel)))
          (pss_cons (ps_if (pt_cmpR op_ne (pe_callB call_len_seq (by rfl) T.b.len (by decide +kernel) (pa_cons (pv 3) pa_nil)) pe_int (nomark _)) (pss_one (ps_ret pe_bl)) pss_nil)
          (pss_cons (ps_asg (pv 3) (pg_tup (by rfl) (pgs_cons (pg_name (i := 4) scIsTree.nd rfl (.inl rfl)) (pgs_cons (pg_name (i := 5) scIsTree.nd rfl (.inl rfl)) pgs_nil))))
          (pss_cons (ps_expr (pe_bm PySem.F.plainAttrs_list PySem.F.slot_list_append PySem.F.type_list_append mt_append (pv 2) (pa_cons (pv 5) pa_nil)))
          (pss_one (ps_expr (pe_bm PySem.F.plainAttrs_list PySem.F.slot_list_append PySem.F.type_list_append mt_append (pv 2) (pa_cons (pv 4) pa_nil)))))))
          (pss_one (ps_if (PW.pt (pw_or (pt_not (pt_val (pcall G (hr.mono (by decide)) pass0 (pa_cons (pv 3) pa_nil)))) (pw_or (pt_cmp (pc_din hu (pv 3) (pv 1))) (pw_or1 (pt_cmpR op_eq (pe_callB call_lenD (by rfl) T.b.len (by decide +kernel) (pa_cons (pv 1) pa_nil)) (pgI hl) (nomark _))))))
            (pss_one (ps_ret pe_bl))
            (pss_one (ps_dput hu (pv 1) (pv 3) pe_bl rfl))))))))
      (pss_one (ps_ret pe_bl)))), ?_⟩
    intro d hd
    refine ⟨_, rfl, (by show 1 ≤ sizeLine; decide), fun l hl0 => ?_⟩
    have nl : H l = none := (Same.upd hd).free hl0
    have ndl : d ≠ l := fun e => by rw [e, upd_same] at hl0; cases hl0
    refine ⟨wIsTree H v d l t, ⟨_, [], [v], [t], none, none, none, rfl, (Same.upd hd).upd' hl0, by rw [upd_ne ndl, upd_same]; rfl, upd_same, .cons hv .nil, by simp, rfl⟩, ?_⟩
    rintro m σ H1 ⟨vis, us, ts, a, b, c, rfl, s1, h1, h2, hp, hall, rfl⟩
    refine ⟨_, rfl, _, .inl ⟨_, SqL.of h2, rfl⟩, ?_⟩
    have hlen : vis.length + ts.length ≤ 12 := by
      have e := congrArg List.length hall
      have := stack_le ts
      have := ok.le
      rw [List.length_append] at e
      omega
    cases hp with
    | nil => exact if_f rfl (k _ s1)
    | @cons u t1 us ts ht hp =>
      have hlu : us.length = ts.length := paired_len hp
      simp only [List.length_cons] at hlen
      refine if_t (by simp) ⟨fun σ' H' => ∃ m', m' < ((t1 :: ts).map Tr.size).sum ∧ wIsTree H v d l t m' σ' H', fun _ _ z => z, ?_⟩
      refine ⟨_, rfl, .inl ⟨rfl, _, SqL.of h2⟩, l, _, u, rfl, rfl, h2, pop_rev u us, ?_⟩
      rw [drop_rev]
      have s2 : Same H (upd H1 l (.lst us.reverse)) := s1.at nl
      have g1 : (upd H1 l (.lst us.reverse)) d = some (.dK (vis.map fun s => ((Sum.inr s : Key), V.bl true))) := by rw [upd_ne ndl]; exact h1
      have g2 : (upd H1 l (.lst us.reverse)) l = some (.lst us.reverse) := upd_same
      generalize upd H1 l (.lst us.reverse) = H2 at s2 g1 g2 ⊢
      cases t1 with
      | leaf z =>
        have ht : u = .str z := ht
        subst ht
        have hz : z ∈ t.leaves := by rw [← hall]; simp [Tr.leaves]
        have nz : (Sum.inr z : Key) ∉ (vis.map fun s => ((Sum.inr s : Key), V.bl true)).map (·.1) := by
          have nd := ok.nd
          rw [← hall, List.nodup_append] at nd
          intro q
          obtain ⟨kv, q, e⟩ := List.mem_map.mp q
          obtain ⟨y, hy, rfl⟩ := List.mem_map.mp q
          have e : y = z := by simpa using e
          subst e
          exact nd.2.2 y hy y (by simp [Tr.leaves]) rfl
        refine ⟨_, rfl, _, _, _, _, false, rfl, .ty _, .base (.str _), kit_ty (by decide +kernel), _, rfl, if_f rfl ?_⟩
        refine ⟨_, rfl, z, rfl, ok.nm z hz, _, rfl, if_f rfl ⟨_, rfl, _, rfl, d, _, rfl, DGet.k (k := Sum.inr z) g1, _, rfl, ?_⟩⟩
        rw [val_not nz]
        refine if_f rfl ⟨_, rfl, d, _, rfl, g1, rfl, _, rfl, if_f (decide_eq_false ?_) ?_⟩
        · intro e
          have e : ((vis.map fun s => ((Sum.inr s : Key), V.bl true)).length : Int) = 12 := V.int.inj e
          rw [List.length_map] at e
          omega
        · refine ⟨_, rfl, _, rfl, d, _, rfl, DPut.k (k := Sum.inr z) g1 (by rw [List.length_map]; exact sz (show vis.length ≤ 12 by omega)), ?_⟩
          refine ⟨_, ?_, vis ++ [z], us, ts, _, b, c, rfl, s2.at hd, ?_, ?_, hp, ?_, rfl⟩
          · simp [Tr.size]
          · rw [upd_same, putK_new _ (val_not nz)]
            simp
          · rw [upd_ne ndl.symm]
            exact g2
          · rw [← hall]
            simp [Tr.leaves]
      | node lt rt =>
        obtain ⟨p, vl, vr, rfl, hpp, hvl, hvr⟩ := ht
        have g3 := s2 _ _ hpp
        refine ⟨_, rfl, _, _, _, _, true, rfl, .ty _, .base (.tup g3), kit_ty (by decide +kernel), _, rfl, if_t rfl ?_⟩
        refine ⟨_, rfl, p, _, rfl, .inr (SqT.of g3), rfl, _, rfl, iteNS rfl ?_⟩
        refine ⟨_, rfl, p, _, rfl, SqT.of g3, rfl, _, _, rfl, _, _, rfl, rfl, ?_⟩
        refine ⟨_, rfl, .inl ⟨rfl, _, SqL.of g2⟩, _, rfl, l, _, _, rfl, rfl, g2, by rw [List.length_reverse]; exact sz (show us.length ≤ 12 by omega), ?_⟩
        rw [app_rev]
        refine ⟨_, rfl, .inl ⟨rfl, _, SqL.of upd_same⟩, _, rfl, l, _, _, rfl, rfl, upd_same, by rw [List.length_reverse, List.length_cons]; exact sz (show us.length + 1 ≤ 13 by omega), ?_⟩
        rw [app_rev, upd_upd]
        refine ⟨_, ?_, vis, vl :: vr :: us, lt :: rt :: ts, _, _, _, rfl, s2.at nl, ?_, upd_same, .cons hvl (.cons hvr hp), ?_, rfl⟩
        · simp [Tr.size]; omega
        · rw [upd_ne ndl]; exact g1
        · rw [← hall]
          simp [Tr.leaves]
end
end FK
set_option Elab.async false
set_option linter.all false
set_option maxRecDepth 100000
set_option maxHeartbeats 4000000
namespace FK
open PySem PySem.Spec PyProof.Rows L2
/-! ### check_tree -/
section
variable {P : Program} {w : World} {K : PySem.W.Frag} {mg : Str → Option Value} {base : Heap}
def spCheckTree : Sp := fun vs H Q _ => ∃ (v : V) (t : Tr Str), vs = [v] ∧ TreeAt H v t ∧ TreeOk t ∧ ∀ H', Same H H' → Q .non H'
abbrev sCheckTree : Stmt := topS 21
theorem scCheckTree : FnScope ["tree"] ["tree"] (defScope sCheckTree) := ⟨rfl, rfl, rfl, by decide +kernel, rfl, by decide +kernel, by decide +kernel⟩
theorem ok_checkTree (T : Txt K mg) : FnB P w K mg base CX0 3 "check_tree" spCheckTree := by
  have G : FnB P w K mg base CX0 2 "is_tree" spIsTree := ok_isTree T
  refine T.dCheckTree.ok scCheckTree (fun vs H Q E h => ?_) (fun f cdv A outer s H vs Q E hr h => ?_)
  · obtain ⟨v, t, rfl, _⟩ := h
    rfl
  · obtain ⟨v, t, rfl, hv, ok, k⟩ := h
    refine ⟨_, pss_one (ps_if (pt_not (pt_val (pcall G hr pass0 (pa_cons (pv 0) pa_nil)))) (pss_one ps_never) pss_nil), ?_⟩
    exact ⟨_, rfl, v, t, rfl, hv, ok, fun H' e => ⟨_, rfl, if_f rfl (k H' e)⟩⟩
/-! ### subtrees_of -/
/-- an entry (place, part) at p -/
def EntAt (R H : Hp) (p : Addr) (e : List Bool × Tr Str) : Prop := ∃ v, H p = some (.tup [.str (S e.1), v]) ∧ TreeAt R v e.2
theorem EntAt.keep {R H : Hp} {p a : Addr} {e : List Bool × Tr Str} {xs : List V} {o : HO} (h : EntAt R H p e) (ha : H a = some (.lst xs)) : EntAt R (upd H a o) p e := by
  obtain ⟨v, h1, h2⟩ := h
  exact ⟨v, by rw [upd_ne (ne_of h1 ha (fun z => by cases z))]; exact h1, h2⟩
theorem EntAt.more {R H : Hp} {p a : Addr} {e : List Bool × Tr Str} {o : HO} (h : EntAt R H p e) (ha : H a = none) : EntAt R (upd H a o) p e := by
  obtain ⟨v, h1, h2⟩ := h
  exact ⟨v, by rw [upd_ne (ne_of_none h1 ha)]; exact h1, h2⟩
theorem ents_keep {R H : Hp} {a : Addr} {xs : List V} {o : HO} (ha : H a = some (.lst xs)) : ∀ {ps : List Addr} {es : List (List Bool × Tr Str)}, Paired (EntAt R H) ps es → Paired (EntAt R (upd H a o)) ps es
  | _, _, .nil => .nil
  | _, _, .cons h t => .cons (h.keep ha) (ents_keep ha t)
theorem ents_more {R H : Hp} {a : Addr} {o : HO} (ha : H a = none) : ∀ {ps : List Addr} {es : List (List Bool × Tr Str)}, Paired (EntAt R H) ps es → Paired (EntAt R (upd H a o)) ps es
  | _, _, .nil => .nil
  | _, _, .cons h t => .cons (h.more ha) (ents_more ha t)
theorem paired_snoc {α β : Type} {R : α → β → Prop} : ∀ {xs : List α} {ys : List β} {x : α} {y : β}, Paired R xs ys → R x y → Paired R (xs ++ [x]) (ys ++ [y])
  | _, _, _, _, .nil, h => .cons h .nil
  | _, _, _, _, .cons h t, h' => .cons h (paired_snoc t h')
theorem subs_pos {α : Type} (t : Tr α) (p : List Bool) : 0 < (t.subs p).length := by cases t <;> simp [Tr.subs]
theorem subs_length {α : Type} (t : Tr α) : ∀ p, (t.subs p).length + 1 = 2 * t.leaves.length := by
  induction t with
  | leaf a => intro p; rfl
  | node l r hl hr =>
    intro p
    have h1 := hl (p ++ [false])
    have h2 := hr (p ++ [true])
    have := leaves_pos l
    simp only [Tr.subs, Tr.leaves, List.length_append, List.length_cons]
    omega
theorem fs_var {σ : L2.St} {H : Hp} {i : Nat} {y z : Str} {Q : Str → Hp → Prop} (h : σ[i]? = some (some (.str y))) (hl : y.length + z.length ≤ 1000) (q : Q (y ++ z) H) : tJs [tFmt (tVar i), tC (.str z)] Str.empty σ H Q := by
  refine ⟨_, h, .inl ⟨y, rfl, sz' (show y.length ≤ 1000 by omega), y, rfl, ?_, z, rfl, ?_, ?_⟩⟩
  · rw [PySem.Str.empty_append]; exact sz' (show y.length ≤ 1000 by omega)
  · rw [PySem.Str.empty_append, PySem.Str.length_append]; exact sz' hl
  · rw [PySem.Str.empty_append]; exact q
def spSubs : Sp := fun vs H Q _ => ∃ (v : V) (t : Tr Str), vs = [v] ∧ TreeAt H v t ∧ TreeOk t ∧
  ∀ H' a fs, Same H H' → H a = none → H' a = some (.lst (fs.map V.ref)) → Paired (EntAt H H') fs (t.subs []) → Q (.ref a) H'
abbrev sSubs : Stmt := topS 22
theorem scSubs : FnScope ["tree", "found", "waiting", "place", "part", "left", "right"] ["tree"] (defScope sSubs) := ⟨rfl, rfl, rfl, by decide +kernel, rfl, by decide +kernel, by decide +kernel⟩
def wSubs (H : Hp) (v : V) (a l : Addr) (t : Tr Str) : Nat → L2.St → Hp → Prop := fun m σ H' => ∃ (fs us : List Addr) (done ws : List (List Bool × Tr Str)) (x1 x2 x3 x4 : Option V), σ = [some v, some (.ref a), some (.ref l), x1, x2, x3, x4] ∧ Same H H' ∧
  H' a = some (.lst (fs.map V.ref)) ∧ H' l = some (.lst (us.map V.ref).reverse) ∧ Paired (EntAt H H') fs done ∧ Paired (EntAt H H') us ws ∧ done ++ ws.flatMap (fun e => e.2.subs e.1) = t.subs [] ∧ (∀ e ∈ ws, e.1.length + e.2.depth ≤ 11) ∧ m = (ws.map fun e => e.2.size).sum
theorem wait_le (ws : List (List Bool × Tr Str)) : ws.length ≤ (ws.flatMap fun e => e.2.subs e.1).length := by
  induction ws with
  | nil => simp
  | cons e ws ih =>
    have := subs_pos e.2 e.1
    simp only [List.flatMap_cons, List.length_append, List.length_cons]
    omega
theorem ok_subs (T : Txt K mg) : FnB P w K mg base CX0 1 "subtrees_of" spSubs := by
  refine T.dSubs.ok scSubs (fun vs H Q E h => ?_) (fun f cdv A outer s H vs Q E hr h => ?_)
  · obtain ⟨v, t, rfl, _⟩ := h
    rfl
  · obtain ⟨v, t, rfl, hv, ok, k⟩ := h
    refine ⟨_, pss_cons (ps_set (i := 1) scSubs.nd rfl (.inl rfl) (pe_lst pa_nil))
      (pss_cons (ps_set (i := 2) scSubs.nd rfl (.inl rfl) (pe_lst (pa_cons (pe_tup (pa_cons pe_str (pa_cons (pv 0) pa_nil))) pa_nil)))
      (pss_cons (ps_while PassesOwn.never (pt_truth (pv 2) (fun _ => rfl))
        (pss_cons (ps_asg (pe_bm0 PySem.F.plainAttrs_list PySem.F.slot_list_pop PySem.F.type_list_pop mt_pop (pv 2)) (pg_tup (by rfl) (pgs_cons (pg_name (i := 3) scSubs.nd rfl (.inl rfl)) (pgs_cons (pg_name (i := 4) scSubs.nd rfl (.inl rfl)) pgs_nil))))
        (pss_cons (ps_expr (pe_bm PySem.F.plainAttrs_list PySem.F.slot_list_append PySem.F.type_list_append mt_append (pv 1) (pa_cons (pe_tup (pa_cons (pv 3) (pa_cons (pv 4) pa_nil))) pa_nil)))
        (pss_one (ps_if (pt_val (pisi "tuple" T.b (pv 4) T.b.tuple (by decide +kernel)))
          (pss_cons (ps_asg (pv 4) (pg_tup (by rfl) (pgs_cons (pg_name (i := 5) scSubs.nd rfl (.inl rfl)) (pgs_cons (pg_name (i := 6) scSubs.nd rfl (.inl rfl)) pgs_nil))))
          (pss_cons (ps_expr (pe_bm PySem.F.plainAttrs_list PySem.F.slot_list_append PySem.F.type_list_append mt_append (pv 2) (pa_cons (pe_tup (pa_cons (pe_joined (.cons (pe_fmt (pv 3)) (.cons pe_str .nil))) (pa_cons (pv 6) pa_nil))) pa_nil)))
          (pss_one (ps_expr (pe_bm PySem.F.plainAttrs_list PySem.F.slot_list_append PySem.F.type_list_append mt_append (pv 2) (pa_cons (pe_tup (pa_cons (pe_joined (.cons (pe_fmt (pv 3)) (.cons pe_str .nil))) (pa_cons (pv 5) pa_nil))) pa_nil))))))
          pss_nil)))))
      (pss_one (ps_ret (pv 1))))), ?_⟩
    refine ⟨(by show 0 ≤ sizeLine; decide), fun a ha => ?_⟩
    refine ⟨_, rfl, (by show 2 ≤ sizeLine; decide), fun q hq => ⟨(by show 1 ≤ sizeLine; decide), fun l hl => ?_⟩⟩
    have na : H a = none := ha
    have nq : H q = none := (Same.upd na).free hq
    have qa : q ≠ a := fun e => by rw [e, upd_same] at hq; cases hq
    have nl1 : upd H a (.lst []) l = none := (Same.upd hq).free hl
    have nl : H l = none := (Same.upd na).free nl1
    have la : l ≠ a := fun e => by rw [e, upd_same] at nl1; cases nl1
    have lq : l ≠ q := fun e => by rw [e, upd_same] at hl; cases hl
    have s0 : Same H (upd (upd (upd H a (.lst [])) q (.tup [.str "", v])) l (.lst [.ref q])) := ((Same.upd na).upd' hq).upd' hl
    refine ⟨wSubs H v a l t, ⟨_, [], [q], [], [([], t)], none, none, none, none, rfl, s0, ?_, upd_same, .nil, .cons ⟨v, ?_, hv⟩ .nil, by simp, ?_, rfl⟩, ?_⟩
    · rw [upd_ne la.symm, upd_ne qa.symm, upd_same]
      rfl
    · show upd _ l _ q = _
      rw [upd_ne lq.symm, upd_same, S_nil]
    · intro e he
      have e1 : e = ([], t) := by simpa using he
      subst e1
      have := depth_leaves t
      have := ok.le
      simp only [List.length_nil]
      omega
    rintro m σ H1 ⟨fs, us, done, ws, x1, x2, x3, x4, rfl, s1, h1, h2, hp1, hp2, hall, hdep, rfl⟩
    have hlen : done.length + ws.length ≤ 23 := by
      have e := congrArg List.length hall
      have := wait_le ws
      have := subs_length t []
      have := ok.le
      rw [List.length_append] at e
      omega
    have hfl : fs.length = done.length := paired_len hp1
    refine ⟨_, rfl, _, .inl ⟨_, SqL.of h2, rfl⟩, ?_⟩
    cases hp2 with
    | nil =>
      refine if_f rfl ⟨_, rfl, k _ a fs s1 na h1 ?_⟩
      rw [← hall]
      simpa using hp1
    | @cons u e us ws he hp2 =>
      have hul : us.length = ws.length := paired_len hp2
      simp only [List.length_cons] at hlen
      obtain ⟨pl, t1⟩ := e
      obtain ⟨v1, hu, hv1⟩ := id he
      have hd1 : pl.length + t1.depth ≤ 11 := hdep _ List.mem_cons_self
      refine if_t (by simp) ⟨fun σ' H' => ∃ m', m' < (((pl, t1) :: ws).map fun e => e.2.size).sum ∧ wSubs H v a l t m' σ' H', fun _ _ z => z, ?_⟩
      refine ⟨_, rfl, .inl ⟨rfl, _, SqL.of h2⟩, l, _, .ref u, rfl, rfl, h2, pop_rev (V.ref u) (us.map V.ref), ?_⟩
      rw [show (List.map V.ref (u :: us)).reverse.dropLast = (us.map V.ref).reverse from drop_rev (V.ref u) (us.map V.ref)]
      have ul : u ≠ l := ne_of hu h2 (fun z => by cases z)
      -- waiting without its last
      have s2 : Same H (upd H1 l (.lst (us.map V.ref).reverse)) := s1.at nl
      have g0 : (upd H1 l (.lst (us.map V.ref).reverse)) u = some (.tup [.str (S pl), v1]) := by rw [upd_ne ul]; exact hu
      have g1 : (upd H1 l (.lst (us.map V.ref).reverse)) a = some (.lst (fs.map V.ref)) := by rw [upd_ne la.symm]; exact h1
      have g2 : (upd H1 l (.lst (us.map V.ref).reverse)) l = some (.lst (us.map V.ref).reverse) := upd_same
      have p1 := ents_keep (o := .lst (us.map V.ref).reverse) h2 hp1
      have p2 := ents_keep (o := .lst (us.map V.ref).reverse) h2 hp2
      generalize upd H1 l (.lst (us.map V.ref).reverse) = H2 at s2 g0 g1 g2 p1 p2 ⊢
      refine ⟨u, _, rfl, SqT.of g0, rfl, _, _, rfl, _, _, rfl, rfl, ?_⟩
      -- found.append((place, part))
      refine ⟨_, rfl, .inl ⟨rfl, _, SqL.of g1⟩, _, rfl, _, rfl, (by show 2 ≤ sizeLine; decide), fun q1 hq1 => ?_⟩
      have q1a : q1 ≠ a := fun e => by rw [e, g1] at hq1; cases hq1
      have q1l : q1 ≠ l := fun e => by rw [e, g2] at hq1; cases hq1
      refine ⟨a, _, _, rfl, rfl, by rw [upd_ne q1a.symm]; exact g1, by rw [List.length_map]; exact sz (show fs.length ≤ 23 by omega), ?_⟩
      have s3 : Same H (upd (upd H2 q1 (.tup [.str (S pl), v1])) a (.lst (fs.map V.ref ++ [.ref q1]))) := (s2.upd' hq1).at na
      have g0' : (upd (upd H2 q1 (.tup [.str (S pl), v1])) a (.lst (fs.map V.ref ++ [.ref q1]))) a = some (.lst ((fs ++ [q1]).map V.ref)) := by rw [upd_same, List.map_append]; rfl
      have g2' : (upd (upd H2 q1 (.tup [.str (S pl), v1])) a (.lst (fs.map V.ref ++ [.ref q1]))) l = some (.lst (us.map V.ref).reverse) := by rw [upd_ne la, upd_ne q1l.symm]; exact g2
      have ga : (upd H2 q1 (.tup [.str (S pl), v1])) a = some (.lst (fs.map V.ref)) := by rw [upd_ne q1a.symm]; exact g1
      have p1' := ents_keep (o := .lst (fs.map V.ref ++ [.ref q1])) ga (ents_more (o := .tup [.str (S pl), v1]) hq1 p1)
      have p2' := ents_keep (o := .lst (fs.map V.ref ++ [.ref q1])) ga (ents_more (o := .tup [.str (S pl), v1]) hq1 p2)
      have pq : EntAt H (upd (upd H2 q1 (.tup [.str (S pl), v1])) a (.lst (fs.map V.ref ++ [.ref q1]))) q1 (pl, t1) := ⟨v1, by rw [upd_ne q1a, upd_same], hv1⟩
      generalize upd (upd H2 q1 (.tup [.str (S pl), v1])) a (.lst (fs.map V.ref ++ [.ref q1])) = H3 at s3 g0' g2' p1' p2' pq ⊢
      have pf := paired_snoc p1' pq
      cases t1 with
      | leaf z =>
        have hv1 : v1 = .str z := hv1
        subst hv1
        refine ⟨_, rfl, _, _, _, _, false, rfl, .ty _, .base (.str _), kit_ty (by decide +kernel), _, rfl, if_f rfl ?_⟩
        refine ⟨_, ?_, fs ++ [q1], us, done ++ [(pl, .leaf z)], ws, _, _, x3, x4, rfl, s3, g0', g2', pf, p2', ?_, fun e he => hdep e (List.mem_cons_of_mem _ he), rfl⟩
        · simp [Tr.size]
        · rw [← hall]
          simp [Tr.subs]
      | node lt rt =>
        obtain ⟨p, vl, vr, rfl, hpp, hvl, hvr⟩ := hv1
        have g3 := s3 _ _ hpp
        have hd2 : pl.length + (max lt.depth rt.depth + 1) ≤ 11 := hd1
        refine ⟨_, rfl, _, _, _, _, true, rfl, .ty _, .base (.tup g3), kit_ty (by decide +kernel), _, rfl, if_t rfl ?_⟩
        refine ⟨_, rfl, p, _, rfl, SqT.of g3, rfl, _, _, rfl, _, _, rfl, rfl, ?_⟩
        -- waiting.append((place1, right))
        refine ⟨_, rfl, .inl ⟨rfl, _, SqL.of g2'⟩, fs_var (y := S pl) rfl (by rw [S_len]; show pl.length + 1 ≤ 1000; omega) ⟨_, rfl, (by show 2 ≤ sizeLine; decide), fun q2 hq2 => ?_⟩⟩
        rw [S_snoc1]
        have q2l : q2 ≠ l := fun e => by rw [e, g2'] at hq2; cases hq2
        have q2a : q2 ≠ a := fun e => by rw [e, g0'] at hq2; cases hq2
        have gl2 : (upd H3 q2 (.tup [.str (S (pl ++ [true])), vr])) l = some (.lst (us.map V.ref).reverse) := by rw [upd_ne q2l.symm]; exact g2'
        refine ⟨l, _, _, rfl, rfl, gl2, by rw [List.length_reverse, List.length_map]; exact sz (show us.length ≤ 23 by omega), ?_⟩
        rw [app_rev]
        have s4 : Same H (upd (upd H3 q2 (.tup [.str (S (pl ++ [true])), vr])) l (.lst (V.ref q2 :: us.map V.ref).reverse)) := (s3.upd' hq2).at nl
        have k1 : (upd (upd H3 q2 (.tup [.str (S (pl ++ [true])), vr])) l (.lst (V.ref q2 :: us.map V.ref).reverse)) a = some (.lst ((fs ++ [q1]).map V.ref)) := by rw [upd_ne la.symm, upd_ne q2a.symm]; exact g0'
        have k2 : (upd (upd H3 q2 (.tup [.str (S (pl ++ [true])), vr])) l (.lst (V.ref q2 :: us.map V.ref).reverse)) l = some (.lst (V.ref q2 :: us.map V.ref).reverse) := upd_same
        have k3 := ents_keep (o := .lst (V.ref q2 :: us.map V.ref).reverse) gl2 (ents_more (o := .tup [.str (S (pl ++ [true])), vr]) hq2 pf)
        have k4 := ents_keep (o := .lst (V.ref q2 :: us.map V.ref).reverse) gl2 (ents_more (o := .tup [.str (S (pl ++ [true])), vr]) hq2 p2')
        have k5 : EntAt H (upd (upd H3 q2 (.tup [.str (S (pl ++ [true])), vr])) l (.lst (V.ref q2 :: us.map V.ref).reverse)) q2 (pl ++ [true], rt) := ⟨vr, by rw [upd_ne q2l, upd_same], hvr⟩
        generalize upd (upd H3 q2 (.tup [.str (S (pl ++ [true])), vr])) l (.lst (V.ref q2 :: us.map V.ref).reverse) = H4 at s4 k1 k2 k3 k4 k5 ⊢
        -- waiting.append((place0, left))
        refine ⟨_, rfl, .inl ⟨rfl, _, SqL.of k2⟩, fs_var (y := S pl) rfl (by rw [S_len]; show pl.length + 1 ≤ 1000; omega) ⟨_, rfl, (by show 2 ≤ sizeLine; decide), fun q3 hq3 => ?_⟩⟩
        rw [S_snoc0]
        have q3l : q3 ≠ l := fun e => by rw [e, k2] at hq3; cases hq3
        have q3a : q3 ≠ a := fun e => by rw [e, k1] at hq3; cases hq3
        have gl3 : (upd H4 q3 (.tup [.str (S (pl ++ [false])), vl])) l = some (.lst (V.ref q2 :: us.map V.ref).reverse) := by rw [upd_ne q3l.symm]; exact k2
        refine ⟨l, _, _, rfl, rfl, gl3, by rw [List.length_reverse, List.length_cons, List.length_map]; exact sz (show us.length + 1 ≤ 24 by omega), ?_⟩
        rw [app_rev]
        refine ⟨_, ?_, fs ++ [q1], q3 :: q2 :: us, done ++ [(pl, .node lt rt)], (pl ++ [false], lt) :: (pl ++ [true], rt) :: ws, _, _, _, _, rfl, (s4.upd' hq3).at nl, ?_, upd_same, ents_keep gl3 (ents_more hq3 k3), .cons ⟨vl, by rw [upd_ne q3l, upd_same], hvl⟩ (.cons ((k5.more hq3).keep gl3) (ents_keep gl3 (ents_more hq3 k4))), ?_, ?_, rfl⟩
        · simp [Tr.size]; omega
        · rw [upd_ne la.symm, upd_ne q3a.symm]; exact k1
        · rw [← hall]
          simp [Tr.subs]
        · intro e he
          rcases List.mem_cons.mp he with rfl | he
          · simp only [List.length_append, List.length_cons, List.length_nil]; omega
          rcases List.mem_cons.mp he with rfl | he
          · simp only [List.length_append, List.length_cons, List.length_nil]; omega
          · exact hdep e (List.mem_cons_of_mem _ he)
end
end FK
set_option Elab.async false
set_option linter.all false
set_option maxRecDepth 100000
set_option maxHeartbeats 4000000
namespace FK
open PySem PySem.Spec PyProof.Rows L2
theorem paired_get {α β : Type} {R : α → β → Prop} : ∀ {xs : List α} {ys : List β} {i : Nat} {x : α}, Paired R xs ys → xs[i]? = some x → ∃ y, ys[i]? = some y ∧ R x y
  | _, _, _, _, .nil, h => by simp at h
  | _, _, 0, _, .cons h _, e => by simp at e; subst e; exact ⟨_, rfl, h⟩
  | _, _, i + 1, x, .cons _ t, e => by
    obtain ⟨y, h1, h2⟩ := paired_get (i := i) (x := x) t (by simpa using e)
    exact ⟨y, by simpa using h1, h2⟩
theorem paired_imp {α β : Type} {R R' : α → β → Prop} (f : ∀ x y, R x y → R' x y) : ∀ {xs : List α} {ys : List β}, Paired R xs ys → Paired R' xs ys
  | _, _, .nil => .nil
  | _, _, .cons h t => .cons (f _ _ h) (paired_imp f t)
theorem take_snoc {α : Type} {l : List α} {i : Nat} {x : α} (h : l[i]? = some x) : l.take (i + 1) = l.take i ++ [x] := by
  rw [List.take_add_one, h]; rfl
def leafOf (e : List Bool × Tr Str) : Option (Str × List Bool) := match e.2 with
  | .leaf a => some (a, e.1)
  | .node _ _ => none
def forkOf (e : List Bool × Tr Str) : Option (List Bool) := match e.2 with
  | .leaf _ => none
  | .node _ _ => some e.1
theorem subs_ways (t : Tr Str) : ∀ p, (t.subs p).filterMap leafOf = t.ways p := by
  induction t with
  | leaf a => intro p; rfl
  | node l r hl hr =>
    intro p
    show List.filterMap leafOf ((p, Tr.node l r) :: (l.subs (p ++ [false]) ++ r.subs (p ++ [true]))) = _
    rw [List.filterMap_cons_none (by rfl), List.filterMap_append, hl, hr]
    rfl
theorem subs_forks (t : Tr Str) : ∀ p, (t.subs p).filterMap forkOf = t.forks p := by
  induction t with
  | leaf a => intro p; rfl
  | node l r hl hr =>
    intro p
    show List.filterMap forkOf ((p, Tr.node l r) :: (l.subs (p ++ [false]) ++ r.subs (p ++ [true]))) = _
    rw [List.filterMap_cons_some (by rfl), List.filterMap_append, hl, hr]
    rfl
/-- a dict of ways -/
def kvW (l : List (Str × List Bool)) : List (Key × V) := l.map fun x => ((Sum.inr x.1 : Key), V.str (S x.2))
theorem kvW_keys (l : List (Str × List Bool)) : (kvW l).map (·.1) = (l.map (·.1)).map Sum.inr := by simp [kvW]
section
variable {P : Program} {w : World} {K : PySem.W.Frag} {mg : Str → Option Value} {base : Heap}
def spWays : Sp := fun vs H Q _ => ∃ (v : V) (t : Tr Str), vs = [v] ∧ TreeAt H v t ∧ TreeOk t ∧
  ∀ H' d, Same H H' → H d = none → H' d = some (.dK (kvW (t.ways []))) → Q (.ref d) H'
abbrev sWays : Stmt := topS 23
theorem scWays : FnScope ["tree", "ways", "place", "part"] ["tree"] (defScope sWays) := ⟨rfl, rfl, rfl, by decide +kernel, rfl, by decide +kernel, by decide +kernel⟩
theorem ok_ways (T : Txt K mg) : FnB P w K mg base CX0 4 "ways_of" spWays := by
  have G : FnB P w K mg base CX0 3 "check_tree" spCheckTree := ok_checkTree T
  have G2 : FnB P w K mg base CX0 1 "subtrees_of" spSubs := ok_subs T
  refine T.dWays.ok scWays (fun vs H Q E h => ?_) (fun f cdv A outer s H vs Q E hr h => ?_)
  · obtain ⟨v, t, rfl, _⟩ := h
    rfl
  · obtain ⟨v, t, rfl, hv, ok, k⟩ := h
    have hu := hu_of hr
    refine ⟨_, pss_cons (ps_expr (pcall G hr pass0 (pa_cons (pv 0) pa_nil)))
      (pss_cons (ps_set (i := 1) scWays.nd rfl (.inl rfl) pe_dnewK)
      (pss_cons (ps_for PassesOwn.never rfl (pi_list (pcall G2 (hr.mono (by decide)) pass0 (pa_cons (pv 0) pa_nil))) (pg_tup (by rfl) (pgs_cons (pg_name (i := 2) scWays.nd rfl (.inl rfl)) (pgs_cons (pg_name (i := 3) scWays.nd rfl (.inl rfl)) pgs_nil)))
        (pss_one (ps_if (pt_not (pt_val (pisi "tuple" T.b (pv 3) T.b.tuple (by decide +kernel)))) (pss_one (ps_dput hu (pv 1) (pv 3) (pv 2) rfl)) pss_nil)))
      (pss_one (ps_ret (pv 1))))), ?_⟩
    refine ⟨_, rfl, v, t, rfl, hv, ok, fun H1 s1 => ?_⟩
    intro d hd
    have nd : H d = none := s1.free hd
    refine ⟨_, rfl, v, t, rfl, TreeAt.same (s1.upd' hd) hv, ok, fun H2 a fs s2 na h2 pf => ?_⟩
    refine ⟨a, rfl, ⟨_, SqL.of h2⟩, for_it (walk_list (xs := fs.map V.ref)) (fun i σ H' => ∃ x1 x2, σ = [some v, some (.ref d), x1, x2] ∧ (∀ b o, H2 b = some o → b ≠ d → H' b = some o) ∧ H' d = some (.dK (kvW (((t.subs []).take i).filterMap leafOf)))) ?_ ?_ ?_ ?_⟩
    · exact ⟨none, none, rfl, fun b o e _ => e, s2 d _ upd_same⟩
    · rintro i σ H' _ ⟨x1, x2, rfl, s3, h3⟩
      exact SqL.of (s3 a _ h2 (ne_of h2 (s2 d _ upd_same) (fun z => by cases z)))
    · rintro i x σ H3 H3' hi ⟨x1, x2, rfl, s3, h3⟩ ⟨rfl, hx⟩
      rw [List.getElem?_map] at hx
      obtain ⟨q, hq, rfl⟩ := Option.map_eq_some_iff.mp hx
      obtain ⟨e, he, v1, hq2, hv1⟩ := paired_get pf hq
      obtain ⟨pl, t1⟩ := e
      have hd2 := s2 d _ upd_same
      have hq3 := s3 q _ hq2 (ne_of hq2 hd2 (fun z => by cases z))
      refine ⟨q, _, rfl, SqT.of hq3, rfl, _, _, rfl, _, _, rfl, rfl, ?_⟩
      have es := take_snoc he
      cases t1 with
      | leaf z =>
        have hv1 : v1 = .str z := hv1
        subst hv1
        refine ⟨_, rfl, _, _, _, _, false, rfl, .ty _, .base (.str _), kit_ty (by decide +kernel), _, rfl, if_t rfl ?_⟩
        have e1 : ((t.subs []).take (i + 1)).filterMap leafOf = ((t.subs []).take i).filterMap leafOf ++ [(z, pl)] := by
          rw [es, List.filterMap_append]; rfl
        have all : ((t.subs []).filterMap leafOf).map (·.1) = t.leaves := by rw [subs_ways, ways_fst]
        have sub : (((t.subs []).take (i + 1)).filterMap leafOf).map (·.1) <+: t.leaves := by
          rw [← all]
          refine List.IsPrefix.map _ (List.IsPrefix.filterMap _ (List.take_prefix _ _))
        have nz : (Sum.inr z : Key) ∉ (kvW (((t.subs []).take i).filterMap leafOf)).map (·.1) := by
          have nd2 := List.Nodup.sublist sub.sublist ok.nd
          rw [e1, List.map_append, List.nodup_append] at nd2
          rw [kvW_keys]
          intro q
          obtain ⟨y, hy, e⟩ := List.mem_map.mp q
          have e : y = z := by simpa using e
          subst e
          exact nd2.2.2 y hy y (by simp) rfl
        have hlen : (kvW (((t.subs []).take i).filterMap leafOf)).length ≤ 12 := by
          have := sub.length_le
          rw [e1] at this
          simp only [List.map_append, List.length_append, List.length_map] at this
          have := ok.le
          simp only [kvW, List.length_map]
          omega
        refine ⟨_, rfl, _, rfl, _, rfl, d, _, rfl, DPut.k (k := Sum.inr z) h3 (sz hlen), ?_⟩
        refine ⟨_, _, rfl, fun b o e n => by rw [upd_ne n]; exact s3 b o e n, ?_⟩
        rw [upd_same, putK_new _ (val_not nz), e1]
        simp [kvW]
      | node lt rt =>
        obtain ⟨p, vl, vr, rfl, hpp, hvl, hvr⟩ := hv1
        have g1 : H2 p = some (.tup [vl, vr]) := s2 _ _ hpp
        have g3 := s3 p _ g1 (ne_of g1 hd2 (fun z => by cases z))
        refine ⟨_, rfl, _, _, _, _, true, rfl, .ty _, .base (.tup g3), kit_ty (by decide +kernel), _, rfl, if_f rfl ?_⟩
        refine ⟨_, _, rfl, s3, ?_⟩
        rw [es, List.filterMap_append, show List.filterMap leafOf [(pl, Tr.node lt rt)] = [] from rfl, List.append_nil]
        exact h3
    · rintro σ H3 ⟨x1, x2, rfl, s3, h3⟩
      refine ⟨_, rfl, k H3 d (fun b o e => s3 b o (s2 _ _ ((s1.upd' hd) _ _ e)) (ne_of_none e nd)) nd ?_⟩
      rw [h3, List.length_map, paired_len pf, List.take_length, subs_ways]
/-! ### forks_of -/
def spForks : Sp := fun vs H Q _ => ∃ (v : V) (t : Tr Str), vs = [v] ∧ TreeAt H v t ∧ TreeOk t ∧
  ∀ H' a, Same H H' → H a = none → H' a = some (.lst ((t.forks []).map fun f => V.str (S f))) → Q (.ref a) H'
abbrev sForks : Stmt := topS 24
theorem scForks : FnScope ["tree", "place", "part"] ["tree"] (defScope sForks) := ⟨rfl, rfl, rfl, by decide +kernel, rfl, by decide +kernel, by decide +kernel⟩
theorem ok_forks (T : Txt K mg) : FnB P w K mg base CX0 4 "forks_of" spForks := by
  have G : FnB P w K mg base CX0 3 "check_tree" spCheckTree := ok_checkTree T
  have G2 : FnB P w K mg base CX0 1 "subtrees_of" spSubs := ok_subs T
  refine T.dForks.ok scForks (fun vs H Q E h => ?_) (fun f cdv A outer s H vs Q E hr h => ?_)
  · obtain ⟨v, t, rfl, _⟩ := h
    rfl
  · obtain ⟨v, t, rfl, hv, ok, k⟩ := h
    refine ⟨_, pss_cons (ps_expr (pcall G hr pass0 (pa_cons (pv 0) pa_nil)))
      (pss_one (ps_ret (pe_lc (own := [("place", 1), ("part", 2)]) (g := gTup K 2 (gCons (gName 1) (gCons (gName 2) gNil))) (tt := tB (tCB (rIsi K) (tCons (tVar 2) (tCons (tC (.ty "tuple")) tNil)))) (te := tVar 1) rfl scForks.nd (pi_list (pcall G2 (hr.mono (by decide)) pass0 (pa_cons (pv 0) pa_nil)))
        (blkOk_by (N := ["tree", "place", "part"]) (sc := defScope sForks) (by decide +kernel))
        (fun _ _ _ _ _ => pg_tup (by rfl) (pgs_cons (pg_name (i := 1) scForks.nd rfl (.inl rfl)) (pgs_cons (pg_name (i := 2) scForks.nd rfl (.inl rfl)) pgs_nil)))
        (fun _ _ _ _ _ => pts_one (pt_val (pisi "tuple" T.b (pv 2) T.b.tuple (by decide +kernel)))) (fun _ _ _ _ _ => pv 1)))), ?_⟩
    refine ⟨_, rfl, v, t, rfl, hv, ok, fun H1 s1 => ?_⟩
    refine ⟨_, rfl, v, t, rfl, TreeAt.same s1 hv, ok, fun H2 a fs s2 na h2 pf => ?_⟩
    refine ⟨a, rfl, ⟨_, SqL.of h2⟩, fun D hD => lc_it (walk_list (xs := fs.map V.ref)) (fun i H' => Same H2 H' ∧ H' D = some (.lst ((((t.subs []).take i).filterMap forkOf).map fun f => V.str (S f)))) ?_ ?_ ?_ ?_⟩
    · exact ⟨Same.upd hD, upd_same⟩
    · rintro i H' _ ⟨s3, h3⟩
      exact s3.seq (SqL.of h2)
    · rintro i x H3 H3' hi ⟨s3, h3⟩ ⟨rfl, hx⟩
      rw [List.getElem?_map] at hx
      obtain ⟨q, hq, rfl⟩ := Option.map_eq_some_iff.mp hx
      obtain ⟨e, he, v1, hq2, hv1⟩ := paired_get pf hq
      obtain ⟨pl, t1⟩ := e
      have es := take_snoc he
      refine ⟨q, _, rfl, SqT.of (s3 _ _ hq2), rfl, _, _, rfl, _, _, rfl, rfl, rfl, ?_⟩
      cases t1 with
      | leaf z =>
        have hv1 : v1 = .str z := hv1
        subst hv1
        refine ⟨_, rfl, _, _, _, _, false, rfl, .ty _, .base (.str _), kit_ty (by decide +kernel), _, rfl, if_f rfl ?_⟩
        refine ⟨s3, ?_⟩
        rw [h3, es, List.filterMap_append]
        simp [forkOf]
      | node lt rt =>
        obtain ⟨p, vl, vr, rfl, hpp, hvl, hvr⟩ := hv1
        have g3 : H3' p = some (.tup [vl, vr]) := s3 _ _ (s2 _ _ hpp)
        refine ⟨_, rfl, _, _, _, _, true, rfl, .ty _, .base (.tup g3), kit_ty (by decide +kernel), _, rfl, if_t rfl ?_⟩
        refine ⟨_, rfl, _, h3, ?_, s3.at hD, ?_⟩
        · have := subs_length t []
          have := ok.le
          refine sz (m := 24) ?_
          rw [List.length_map]
          refine Nat.le_trans (List.length_filterMap_le _ _) ?_
          rw [List.length_take]
          omega
        · rw [upd_same, es, List.filterMap_append]
          simp [forkOf]
    · rintro H3 ⟨s3, h3⟩
      refine k H3 D (s1.trans (s2.trans s3)) (s1.free (s2.free hD)) ?_
      rw [h3, List.length_map, paired_len pf, List.take_length, subs_forks]
/-! ### _spelled, format_tree -/
def spSpelled (n : Nat) : Sp := fun vs H Q _ => ∃ (v : V) (t : Tr Str), vs = [v] ∧ TreeAt H v t ∧ t.depth ≤ n ∧ (∀ s ∈ t.leaves, NameOk s) ∧ t.leaves.length ≤ 12 ∧ ∀ z : Str, z.length + 3 ≤ 11 * t.leaves.length → Q (.str z) H
abbrev sSpelled : Stmt := topS 27
theorem scSpelled : FnScope ["tree", "left", "right"] ["tree"] (defScope sSpelled) := ⟨rfl, rfl, rfl, by decide +kernel, rfl, by decide +kernel, by decide +kernel⟩
theorem spelled_leaf {X : Cx} {D : Ends} {H : Hp} : True := trivial
theorem ok_spelled (T : Txt K mg) : ∀ n, FnB P w K mg base CX0 (n + 1) "_spelled" (spSpelled n)
  | 0 => by
    refine T.dSpelled.ok scSpelled (fun vs H Q E h => ?_) (fun f cdv A outer s H vs Q E hr h => ?_)
    · obtain ⟨v, t, rfl, _⟩ := h
      rfl
    · obtain ⟨v, t, rfl, hv, hd, hn, h12, k⟩ := h
      refine ⟨_, pss_cons (ps_if (pt_not (pt_val (pisi "tuple" T.b (pv 0) T.b.tuple (by decide +kernel)))) (pss_one (ps_ret (pv 0))) pss_nil) pss_never, ?_⟩
      cases t with
      | leaf z =>
        have hv : v = .str z := hv
        subst hv
        refine ⟨_, rfl, _, _, _, _, false, rfl, .ty _, .base (.str _), kit_ty (by decide +kernel), _, rfl, if_t rfl ⟨_, rfl, k z ?_⟩⟩
        have := (hn z (by simp [Tr.leaves])).2.1
        simp only [Tr.leaves, List.length_cons, List.length_nil]
        omega
      | node lt rt => simp [Tr.depth] at hd
  | n + 1 => by
    have G : FnB P w K mg base CX0 (n + 1) "_spelled" (spSpelled n) := ok_spelled T n
    refine T.dSpelled.ok scSpelled (fun vs H Q E h => ?_) (fun f cdv A outer s H vs Q E hr h => ?_)
    · obtain ⟨v, t, rfl, _⟩ := h
      rfl
    · obtain ⟨v, t, rfl, hv, hd, hn, h12, k⟩ := h
      refine ⟨_, pss_cons (ps_if (pt_not (pt_val (pisi "tuple" T.b (pv 0) T.b.tuple (by decide +kernel)))) (pss_one (ps_ret (pv 0))) pss_nil)
        (pss_cons (ps_asg (pv 0) (pg_tup (by rfl) (pgs_cons (pg_name (i := 1) scSpelled.nd rfl (.inl rfl)) (pgs_cons (pg_name (i := 2) scSpelled.nd rfl (.inl rfl)) pgs_nil))))
        (pss_one (ps_ret (pe_joined (.cons pe_str (.cons (pe_fmt (pcall G hr pass0 (pa_cons (pv 1) pa_nil))) (.cons pe_str (.cons (pe_fmt (pcall G hr pass0 (pa_cons (pv 2) pa_nil))) (.cons pe_str .nil))))))))), ?_⟩
      cases t with
      | leaf z =>
        have hv : v = .str z := hv
        subst hv
        refine ⟨_, rfl, _, _, _, _, false, rfl, .ty _, .base (.str _), kit_ty (by decide +kernel), _, rfl, if_t rfl ⟨_, rfl, k z ?_⟩⟩
        have := (hn z (by simp [Tr.leaves])).2.1
        simp only [Tr.leaves, List.length_cons, List.length_nil]
        omega
      | node lt rt =>
        obtain ⟨p, vl, vr, rfl, hpp, hvl, hvr⟩ := hv
        have hd' : max lt.depth rt.depth + 1 ≤ n + 1 := hd
        have ll : lt.leaves.length + rt.leaves.length ≤ 12 := by simpa [Tr.leaves] using h12
        have e1 : ("(" : Str).length = 1 := by decide +kernel
        have e2 : (" " : Str).length = 1 := by decide +kernel
        have e3 : (")" : Str).length = 1 := by decide +kernel
        have e0 : Str.empty.length = 0 := by decide +kernel
        refine ⟨_, rfl, _, _, _, _, true, rfl, .ty _, .base (.tup hpp), kit_ty (by decide +kernel), _, rfl, if_f rfl ?_⟩
        refine ⟨_, rfl, p, _, rfl, SqT.of hpp, rfl, _, _, rfl, _, _, rfl, rfl, ?_⟩
        refine ⟨_, rfl, ?_, _, rfl, vl, lt, rfl, hvl, by omega, fun s hs => hn s (by simp [Tr.leaves, hs]), by omega, fun z hz => .inl ⟨z, rfl, sz' (show z.length ≤ 132 by omega), z, rfl, ?_, _, rfl, ?_, _, rfl, vr, rt, rfl, hvr, by omega, fun s hs => hn s (by simp [Tr.leaves, hs]), by omega, fun y hy => .inl ⟨y, rfl, sz' (show y.length ≤ 132 by omega), y, rfl, ?_, _, rfl, ?_, ?_⟩⟩⟩
        · rw [PySem.Str.length_append, e1, e0]; exact sz' (show 0 + 1 ≤ 1 by omega)
        · simp only [PySem.Str.length_append, e1, e0]; exact sz' (show 0 + 1 + z.length ≤ 133 by omega)
        · simp only [PySem.Str.length_append, e1, e0, e2]; exact sz' (show 0 + 1 + z.length + 1 ≤ 134 by omega)
        · simp only [PySem.Str.length_append, e1, e0, e2]; exact sz' (show 0 + 1 + z.length + 1 + y.length ≤ 266 by omega)
        · simp only [PySem.Str.length_append, e1, e0, e2, e3]; exact sz' (show 0 + 1 + z.length + 1 + y.length + 1 ≤ 267 by omega)
        · refine k _ ?_
          have := leaves_pos lt
          have := leaves_pos rt
          simp only [PySem.Str.length_append, e1, e0, e2, e3, Tr.leaves, List.length_append]
          omega
def spFormat : Sp := fun vs H Q _ => ∃ (v : V) (t : Tr Str), vs = [v] ∧ TreeAt H v t ∧ TreeOk t ∧ ∀ (z : Str) H', Same H H' → Q (.str z) H'
abbrev sFormat : Stmt := topS 26
theorem scFormat : FnScope ["tree"] ["tree"] (defScope sFormat) := ⟨rfl, rfl, rfl, by decide +kernel, rfl, by decide +kernel, by decide +kernel⟩
theorem ok_format (T : Txt K mg) : FnB P w K mg base CX0 14 "format_tree" spFormat := by
  have G : FnB P w K mg base CX0 3 "check_tree" spCheckTree := ok_checkTree T
  have G2 : FnB P w K mg base CX0 13 "_spelled" (spSpelled 12) := ok_spelled T 12
  refine T.dFormat.ok scFormat (fun vs H Q E h => ?_) (fun f cdv A outer s H vs Q E hr h => ?_)
  · obtain ⟨v, t, rfl, _⟩ := h
    rfl
  · obtain ⟨v, t, rfl, hv, ok, k⟩ := h
    refine ⟨_, pss_cons (ps_expr (pcall G (hr.mono (by decide)) pass0 (pa_cons (pv 0) pa_nil))) (pss_one (ps_ret (pcall G2 hr pass0 (pa_cons (pv 0) pa_nil)))), ?_⟩
    refine ⟨_, rfl, v, t, rfl, hv, ok, fun H1 s1 => ⟨_, rfl, v, t, rfl, TreeAt.same s1 hv, ?_, ok.nm, ok.le, fun z _ => k z H1 s1⟩⟩
    have := depth_leaves t
    have := ok.le
    omega
end
end FK
set_option Elab.async false
set_option linter.all false
set_option maxRecDepth 100000
set_option maxHeartbeats 4000000
/-! super().__init__(..): a def whose names are cells of its own and the cell __class__ of the written part; read at the code that runs. -/
namespace FK
open PySem PySem.Spec PyProof.Rows L2
theorem cellsFrom_app : ∀ (names : List (Str × NameKind)) (n : Nat) (acc : List (Str × Addr)), cellsFrom n names acc = cellsFrom n names [] ++ acc
  | [], n, acc => by simp [cellsFrom]
  | (x, k) :: r, n, acc => by
    unfold cellsFrom
    split
    · rw [cellsFrom_app r (n + 1) ((x, n) :: acc), cellsFrom_app r (n + 1) [(x, n)]]
      simp
    · exact cellsFrom_app r n acc
section
variable {M : Model} {A : Around} {E : Value → Shared → Prop} {s : Shared}
theorem newEnv_cl {scope : Scope} {globals : Addr} {cl : List (Str × Addr)} {binds : List (Str × Value)} {qual : Str} {func : Option Addr} {code : Value} {builtins : Addr} {Q : Env → Shared → Prop}
    (hk : scope.kind = .function) (hl : ∀ x ∈ binds, scope.names.lookup x.1 = some .local)
    (hQ : ∀ h' tk, h'.Ns s.heap.objs.size (fun x => binds.reverse.lookup x) → (∀ b o, s.heap.get? b = some o → h'.get? b = some o) →
      (∀ n c, (n, c) ∈ cellsFrom (s.heap.objs.size + 1) scope.names [] → h'.IsCell c none ∧ s.heap.objs.size + 1 ≤ c) → (cellsFrom (s.heap.objs.size + 1) scope.names []).Pairwise (fun x y => x.2 ≠ y.2) →
      Q (newEnv scope s.heap.objs.size globals (cellsFrom (s.heap.objs.size + 1) scope.names [] ++ cl) qual func code none builtins) { s with heap := h', toks := tk }) :
    wpAny M A (newFunctionEnv scope globals cl binds qual func code none builtins) Q E s := by
  simp only [newFunctionEnv, Option.isSome_none, Bool.false_eq_true, if_false]
  refine wpAny_bind (wpAny_alloc ?_)
  refine wpAny_bind (wpAny_layCells _ (fun name kind cells => by cases hkc : kind == NameKind.cell <;> simp [hkc]) _ _ _ _ ?_)
  have ok := cellsFrom_ok scope.names (s.heap.push { cls := .type "frame", data := .dict #[] }) (s.heap.objs.size + 1) [] ⟨fun _ _ hm => (nomatch hm), List.Pairwise.nil⟩ (by rw [Heap.size_push]; exact Nat.le_refl _)
  rw [Heap.size_push] at ok
  rw [show ({ s with heap := s.heap.push { cls := .type "frame", data := .dict #[] } } : Shared).heap.objs.size = s.heap.objs.size + 1 from Heap.size_push ..]
  rw [cellsFrom_app]
  simp only [newEnv] at hQ
  refine wpAny_bind ?_
  refine wpAny_forIn_list _
    (fun rest _ s' => ∃ done h' tk, binds = done ++ rest ∧ s' = { s with heap := h', toks := tk } ∧
      h'.Ns s.heap.objs.size (fun x => done.reverse.lookup x) ∧
      Heap.SameBut s.heap.objs.size (pushCells (s.heap.push { cls := .type "frame", data := .dict #[] }) scope.names) h') _ ?_ ?_ binds _
    ⟨[], _, _, rfl, rfl, (Heap.Ns.new s.heap (.type "frame")).keeps (pushCells_keeps _ _), Heap.SameBut.refl ..⟩
  · rintro ⟨name, v⟩ rest _ s' ⟨done, h', tk, hb, rfl, hns, hsb⟩
    have hk' : Env.kindOf { scope, locals := s.heap.objs.size, globals, cells := cellsFrom (s.heap.objs.size + 1) scope.names [] ++ cl, qual, func, code, frame := some s.heap.objs.size, builtins } name = some .local :=
      hl (name, v) (by rw [hb]; simp)
    have hp : (({ scope, locals := s.heap.objs.size, globals, cells := cellsFrom (s.heap.objs.size + 1) scope.names [] ++ cl, qual, func, code, frame := some s.heap.objs.size, builtins } : Env).scope.kind == .class || (({ scope, locals := s.heap.objs.size, globals, cells := cellsFrom (s.heap.objs.size + 1) scope.names [] ++ cl, qual, func, code, frame := some s.heap.objs.size, builtins } : Env).scope.kind == .module &&
        ({ scope, locals := s.heap.objs.size, globals, cells := cellsFrom (s.heap.objs.size + 1) scope.names [] ++ cl, qual, func, code, frame := some s.heap.objs.size, builtins } : Env).locals != ({ scope, locals := s.heap.objs.size, globals, cells := cellsFrom (s.heap.objs.size + 1) scope.names [] ++ cl, qual, func, code, frame := some s.heap.objs.size, builtins } : Env).globals)) = false := by
      show (scope.kind == .class || (scope.kind == .module && _)) = false
      rw [hk]; rfl
    simp only [storeName_local hk' hp]
    refine wpAny_bind (wpAny_nsSet hns fun h'' hns' hsb' => wpAny_pure ⟨done ++ [(name, v)], h'', _, by simp [hb], rfl, ?_, hsb.trans hsb'⟩)
    rw [lookup_reverse_snoc]; exact hns'
  · rintro _ s' ⟨done, h', tk, hb, rfl, hns, hsb⟩
    rw [List.append_nil] at hb; subst hb
    have kp : ∀ b o, b ≠ s.heap.objs.size → (pushCells (s.heap.push { cls := .type "frame", data := .dict #[] }) scope.names).get? b = some o → h'.get? b = some o := fun b o hb e => (hsb.2 b hb).trans e
    refine wpAny_pure (hQ h' tk hns (fun b o e => kp b o (Nat.ne_of_lt (Heap.lt_size e)) (pushCells_keeps _ _ b o (Heap.get?_push_of_some _ e))) (fun n c hm => ?_) ok.apart)
    obtain ⟨⟨o, ho, hd⟩, hc⟩ := ok.empty n c hm
    exact ⟨⟨o, kp c o (by omega) ho, hd⟩, hc⟩
end

/-! ### the context -/
abbrev clsName : Str := "__class__"
structure SScope (N ps : List Str) (sc : Scope) : Prop where
  kind : sc.kind = .function
  co : sc.isCoroutine = false
  gen : sc.isGenerator = false
  nd : N.Nodup
  pre : N.take ps.length = ps
  par : ∀ x ∈ ps, sc.names.lookup x = some .local
  free : ∀ y ∈ sc.names, y.2 = .free → y.1 = clsName
  nocc : ∀ y ∈ sc.names, y.2 = .cell → y.1 ≠ clsName
  notp : clsName ∉ N
abbrev cellsS (scope : Scope) (L cc : Addr) : List (Str × Addr) := cellsFrom (L + 1) scope.names [] ++ [(clsName, cc)]
abbrev envS (qual : Str) (scope : Scope) (L f : Addr) (cd : Value) (cc : Addr) : Env := PySem.W.envX qual scope L f cd (cellsS scope L cc)
def cxS (CX : CXT) (P : Program) (w : World) (K : PySem.W.Frag) (mg : Str → Option Value) (base : Heap) (N : List Str) (qual : Str) (scope : Scope) (f : Addr) (cd : Value) (cc : Addr) (A : Around) (outer : List Env) (s : Shared) (H : Hp) (E : XK) : Cx where
  prog := P
  w := w
  K := K
  mg := mg
  base := base
  A := A.deeper (envS qual scope s.heap.objs.size f cd cc)
  N := N
  s_0 := s
  H_0 := H
  env := envS qual scope s.heap.objs.size f cd cc
  outer := outer
  stack := envS qual scope s.heap.objs.size f cd cc :: outer
  ex := []
  calm := true
  fn := fun x => !(x == clsName)
  pn := []
  xe := fun e s' => wpAny (model P w) (A.deeper (envS qual scope s.heap.objs.size f cd cc)) (leaving (envS qual scope s.heap.objs.size f cd cc) e) (fun _ s'' => CX outer H s E e s'') (fun e' s'' => CX outer H s E e' s'') s'
theorem cellsFrom_mem {x : Str} {c : Addr} : ∀ {names : List (Str × NameKind)} {n : Nat}, (x, c) ∈ cellsFrom n names [] → ∃ y ∈ names, y.2 = .cell ∧ y.1 = x
  | [], n, h => by simp [cellsFrom] at h
  | (y, k) :: r, n, h => by
    unfold cellsFrom at h
    split at h
    · rename_i hk
      rw [cellsFrom_app] at h
      rcases List.mem_append.mp h with h | h
      · obtain ⟨z, h1, h2⟩ := cellsFrom_mem h
        exact ⟨z, List.mem_cons_of_mem _ h1, h2⟩
      · have e : x = y := by simpa using (congrArg Prod.fst (List.mem_singleton.mp h))
        exact ⟨(y, k), List.mem_cons_self, by simpa using hk, e.symm⟩
    · obtain ⟨z, h1, h2⟩ := cellsFrom_mem h
      exact ⟨z, List.mem_cons_of_mem _ h1, h2⟩
theorem lookS {scope : Scope} {L cc c : Addr} {x : Str} (h : (cellsS scope L cc).lookup x = some c) : (x, c) ∈ cellsFrom (L + 1) scope.names [] ∨ (x = clsName ∧ c = cc) := by
  unfold cellsS at h
  rw [List.lookup_append] at h
  cases e : (cellsFrom (L + 1) scope.names []).lookup x with
  | some c' =>
    rw [e] at h
    cases h
    exact .inl (PySem.mem_of_lookup e)
  | none =>
    rw [e] at h
    have h : [(clsName, cc)].lookup x = some c := h
    have := PySem.mem_of_lookup h
    simp at this
    exact .inr this
theorem inv_startS {CX : CXT} {P : Program} {w : World} {K : PySem.W.Frag} {mg : Str → Option Value} {base : Heap} {N ps : List Str} {qual : Str} {scope : Scope} {f cc : Addr} {cd : Value} {A : Around} {outer : List Env} {s : Shared} {H : Hp} {E : XK} {us : List Value} {vs : List V} {h₁ : Heap} {tk : Nat} {ccl : Value} {cld : Option Addr} {csl : Array (Option Value)} {cv : Option Value}
    (S : SScope N ps scope) (hd : A.handled = none) (e0 : Env0 P w K mg base A outer s H) (hl : vs.length = ps.length) (r : Vals vs us) (hcc : K.lookup cc = some ⟨ccl, cld, .cell cv, csl⟩)
    (hns : h₁.Ns s.heap.objs.size (fun x => (ps.zip us).reverse.lookup x)) (kp : ∀ b o, s.heap.get? b = some o → h₁.get? b = some o)
    (hcell : ∀ n c, (n, c) ∈ cellsFrom (s.heap.objs.size + 1) scope.names [] → h₁.IsCell c none ∧ s.heap.objs.size + 1 ≤ c) (apart : (cellsFrom (s.heap.objs.size + 1) scope.names []).Pairwise (fun x y => x.2 ≠ y.2)) :
    Inv (cxS CX P w K mg base N qual scope f cd cc A outer s H E) [] (L2.start N vs) H { s with heap := h₁, toks := tk } := by
  have hpl : ps.length ≤ N.length := by have := congrArg List.length S.pre; rw [List.length_take] at this; omega
  have noA : ∀ b : Addr, b ∉ (cxS CX P w K mg base N qual scope f cd cc A outer s H E).ex := fun b z => absurd (show b ∈ ([] : List Addr) from z) (by simp)
  have bc := e0.bs cc _ (e0.mod.kin _ _ hcc)
  have ccL : cc < s.heap.objs.size := Heap.lt_size bc.1
  refine ⟨⟨e0.mod, S.kind, rfl, rfl, Nat.le_refl _, fun y z c h1 h2 => ?_, fun y hy => ?_, fun y c hf h => ?_, fun _ => hd, Around.frames_deeper e0.frames, .inr ⟨rfl, rfl⟩, fun b z => absurd z (noA b), e0.bs, e0.bsz, fun b _ _ => noA b, fun b z => absurd z (noA b), e0.funs, e0.frf⟩,
    rfl, e0.bare, Un.kept kp, ⟨_, hns, fun i y v h1 h2 h3 => ?_⟩, fun y c h => ?_, e0.hok.fresh (Nat.le_refl _), fun y c h => ?_, fun p hp => absurd (show p ∈ ([] : List (Addr × Obj)) from hp) (by simp), e0.hok.kept kp, ?_⟩
  · rcases lookS h1 with h1 | ⟨h1, e1⟩ <;> rcases lookS h2 with h2 | ⟨h2, e2⟩
    · exact name_of_addr apart h1 h2
    · have := (hcell _ _ h1).2
      subst e2
      exact absurd (Nat.lt_of_lt_of_le ccL (Nat.le_of_lt this)) (Nat.lt_irrefl _)
    · have := (hcell _ _ h2).2
      subst e1
      exact absurd (Nat.lt_of_lt_of_le ccL (Nat.le_of_lt this)) (Nat.lt_irrefl _)
    · rw [h1, h2]
  · have hy : scope.names.lookup y = some .cell ∨ scope.names.lookup y = some .free := hy
    show ∃ c, (cellsS scope s.heap.objs.size cc).lookup y = some c
    unfold cellsS
    rw [List.lookup_append]
    rcases hy with hy | hy
    · obtain ⟨c, hc⟩ := cell_has (n := s.heap.objs.size + 1) hy
      exact ⟨c, by rw [hc]; rfl⟩
    · have e := S.free _ (PySem.mem_of_lookup hy) rfl
      have e : y = clsName := e
      subst e
      cases e : (cellsFrom (s.heap.objs.size + 1) scope.names []).lookup clsName with
      | some c => exact ⟨c, rfl⟩
      | none => exact ⟨cc, by simp [List.lookup]⟩
  · rcases lookS h with h | ⟨h, _⟩
    · exact Nat.le_of_lt (hcell _ _ h).2
    · subst h
      have hf : (!(clsName == clsName)) = true := hf
      simp at hf
  · have hi : i < vs.length := by
      unfold L2.start at h2
      by_cases hi : i < vs.length
      · exact hi
      · rw [List.getElem?_append_right (by simpa using hi)] at h2
        rw [List.getElem?_replicate] at h2
        split at h2 <;> cases h2
    have ha : vs[i]? = some v := by
      unfold L2.start at h2
      rw [List.getElem?_append_left (by simpa using hi), List.getElem?_map] at h2
      cases e : vs[i]? with
      | none => rw [e] at h2; cases h2
      | some a => rw [e] at h2; cases h2; rfl
    obtain ⟨u, hu, rv⟩ := r.get ha
    have hp : ps[i]? = some y := by
      rw [← S.pre, List.getElem?_take_of_lt (by omega)]; exact h1
    have ndP : ps.Nodup := by rw [← S.pre]; exact S.nd.sublist (List.take_sublist _ _)
    exact ⟨u, rv, .inl ⟨S.par y (List.mem_of_getElem? hp), NdefX.zip_look ndP hp hu⟩⟩
  · rcases lookS h with h | ⟨_, e⟩
    · exact ⟨_, (hcell _ _ h).1⟩
    · subst e
      exact ⟨cv, _, kp _ _ bc.1, rfl⟩
  · rcases lookS h with h | ⟨_, e⟩
    · exact e0.hok.fresh (Nat.le_of_lt (hcell _ _ h).2)
    · subst e
      exact bc.2
  · unfold L2.start
    show _ = N.length
    rw [List.length_append, List.length_map, List.length_replicate]
    omega
/-! ### a block at the code that runs -/
structure PSsA (X : Cx) (body : List Stmt) (st : List Stmt) (t : TS) : Prop where
  run : ∀ (pins : List (Addr × Obj)) (s : Shared) (σ : L2.St) (H : Hp) (D : Ends), Inv X pins σ H s → t D σ H → _root_.PySem.wpAt (model X.prog X.w) X.A (.func body X.env) (execs st X.env) (SP X pins D) X.xe s
structure PSA (X : Cx) (body : List Stmt) (st : Stmt) (t : TS) : Prop where
  run : ∀ (pins : List (Addr × Obj)) (s : Shared) (σ : L2.St) (H : Hp) (D : Ends), Inv X pins σ H s → t D σ H → _root_.PySem.wpAt (model X.prog X.w) X.A (.func body X.env) (exec st X.env) (SP X pins D) X.xe s
section
variable {X : Cx} {body : List Stmt} {st : Stmt} {rest : List Stmt} {t u : TS}
theorem psa_of (h : PSs X rest t) : PSsA X body rest t := ⟨fun pins s σ H D I q => _root_.PySem.wpAt_of_wpAny (h.run pins s σ H D I q)⟩
theorem psa_any (h : PS X st t) : PSA X body st t := ⟨fun pins s σ H D I q => _root_.PySem.wpAt_of_wpAny (h.run pins s σ H D I q)⟩
theorem psa_consA (h : PSA X body st t) (r : PSsA X body rest u) : PSsA X body (st :: rest) (tSeq t u) := by
  refine ⟨fun pins s σ H D I q => ?_⟩
  refine PySem.ks_wpAt_execs_cons (PySem.ks_wpAt_mono (h.run pins s σ H { D with nx := u D } I q) (fun f s' z => ?_) fun _ _ z => z)
  cases f with
  | next =>
    obtain ⟨σ', H', I', q'⟩ := z
    exact r.run pins s' σ' H' D I' q'
  | brk => exact z
  | cont => exact z
  | ret v => exact z
theorem psa_cons (h : PS X st t) (r : PSsA X body rest u) : PSsA X body (st :: rest) (tSeq t u) := psa_consA (psa_any h) r
end
/-- THE RULE: a def with the cell __class__ -/
theorem fn_sup {CX : CXT} {P : Program} {w : World} {K : PySem.W.Frag} {mg : Str → Option Value} {base : Heap} {k : Nat} {f cc : Addr} {name qual : Str} {params : Arguments} {body : List Stmt} {scope : Scope} {dV kV doc pm cdv ct oc : Value} {an od : Option Addr}
    {osl : Array (Option Value)} {N ps : List Str} {sp : Sp} {ccl : Value} {cld : Option Addr} {csl : Array (Option Value)} {cv : Option Value}
    (lk : K.lookup f = some ⟨oc, od, .func (PySem.W.fnX name qual params body scope [(clsName, cc)] dV kV doc pm an cdv ct), osl⟩) (hcc : K.lookup cc = some ⟨ccl, cld, .cell cv, csl⟩) (hcd : PySem.W.codeIn K cdv qual = true) (S : SScope N ps scope)
    (len : ∀ vs H Q E, sp vs H Q E → vs.length = ps.length)
    (hbody : ∀ (A : Around) (outer : List Env) (s : Shared) (H : Hp) (vs : List V) (Q : VK) (E : XK), Room k (A.deeper (envS qual scope s.heap.objs.size f cdv cc)) → sp vs H Q E →
      ∃ t, PSsA (cxS CX P w K mg base N qual scope f cdv cc A outer s H E) body body t ∧ t { nx := fun _ H' => Q .non H', rt := Q } (L2.start N vs) H) :
    FnOk P w K mg base CX (k + 1) f (PySem.W.fnX name qual params body scope [(clsName, cc)] dV kV doc pm an cdv ct) ps sp := by
  refine ⟨len, fun A outer s H args us vs Q E hr e0 hb r hsp => ?_⟩
  have hl := len _ _ _ _ hsp
  have KX : K.In s.heap := e0.mod.kin.keeps fun b o e => (e0.bs b o e).1
  have lim : s.heap.NoLimit := e0.mod.nolimit.keeps fun b o e => (e0.bs b o e).1
  have hloc : ∀ y ∈ ps.zip us, scope.names.lookup y.1 = some .local := fun ⟨n, v⟩ hy => S.par n (List.of_mem_zip hy).1
  refine codeAny_call_function hr.depth (KX _ _ lk) rfl S.co S.gen rfl (PySem.W.codeRec_of KX hcd) (hb _ _ _ _ ?_)
  refine newEnv_cl S.kind hloc fun h₁ tk hns kp hcell apart => ⟨lim.keeps kp, PySem.ks_codeAny_funcAt ?_⟩
  obtain ⟨t, ht, hq⟩ := hbody A outer s H vs Q E (hr.deeper _) hsp
  have I : Inv (cxS CX P w K mg base N qual scope f cdv cc A outer s H E) [] (L2.start N vs) H { s with heap := h₁, toks := tk } := inv_startS S hr.hd e0 hl r hcc hns kp hcell apart
  refine PySem.ks_wpAt_mono (ht.run [] _ (L2.start N vs) H _ I hq) (fun fl s' hs => ?_) fun e s' hs => hs
  have fin : ∀ {σ' : L2.St} {H' : Hp} {v : V} {u : Value}, Inv (cxS CX P w K mg base N qual scope f cdv cc A outer s H E) [] σ' H' s' → RelV v u → Q v H' → CE outer P w H s Q u s' :=
    fun {σ' H' v u} J rv q => ⟨v, H', J.os, J.bare, J.base, J.hok, rv, q⟩
  cases fl with
  | ret u =>
    obtain ⟨v, σ', H', J, rv, q⟩ := hs
    exact fin J rv q
  | next =>
    obtain ⟨σ', H', J, q⟩ := hs
    exact fin (v := V.non) (u := Value.none) J rfl q
  | brk =>
    obtain ⟨_, _, _, q⟩ := hs
    exact False.elim q
  | cont =>
    obtain ⟨_, _, _, q⟩ := hs
    exact False.elim q
end FK
set_option Elab.async false
set_option linter.all false
set_option maxRecDepth 100000
set_option maxHeartbeats 4000000
/-! super() and super().__init__(..) -/
namespace FK
open PySem PySem.Spec PyProof.Rows L2
/-- what stands of a def that says super() -/
structure SupC (P : Program) (K : PySem.W.Frag) (mg : Str → Option Value) (scope : Scope) (f : Addr) (fd : FuncData) (cdv : Value) (cc D : Addr) : Prop where
  lkf : ∃ oc od osl, K.lookup f = some ⟨oc, od, .func fd, osl⟩
  head : ∃ ar : Arg, (fd.params.posonlyargs ++ fd.params.args).head? = some ar ∧ ar.arg = "self"
  code : ∃ (cda : Addr) (ccl : Value) (cdd : Option Addr) (vs : Array Value) (ccs : Array (Option Value)) (file : Str) (tf : Tok), cdv = .ref cda ∧ K.lookup cda = some ⟨ccl, cdd, .fields vs, ccs⟩ ∧ vs[2]? = some (.str file tf) ∧ ((P.main.file : Str) == file) = true
  cell : ∃ ccl cld csl, K.lookup cc = some ⟨ccl, cld, .cell (some (.ref D)), csl⟩
  clsD : ∃ cdD, PySem.W.clsIn K D = some cdD
  mSuper : mg "super" = none
  ks : scope.names.lookup ("super" : Str) = some .globalImplicit
  kc : scope.names.lookup clsName = some .free
  kself : scope.names.lookup ("self" : Str) = some .local
  top : (P.main.scope.names.lookup ("super" : Str)).isSome = false
theorem lookCls {N ps : List Str} {scope : Scope} {L cc : Addr} (S : SScope N ps scope) : (cellsS scope L cc).lookup clsName = some cc := by
  unfold cellsS
  rw [List.lookup_append]
  cases e : (cellsFrom (L + 1) scope.names []).lookup clsName with
  | some c =>
    obtain ⟨y, h1, h2, h3⟩ := cellsFrom_mem (PySem.mem_of_lookup e)
    exact absurd h3 (S.nocc y h1 h2)
  | none => simp [List.lookup]
section
variable {CX : CXT} {P : Program} {w : World} {K : PySem.W.Frag} {mg : Str → Option Value} {base : Heap} {N ps : List Str} {qual : Str} {scope : Scope} {f cc D x Cx : Addr} {fd : FuncData} {cdv : Value} {A : Around} {outer : List Env} {s0 s : Shared} {H0 H : Hp} {E0' : XK} {pins : List (Addr × Obj)} {σ : L2.St}
  {body : List Stmt} {p0 p1 : Pos} {attr : Str} {whole : Sem Value} {ox : Obj} {E : Value → Shared → Prop}
theorem super_node {Q : Value → Shared → Prop} (S : SScope N ps scope) (C : SupC P K mg scope f fd cdv cc D) (I : Inv (cxS CX P w K mg base N qual scope f cdv cc A outer s0 H0 E0') pins σ H s) (h0 : σ[0]? = some (some (.ref x))) (hN : N[0]? = some ("self" : Str))
    (hx : s.heap.get? x = some ox) (hxc : ox.cls = .ref Cx) (hnc : ∀ c, ox.data ≠ .cls c) (hsub : PySem.W.mroIn K Cx (.ref D) = some true) (hat : (attr == ("__class__" : Str)) = false)
    (h : ∀ h', (∀ b o, s.heap.get? b = some o → h'.get? b = some o) → h'.get? s.heap.objs.size = some (PySem.W.ks_superObj D x Cx) → Q (.ref s.heap.objs.size) { s with heap := h' }) :
    _root_.PySem.wpAt (model P w) (A.deeper (envS qual scope s0.heap.objs.size f cdv cc)) (.func body (envS qual scope s0.heap.objs.size f cdv cc)) (attributeBase (.Call (.Name "super" p0) [] [] p1) attr (envS qual scope s0.heap.objs.size f cdv cc) whole) Q E s := by
  obtain ⟨oc, od, osl, hf⟩ := C.lkf
  obtain ⟨ar, hp, har⟩ := C.head
  obtain ⟨cda, ccl, cdd, vs, ccs, file, tf, rfl, hcode, hvs, hfile⟩ := C.code
  obtain ⟨cl, cld, csl, hcell⟩ := C.cell
  obtain ⟨cdD, hD⟩ := C.clsD
  have X : K.In s.heap := I.kIn
  obtain ⟨m, hn, hl⟩ := I.loc
  obtain ⟨mb, hb1, hb2⟩ := I.mod.blt
  obtain ⟨u, ru, lu⟩ := hl 0 "self" (.ref x) hN h0 (.inl C.kself)
  have ru : u = .ref x := ru
  subst ru
  have lu2 : m "self" = some (.ref x) := by
    rcases lu with ⟨_, z⟩ | ⟨z, _⟩
    · exact z
    · have z : scope.names.lookup ("self" : Str) = some .cell ∨ scope.names.lookup ("self" : Str) = some .free := z
      rw [C.kself] at z
      rcases z with z | z <;> cases z
  have glob : s.heap.Ns mainGlobals mg := I.mod.glob.keeps I.bk
  have blt : s.heap.Ns builtinsNs mb := hb1.keeps I.bk
  have hself : s.heap.Ns (envS qual scope s0.heap.objs.size f (.ref cda) cc).locals m := hn
  obtain ⟨hh, g, d, t, os⟩ := s
  obtain ⟨oD, hD1, hD2⟩ : ∃ oD, hh.get? D = some oD ∧ oD.data = .cls cdD := by
    unfold PySem.W.clsIn at hD
    split at hD
    · rename_i c d cd' sl ho
      cases hD
      exact ⟨_, X _ _ ho, rfl⟩
    · cases hD
  have hk : (envS qual scope s0.heap.objs.size f (.ref cda) cc).scope.kind = .function := S.kind
  refine PySem.ks_wpAt_super_base (env := envS qual scope s0.heap.objs.size f (.ref cda) cc) C.ks C.kc hat rfl (X _ _ hf) rfl hp rfl (X _ _ hcode) rfl hvs hfile C.top ?_
  refine PySem.W.ks_loadName_global hk C.ks (Calls.loadGlobal_builtin (env := envS qual scope s0.heap.objs.size f (.ref cda) cc) glob C.mSuper blt ((hb2 _ (by decide +kernel)).trans (by decide +kernel)) ⟨rfl, ?_⟩)
  refine wpAny_loadName_free hk C.kc (lookCls S) ⟨_, X _ _ hcell, rfl⟩ ?_
  rw [har]
  refine wpAny_loadName_local hk C.kself hself lu2 ?_
  refine PySem.ks_wpAny_isType_cls hD1 hD2 ⟨rfl, ?_⟩
  refine PySem.ks_wpAny_call_super hD1 hD2 hx hxc hnc (PySem.W.looks_mroIn X hsub) (fun h' e k => ?_)
  exact h h' k e
/-- an object that only the walk knows is pinned -/
theorem pin_new {X : L2.Cx} {pins : List (Addr × Obj)} {σ : L2.St} {H : Hp} {s : Shared} {h' : Heap} {q : Addr} {o : Obj} {tk : Nat} (I : Inv X pins σ H s) (k : ∀ b u, s.heap.get? b = some u → h'.get? b = some u) (hq : s.heap.objs.size ≤ q) (e : h'.get? q = some o) (hd : ∀ v, o.data ≠ .cell v) :
    Inv X (pins ++ [(q, o)]) σ H { s with heap := h', toks := tk } := by
  have I1 : Inv X pins σ H { s with heap := h', toks := tk } := I.kept k
  refine I1.pins_of fun p hp => ?_
  rcases List.mem_append.mp hp with hp | hp
  · exact I1.pin p (List.mem_append_right _ hp)
  · have e' : p = (q, o) := by simpa using hp
    subst e'
    exact ⟨e, I.hok.fresh hq, Nat.ne_of_gt (Nat.lt_of_lt_of_le I.lt hq), I.nofs hq, hd⟩
/-- super().__init__(e, ..) of an own class: x is the instance in the first slot -/
def tSupI (sp : Sp) (E : XK) (C : Addr) (ta : TA) : TS := fun D σ H => ∃ (x dx : Addr) (fs : List (Str × V)), σ[0]? = some (some (.ref x)) ∧ H x = some (.ins C dx fs) ∧ ta σ H fun vs H1 => sp (.ref x :: vs) H1 (fun _ H2 => D.nx σ H2) E
theorem psa_super {e : Expr} {es : List Expr} {ta : TA} {apos pos spos p0 p1 : Pos} {k : Nat} {f2 : Addr} {fd2 : FuncData} {ps2 : List Str} {sp : Sp} {E2 : XK} {CX2 : CXT} {cdC : ClassData} (S : SScope N ps scope) (C : SupC P K mg scope f fd cdv cc D) (hN : N[0]? = some ("self" : Str))
    (hsub : PySem.W.mroIn K Cx (.ref D) = some true) (ho : PySem.W.nsIn K PySem.cStatics "thirdparty.any" = some none) (hcC : PySem.W.clsIn K Cx = some cdC) (hal : PySem.W.alongIn K "__init__" ((cdC.mro.dropWhile (· != .ref D)).drop 1) = some (some (.ref f2)))
    (hty : PySem.W.typeIn K (.ref f2) = some (.type "function")) (hfn : PySem.W.fnIn K f2 = true)
    (F : FnOk P w K mg base CX2 k f2 fd2 ps2 sp) (hb : Binds K fd2 ps2 []) (hr : Room k (A.deeper (envS qual scope s0.heap.objs.size f cdv cc))) (hxp : Passes CX2 (cxS CX P w K mg base N qual scope f cdv cc A outer s0 H0 E0') E2)
    (ha : PA (cxS CX P w K mg base N qual scope f cdv cc A outer s0 H0 E0') (e :: es) ta)
    (hi : interactive (envS qual scope s0.heap.objs.size f cdv cc) = false := by rfl)
    (hs : swapsWith (.Call (.Attribute (.Call (.Name "super" p0) [] [] p1) "__init__" apos) (e :: es) [] pos) none spos.line (envS qual scope s0.heap.objs.size f cdv cc) = pure false := by rfl)
    {pl : Sem Bool} (he : eval (.Call (.Attribute (.Call (.Name "super" p0) [] [] p1) "__init__" apos) (e :: es) [] pos) (envS qual scope s0.heap.objs.size f cdv cc) = (do
      let ov ← attributeBase (.Call (.Name "super" p0) [] [] p1) "__init__" (envS qual scope s0.heap.objs.size f cdv cc) (eval (.Call (.Name "super" p0) [] [] p1) (envS qual scope s0.heap.objs.size f cdv cc))
      standAt apos.atName
      let (g, first) ← holding [ov] (getMethod ov "__init__" pl)
      callWith pos g first (backTo pos (starEach (e :: es) (envS qual scope s0.heap.objs.size f cdv cc))) []) := by rfl)
    (hst : starEach (e :: es) (envS qual scope s0.heap.objs.size f cdv cc) = (false, eval e (envS qual scope s0.heap.objs.size f cdv cc)) :: starEach es (envS qual scope s0.heap.objs.size f cdv cc) := by rfl)
    (hpl : (backTo pos (starEach es (envS qual scope s0.heap.objs.size f cdv cc))).any (·.1) = false := by rfl) :
    PSA (cxS CX P w K mg base N qual scope f cdv cc A outer s0 H0 E0') body (.Expr (.Call (.Attribute (.Call (.Name "super" p0) [] [] p1) "__init__" apos) (e :: es) [] pos) spos) (tSupI sp E2 Cx ta) := by
  refine ⟨fun pins s σ H D' I q => ?_⟩
  obtain ⟨x, dx, fs, h0, hH, q⟩ := q
  obtain ⟨mA, O, _⟩ := ins_get I.hok hH
  obtain ⟨hxo, _, _⟩ := id O
  refine PySem.ks_wpAt_Expr_any (PySem.ks_wpAt_MethodCall (pl := pl) ?_ he) hi hs
  refine super_node S C I h0 hN hxo rfl (fun c z => by cases z) hsub (by decide +kernel) fun h' k1 e1 => ?_
  have I1 : Inv (cxS CX P w K mg base N qual scope f cdv cc A outer s0 H0 E0') pins σ H { s with heap := h' } := I.kept (t' := s.toks) k1
  obtain ⟨of, hof, hofc⟩ : ∃ of, h'.get? f2 = some of ∧ of.cls = .type "function" := by
    have ht' : (K.lookup f2).map (·.cls) = some (.type "function") := hty
    cases z : K.lookup f2 with
    | none => rw [z] at ht'; cases ht'
    | some of => rw [z] at ht'; exact ⟨of, I1.kIn _ _ z, Option.some.inj ht'⟩
  have hxC : x ≠ Cx := by
    rintro rfl
    unfold PySem.W.clsIn at hcC
    split at hcC
    · rename_i c d cd' sl ho'
      have z : s.heap.get? x = some _ := I.kIn _ _ ho'
      rw [hxo] at z
      cases z
    · cases hcC
  obtain ⟨hp, g, dr, tk, os⟩ := s
  refine PySem.ks_wpAny_getMethod_super e1 (PySem.W.looks_opaque I1.kIn ho) (l₀ := cdC.mro) (fun A Q E s k q => wpAny_bind ((PySem.W.looks_clsIn I1.kIn hcC) A _ E s k (wpAny_pure q))) rfl I1.kIn hal hof hofc hxC (by decide +kernel) ?_
  have I2 : Inv (cxS CX P w K mg base N qual scope f cdv cc A outer s0 H0 E0') (pins ++ [(h'.objs.size, PySem.W.methodObj (.ref f2) (.ref x))]) σ H ⟨h'.push { cls := .type "method", data := .fields #[.ref f2, .ref x] }, g, dr, tk + 1, os⟩ :=
    pin_new (tk := tk + 1) I1 (fun b o e => Heap.get?_push_of_some _ e) (Nat.le_refl _) (Heap.get?_push_at rfl rfl) (fun v z => by cases z)
  show wpAny _ _ (callWith pos (.ref h'.objs.size) [] (backTo pos (starEach (e :: es) (envS qual scope s0.heap.objs.size f cdv cc))) []) _ _ _
  have hX : (cxS CX P w K mg base N qual scope f cdv cc A outer s0 H0 E0').env = envS qual scope s0.heap.objs.size f cdv cc := rfl
  have run := ha.run pos _ _ σ H _ I2 q
  rw [hX, hst] at run
  rw [hst]
  refine PySem.W.callWith_of (P := PySem.W.MethP K h'.objs.size f2 (.ref x)) (by show ((false || (backTo pos (starEach es (envS qual scope s0.heap.objs.size f cdv cc))).any (·.1)) || false) = false; rw [hpl]; rfl) (PySem.W.keeps_M hfn) (PySem.Calls.evalArgs_plain (thn run fun us s1 hq => ?_))
  obtain ⟨vs, H1, I3, r1, q1⟩ := hq
  have pq := (I3.pin (h'.objs.size, PySem.W.methodObj (.ref f2) (.ref x)) (List.mem_append_right _ (List.mem_append_right _ (by simp)))).1
  refine ⟨⟨pq, I3.kIn⟩, ?_⟩
  have r2 : Vals (V.ref x :: vs) (Value.ref x :: us) := .cons rfl r1
  have hl : (Value.ref x :: us ++ []).length = ps2.length := by
    rw [List.append_nil, ← r2.length]
    exact F.len _ _ _ _ q1
  have hbx := hb s1 (Value.ref x :: us) I3.kIn hl
  rw [List.append_nil] at hbx
  refine wpAny_call (PySem.ks_codeAny_call_bound pq (codeAny_mono (F.run _ _ s1 H1 ⟨Value.ref x :: us, []⟩ (Value.ref x :: us) (V.ref x :: vs) _ E2 hr I3.env0 hbx r2 q1) fun r s' hq => ?_))
  cases r with
  | error e => exact hxp _ σ H1 s1 e s' I3 hq
  | ok fl =>
    cases fl with
    | ret u =>
      obtain ⟨v, H2, I4, rv, q2⟩ := I3.after hq
      exact ⟨σ, H2, I4.unpinned, q2⟩
    | next => exact False.elim hq
    | brk => exact False.elim hq
    | cont => exact False.elim hq
end
end FK
set_option Elab.async false
set_option linter.all false
set_option maxRecDepth 100000
set_option maxHeartbeats 4000000
/-! super().__init__(e) of an own exception over ValueError -/
namespace FK
open PySem PySem.Spec PyProof.Rows L2
section
open PySem.W
variable {prog : Program} {w : World} {A : Around} {E : Value → Shared → Prop} {h : Heap} {g : Array GenState} {d : Drawn} {t : Nat} {os : OsState}
variable {nm q : Str} {C N : Addr} {bs bm : List Value} {hdct : Bool} {sn : List Str} {sub : List Value} {ab : Bool} {col : Option Bool} {dd : Option Addr} {k0 k1 k2 k3 k5 : Option Value}
theorem call_mwVE {u e t0 : Addr} {rest : List Value} {Q : Value → Shared → Prop}
    (hC : h.get? C = some (excClassObj nm q C N bs bm hdct sn sub ab col dd k0 k1 k2 k3 k5 "ValueError.__new__")) (he : h.get? e = some (PySem.HandSPX.excO C t0)) (hu : h.get? u = some (kxs_mw "ValueError.__init__" e)) (hrest : rest.length ≤ sizeLine)
    (hq : ∀ h' t1, (∀ b o, b ≠ e → h.get? b = some o → h'.get? b = some o) → h'.get? e = some (PySem.HandSPX.excO C t1) → Q .none ⟨h', g, d, t, os⟩) :
    wpAny (model prog w) A (call (.ref u) rest) Q E ⟨h, g, d, t, os⟩ := by
  refine wpAny_call (codeAny_of_tree ?_)
  show wpAny _ A.in1 (callAny (.ref u) ⟨rest, []⟩) _ _ _
  simp only [callAny]
  refine wpAny_bind (wpAny_load hu ?_)
  simp only [kxs_mw, show (Value.type "method-wrapper" == Value.type "method" || Value.type "method-wrapper" == Value.type "builtin_function_or_method" || Value.type "method-wrapper" == Value.type "method-wrapper") = true by decide, if_true]
  refine W.KFB.if_so (by decide) ?_
  refine wpAny_bind (PySem.ESX.check_bound F.excBase_ValueError hC he rfl ?_)
  refine wpAny_bind (wpAny_pure (wpAny_pure ?_))
  refine ⟨Code.quiet_builtin _ (by decide +kernel), codeAny_builtin F.excBase_ValueError.initEntry ?_⟩
  rw [Around.under_plainId F.excBase_ValueError.init.plain _]
  wp_walk
  refine hq _ h.objs.size (fun b o hb ho => ?_) ?_
  · rw [Heap.get?_update_other _ _ (Ne.symm hb)]
    exact Heap.get?_push_of_some _ ho
  · rw [Heap.get?_update_self _ (Heap.get?_push_of_some _ he) rfl]
    rfl
end
/-- super().__init__(e, ..) in the __init__ of the exception at x -/
def tSupE (C : Addr) (ta : TA) : TS := fun D σ H => ∃ x : Addr, σ[0]? = some (some (.ref x)) ∧ H x = some (exo x C none) ∧ ta σ H fun vs H1 => vs.length ≤ 1000 ∧ H1 x = some (exo x C none) ∧ D.nx σ H1
section
variable {CX : CXT} {P : Program} {w : World} {K : PySem.W.Frag} {mg : Str → Option Value} {base : Heap} {N ps : List Str} {qual : Str} {scope : Scope} {f cc D x C : Addr} {fd : FuncData} {cdv : Value} {A : Around} {outer : List Env} {s0 s : Shared} {H0 H : Hp} {E0' : XK}
  {body : List Stmt} {p0 p1 : Pos}
theorem psa_superE {e : Expr} {es : List Expr} {ta : TA} {apos pos spos p0 p1 : Pos} {cdC : ClassData} (S : SScope N ps scope) (Sc : SupC P K mg scope f fd cdv cc D) (hN : N[0]? = some ("self" : Str)) (T : OexC K C)
    (hsub : PySem.W.mroIn K C (.ref D) = some true) (ho : PySem.W.nsIn K PySem.cStatics "thirdparty.any" = some none) (hcC : PySem.W.clsIn K C = some cdC) (hal : PySem.W.alongIn K "__init__" ((cdC.mro.dropWhile (· != .ref D)).drop 1) = some (some (.builtin "ValueError.__init__")))
    (hB : PySem.W.subIn K (.ref C) (.type "ValueError") = some true)
    (ha : PA (cxS CX P w K mg base N qual scope f cdv cc A outer s0 H0 E0') (e :: es) ta)
    (hi : interactive (envS qual scope s0.heap.objs.size f cdv cc) = false := by rfl)
    (hs : swapsWith (.Call (.Attribute (.Call (.Name "super" p0) [] [] p1) "__init__" apos) (e :: es) [] pos) none spos.line (envS qual scope s0.heap.objs.size f cdv cc) = pure false := by rfl)
    {pl : Sem Bool} (he : eval (.Call (.Attribute (.Call (.Name "super" p0) [] [] p1) "__init__" apos) (e :: es) [] pos) (envS qual scope s0.heap.objs.size f cdv cc) = (do
      let ov ← attributeBase (.Call (.Name "super" p0) [] [] p1) "__init__" (envS qual scope s0.heap.objs.size f cdv cc) (eval (.Call (.Name "super" p0) [] [] p1) (envS qual scope s0.heap.objs.size f cdv cc))
      standAt apos.atName
      let (g, first) ← holding [ov] (getMethod ov "__init__" pl)
      callWith pos g first (backTo pos (starEach (e :: es) (envS qual scope s0.heap.objs.size f cdv cc))) []) := by rfl)
    (hst : starEach (e :: es) (envS qual scope s0.heap.objs.size f cdv cc) = (false, eval e (envS qual scope s0.heap.objs.size f cdv cc)) :: starEach es (envS qual scope s0.heap.objs.size f cdv cc) := by rfl)
    (hpl : (backTo pos (starEach es (envS qual scope s0.heap.objs.size f cdv cc))).any (·.1) = false := by rfl) :
    PSA (cxS CX P w K mg base N qual scope f cdv cc A outer s0 H0 E0') body (.Expr (.Call (.Attribute (.Call (.Name "super" p0) [] [] p1) "__init__" apos) (e :: es) [] pos) spos) (tSupE C ta) := by
  refine ⟨fun pins s σ H D' I q => ?_⟩
  obtain ⟨x, h0, hH, q⟩ := q
  obtain ⟨t1, hxo⟩ := exo_at I.hok hH
  refine PySem.ks_wpAt_Expr_any (PySem.ks_wpAt_MethodCall (pl := pl) ?_ he) hi hs
  refine super_node S Sc I h0 hN hxo rfl (fun c z => by cases z) hsub (by decide +kernel) fun h' k1 e1 => ?_
  have I1 : Inv (cxS CX P w K mg base N qual scope f cdv cc A outer s0 H0 E0') pins σ H { s with heap := h' } := I.kept (t' := s.toks) k1
  have hx1 := k1 _ _ hxo
  have hxC : x ≠ C := by
    rintro rfl
    unfold PySem.W.clsIn at hcC
    split at hcC
    · rename_i c d cd' sl ho'
      have z : s.heap.get? x = some _ := I.kIn _ _ ho'
      rw [hxo] at z
      cases z
    · cases hcC
  obtain ⟨hp, g, dr, tk, os⟩ := s
  have J : PySem.W.InstAt h' x { cls := .ref C, dict := none, data := .fields #[.ref t1, .none, .none, .none, .bool false, .none] } C none := ⟨hx1, rfl, rfl, trivial⟩
  refine PySem.W.kxs_getMethod PySem.W.kxs_ValueError e1 (PySem.W.looks_opaque I1.kIn ho) (l₀ := cdC.mro) (fun A Q E s k q => wpAny_bind ((PySem.W.looks_clsIn I1.kIn hcC) A _ E s k (wpAny_pure q))) rfl I1.kIn hal (J.type.andThen (PySem.W.looks_subIn I1.kIn hB)) hxC (by decide +kernel) ?_
  have I2 : Inv (cxS CX P w K mg base N qual scope f cdv cc A outer s0 H0 E0') (pins ++ [(h'.objs.size, PySem.W.kxs_mw "ValueError.__init__" x)]) σ H ⟨h'.push (PySem.W.kxs_mw "ValueError.__init__" x), g, dr, tk + 1, os⟩ :=
    pin_new (tk := tk + 1) I1 (fun b o e => Heap.get?_push_of_some _ e) (Nat.le_refl _) (Heap.get?_push_at rfl rfl) (fun v z => by cases z)
  show wpAny _ _ (callWith pos (.ref h'.objs.size) [] (backTo pos (starEach (e :: es) (envS qual scope s0.heap.objs.size f cdv cc))) []) _ _ _
  have hX : (cxS CX P w K mg base N qual scope f cdv cc A outer s0 H0 E0').env = envS qual scope s0.heap.objs.size f cdv cc := rfl
  have run := ha.run pos _ _ σ H _ I2 q
  rw [hX, hst] at run
  rw [hst]
  refine PySem.W.kxs_callWith (i := "ValueError.__init__") (x := x) (by show (false || (backTo pos (starEach es (envS qual scope s0.heap.objs.size f cdv cc))).any (·.1)) = false; rw [hpl]; rfl) (PySem.Calls.evalArgs_plain (thn run fun us s1 hq => ?_))
  obtain ⟨vs, H1, I3, r1, hlen, hH1, q1⟩ := hq
  have pq := (I3.pin (h'.objs.size, PySem.W.kxs_mw "ValueError.__init__" x) (List.mem_append_right _ (List.mem_append_right _ (by simp)))).1
  refine ⟨pq, ?_⟩
  obtain ⟨nm, qn, N', bs, bm, sn, sub, ab, col, dd, c0, c1, c2, c3, c5, hC, hbm⟩ := T.cls
  obtain ⟨t2, hx2⟩ := exo_at I3.hok hH1
  have hus : us.length ≤ sizeLine := by
    rw [← Paired.length r1, sizeLine_eq]
    omega
  obtain ⟨hp1, g1, dr1, tk1, os1⟩ := s1
  refine call_mwVE (I3.kIn _ _ hC) hx2 pq hus fun h2 t3 k2 e2 => ?_
  have J1 := I3.write (t' := tk1) (x := x) (e := x) (o := exo x C none) (by rw [hH1]; exact True.intro) (.inl rfl) k2 ⟨_, e2⟩ (exo_ok e2)
  have eu : upd H1 x (exo x C none) = H1 := by
    funext b
    by_cases hb : b = x
    · rw [hb, upd_same, hH1]
    · rw [upd_ne hb]
  rw [eu] at J1
  exact ⟨σ, H1, J1.unpinned, q1⟩
end
end FK
set_option Elab.async false
set_option linter.all false
set_option maxRecDepth 100000
set_option maxHeartbeats 4000000
/-! The three errors that are raised. -/
namespace FK
open PySem PySem.Spec PyProof.Rows L2
/-! ### a def with super(), as it stands -/
structure SupDef (P : Program) (K : PySem.W.Frag) (mg : Str → Option Value) (C D : Addr) (qual : Str) (st : Stmt) (ps : List Str) (ds : List Value) : Prop where
  ex : ∃ (f cc : Addr) (fd : FuncData) (cdv oc : Value) (od : Option Addr) (dV kV doc pm ct : Value) (an : Option Addr) (osl : Array (Option Value)) (ccl : Value) (cld : Option Addr) (csl : Array (Option Value)),
    fd = PySem.W.fnX "__init__" qual (defArgs st) (defBody st) (defScope st) [(clsName, cc)] dV kV doc pm an cdv ct ∧ K.lookup f = some ⟨oc, od, .func fd, osl⟩ ∧ PySem.W.codeIn K cdv qual = true ∧
    SupC P K mg (defScope st) f fd cdv cc D ∧ K.lookup cc = some ⟨ccl, cld, .cell (some (.ref D)), csl⟩ ∧ PySem.W.findIn K (.ref C) "__init__" = some (some (.ref f)) ∧ PySem.W.typeIn K (.ref f) = some (.type "function") ∧ PySem.W.keepIn K (.ref f) = true ∧ Binds K fd ps ds
/-- the __init__ of the class at C keeps sp -/
def FnI (P : Program) (w : World) (K : PySem.W.Frag) (mg : Str → Option Value) (base : Heap) (CX : CXT) (k : Nat) (C : Addr) (ds : List Value) (sp : Sp) : Prop :=
  ∃ (f : Addr) (fd : FuncData) (ps : List Str), PySem.W.findIn K (.ref C) "__init__" = some (some (.ref f)) ∧ PySem.W.typeIn K (.ref f) = some (.type "function") ∧ PySem.W.keepIn K (.ref f) = true ∧ FnOk P w K mg base CX k f fd ps sp ∧ Binds K fd ps ds
theorem SupDef.ok {P : Program} {w : World} {K : PySem.W.Frag} {mg : Str → Option Value} {base : Heap} {CX : CXT} {k : Nat} {C D : Addr} {qual : Str} {st : Stmt} {ps N : List Str} {ds : List Value} {sp : Sp} (Dd : SupDef P K mg C D qual st ps ds) (S : SScope N ps (defScope st)) (len : ∀ vs H Q E, sp vs H Q E → vs.length = ps.length)
    (hbody : ∀ (f cc : Addr) (fd : FuncData) (cdv : Value) (A : Around) (outer : List Env) (s : Shared) (H : Hp) (vs : List V) (Q : VK) (E : XK), SupC P K mg (defScope st) f fd cdv cc D → Room k (A.deeper (envS qual (defScope st) s.heap.objs.size f cdv cc)) → sp vs H Q E →
      ∃ t, PSsA (cxS CX P w K mg base N qual (defScope st) f cdv cc A outer s H E) (defBody st) (defBody st) t ∧ t { nx := fun _ H' => Q .non H', rt := Q } (L2.start N vs) H) : FnI P w K mg base CX (k + 1) C ds sp := by
  obtain ⟨f, cc, fd, cdv, oc, od, dV, kV, doc, pm, ct, an, osl, ccl, cld, csl, rfl, lk, hcd, SC, hcc, hfi, hty, hkp, hb⟩ := Dd.ex
  exact ⟨f, _, ps, hfi, hty, hkp, fn_sup lk hcc hcd S len fun A outer s H vs Q E hr h => hbody f cc _ cdv A outer s H vs Q E SC hr h, hb⟩
/-- what an own error over ValueError needs -/
structure ErrC (K : PySem.W.Frag) (mg : Str → Option Value) (x : Str) (C : Addr) : Prop where
  g : mg x = some (.ref C)
  oc : OexC K C
  mro : PySem.W.mroIn K C (.ref C) = some true
  any : PySem.W.nsIn K PySem.cStatics "thirdparty.any" = some none
  cls : ∃ cdC, PySem.W.clsIn K C = some cdC ∧ PySem.W.alongIn K "__init__" ((cdC.mro.dropWhile (· != .ref C)).drop 1) = some (some (.builtin "ValueError.__init__"))
  ve : PySem.W.subIn K (.ref C) (.type "ValueError") = some true
/-! ### C() without arguments, no field of its own -/
def tMkO0 (C : Addr) (sp : Sp) (dvs : List V) : L2.St → Hp → XK → Prop := fun σ H Q => ∀ a, H a = none → sp (.ref a :: dvs) (upd H a (exo a C none)) (fun v H2 => v = .non ∧ H2 a = some (exo a C none) ∧ Q (.ref C) none (del H2 a)) (fun _ _ _ => False)
section
variable {X : L2.Cx}
theorem mk_end00 {pins : List (Addr × Obj)} {σ : L2.St} {H1 H2 : Hp} {hp hp2 h2 : Heap} {g1 g2 : Array GenState} {d1 d2 : Drawn} {t1 t2 : Nat} {os1 os2 : OsState} {a C : Addr} (I1 : Inv X pins σ H1 ⟨hp, g1, d1, t1, os1⟩)
    (ha : hp.objs.size ≤ a) (k : ∀ b o, hp.get? b = some o → hp2.get? b = some o) (un : Un (frs X.stack) [] (upd H1 a (exo a C none)) H2 hp2 h2) (hok : HOk X.prog X.w H2 h2) (ho : os2 = os1) (hb : AllBare g2)
    (ea : H2 a = some (exo a C none)) :
    ∃ (t0 : Addr) (G : Heap), Inv X pins σ (del H2 a) ⟨G, g2, d2, t2, os2⟩ ∧ (∀ b o, G.get? b = some o → h2.get? b = some o) ∧ G.get? a = none ∧
      h2.get? a = some ({ cls := .ref C, dict := none, data := .fields #[.ref t0, .none, .none, .none, .bool false, .none] } : Obj) ∧ (del H2 a) a = none := by
  obtain ⟨t0, hoe⟩ := exo_at hok ea
  have hn : H1 a = none := I1.hok.fresh ha
  obtain ⟨G, g1', g2'⟩ := restrict h2 fun b => decide (b ≠ a)
  have gk : ∀ b, b ≠ a → G.get? b = h2.get? b := fun b hb => g1' b (decide_eq_true hb)
  have ge : G.get? a = none := g2' a (by simp)
  have nha : ∀ {b : Addr} {o : Obj}, hp.get? b = some o → b ≠ a := fun {b o} z => Nat.ne_of_lt (Nat.lt_of_lt_of_le (Heap.lt_size z) ha)
  have up : ∀ {b : Addr}, b ≠ a → H1 b = none → upd H1 a (exo a C none) b = none := fun {b} hb n => by rw [upd_ne hb]; exact n
  have U : Un (frs X.stack) [] H1 (del H2 a) hp G := {
    keep := fun b o z n hf hx => by
      rw [gk b (nha z)]
      exact un.keep b o (k b o z) (up (nha z) n) hf hx
    slot := fun b o z n hf hx => by
      rw [gk b (nha z)]
      exact un.slot b o (k b o z) (up (nha z) n) hf hx
    free := fun b o z n hx => by
      rw [del_ne (nha z)]
      exact un.free b o (k b o z) (up (nha z) n) hx
    there := fun b o z hx => by
      rw [gk b (nha z)]
      exact un.there b o (k b o z) hx
    tups := fun b xs z => by
      rw [del_ne (ne_of_none z hn)]
      exact un.tups b xs (by rw [upd_ne (ne_of_none z hn)]; exact z)
    frzs := fun b o v z => by
      rw [del_ne (ne_of_none z hn)]
      exact un.frzs b o v (by rw [upd_ne (ne_of_none z hn)]; exact z)
    tbls := fun b ps z => by
      rw [del_ne (ne_of_none z hn)]
      exact un.tbls b ps (by rw [upd_ne (ne_of_none z hn)]; exact z) }
  have hok3 : HOk X.prog X.w (del H2 a) G := fun b o z => by
    have hba : b ≠ a := fun e => by
      rw [e, del_same] at z
      cases z
    rw [del_ne hba] at z
    have noa : ∀ {c : Addr}, H2 c = some (.own b) → c ≠ a := fun {c} hc => at_ne ea hc exo_own
    exact (hok b o z).stay (fun c v hc y => by
        have hca : c ≠ a := by
          rcases hc with hc | hc
          · rw [hc]
            exact hba
          · exact noa hc
        rw [gk c hca]
        exact y)
      (fun c hc => by rw [del_ne (noa hc)]; exact hc) (fun c xs hc => by rw [del_ne (at_ne ea hc exo_tup)]; exact hc)
  have J : Inv X pins σ (del H2 a) ⟨G, g2, d2, t2, os2⟩ := I1.call' (ch := []) ho U hok3 hb (fun b z => absurd z (by simp))
  refine ⟨t0, G, J, fun b o z => ?_, ge, hoe, del_same⟩
  by_cases hba : b = a
  · rw [hba, ge] at z
    cases z
  · exact (gk b hba).symm.trans z
theorem pmk_oex0 {CX : CXT} {x : Str} {C : Addr} {k : Nat} {sp : Sp} {ds : List Value} {dvs : List V} {p pos : Pos} (T : OexC X.K C) (F : FnI X.prog X.w X.K X.mg X.base CX k C ds sp) (hr : Room (k + 1) X.A) (hd : Vals dvs ds) (hx : Passes CX X (fun _ _ _ => False)) (hm : X.mg x = some (.ref C)) (hg : Gl X x := by rfl)
    (hdb : (x == ("__debug__" : Str)) = false := by decide) : PMk X (.Call (.Name x p) [] [] pos) (tMkO0 C sp dvs) := by
  intro pins s σ H1 Q I1 q1
  obtain ⟨fI, fd, ps, iC, tI, _, F1, hb⟩ := F
  obtain ⟨nm, q, N, bs, bm, sn, sub, ab, col, dd, k0, k1, k2, k3, k5, hC, hbm⟩ := T.cls
  refine wpAny_Call_Name_kw (ld_glob I1 hg hm ?_ hdb)
  refine PySem.W.callWith_K0 I1.kIn T.kC ?_
  show wpAny _ _ (call (.ref C) []) _ _ _
  obtain ⟨hp, g, dr, tk, os⟩ := s
  have hsz : hp.objs.size ≤ hp.objs.size + 1 := Nat.le_succ _
  have hn : H1 (hp.objs.size + 1) = none := I1.hok.fresh hsz
  have hq := q1 (hp.objs.size + 1) hn
  have kk : ∀ b o, hp.get? b = some o → ((hp.push (PySem.W.kdv_tup [])).push (PySem.HandSPX.excO C hp.objs.size)).get? b = some o := fun b o e => Heap.get?_push_of_some _ (Heap.get?_push_of_some _ e)
  have hget : ((hp.push (PySem.W.kdv_tup [])).push (PySem.HandSPX.excO C hp.objs.size)).get? (hp.objs.size + 1) = some (PySem.HandSPX.excO C hp.objs.size) := by heap_get
  have I2 : Inv X pins σ (upd H1 (hp.objs.size + 1) (exo (hp.objs.size + 1) C none)) ⟨(hp.push (PySem.W.kdv_tup [])).push (PySem.HandSPX.excO C hp.objs.size), g, dr, tk, os⟩ :=
    I1.laid (t' := tk) (a := hp.objs.size + 1) (o := exo (hp.objs.size + 1) C none) (h' := (hp.push (PySem.W.kdv_tup [])).push (PySem.HandSPX.excO C hp.objs.size)) kk hsz (exo_ok hget)
  have r2 : Vals (V.ref (hp.objs.size + 1) :: dvs) (Value.ref (hp.objs.size + 1) :: ds) := .cons rfl hd
  have hl : ([Value.ref (hp.objs.size + 1)] ++ ds).length = ps.length := by
    have e := r2.length
    rw [F1.len _ _ _ _ hq] at e
    exact e.symm
  refine wpAny_call (PySem.HandSPX.call_own F.excBase_ValueError (fun Y => PySem.HandSPX.refsVE_contains Y bm hbm) (I1.kIn _ _ hC) (PySem.W.looks_findIn I1.kIn iC) (fun self => PySem.W.bind_fn I1.kIn self tI) (Nat.zero_le _)
    (codeAny_mono (F1.run _ X.stack _ _ ⟨[Value.ref (hp.objs.size + 1)], []⟩ (Value.ref (hp.objs.size + 1) :: ds) _ _ (fun _ _ _ => False) (hr.make C [] []) (I2.env0.make C [] []) (hb _ [Value.ref (hp.objs.size + 1)] I2.kIn hl) r2 hq) fun r s' hq' => ?_))
  cases r with
  | error er => exact hx pins σ _ _ er s' I2 hq'
  | ok fl =>
    cases fl with
    | ret u =>
      obtain ⟨v, H2, os2, bare2, un2, hok2, rv, ev, ea, q2⟩ := hq'
      subst ev
      obtain ⟨h2, g2, d2, t2, os'⟩ := s'
      obtain ⟨t0, G, J, kG, ge, hoe, na⟩ := mk_end00 (d2 := d2) (t2 := t2) I1 hsz kk un2 hok2 os2 bare2 ea
      exact ⟨rv, ⟨_, _, _, ⟨G, g2, d2, t2, os'⟩, _, .ref C, none, rfl, J, kG, ge, hoe, ⟨rfl, rfl⟩, rfl, rfl, na, rfl, bare2, raises_own T.exC T.tyC, q2⟩⟩
    | next => exact False.elim hq'
    | brk => exact False.elim hq'
    | cont => exact False.elim hq'
/-- C(e, ..) -/
theorem pmk_oexI {CX : CXT} {x : Str} {C : Addr} {k : Nat} {sp : Sp} {e : Expr} {es : List Expr} {ta : TA} {p pos : Pos} (T : OexC X.K C) (F : FnI X.prog X.w X.K X.mg X.base CX k C [] sp) (hr : Room (k + 1) X.A) (hx : Passes CX X (fun _ _ _ => False)) (hm : X.mg x = some (.ref C)) (ha : PA X (e :: es) ta) (hg : Gl X x := by rfl)
    (hdb : (x == ("__debug__" : Str)) = false := by decide) (he : starEach (e :: es) X.env = (false, eval e X.env) :: starEach es X.env := by rfl) (hpl : (backTo pos (starEach es X.env)).any (·.1) = false := by rfl) :
    PMk X (.Call (.Name x p) (e :: es) [] pos) (tMkO C sp [] ta) := by
  obtain ⟨fI, fd, ps, iC, tI, _, F1, hb⟩ := F
  exact pmk_oex T iC tI F1 hr hb .nil hx hg hm ha hdb he hpl
end
end FK
set_option Elab.async false
set_option linter.all false
set_option maxRecDepth 100000
set_option maxHeartbeats 4000000
/-! The errors as they are made and raised. -/
namespace FK
open PySem PySem.Spec PyProof.Rows L2
structure ErrTxt (P : Program) (K : PySem.W.Frag) (mg : Str → Option Value) (c : Cs) : Prop where
  eState : ErrC K mg "InvalidState" c.eState
  eWriter : ErrC K mg "UnknownWriter" c.eWriter
  eEvent : ErrC K mg "InvalidEvent" c.eEvent
  iState : ∃ t, SupDef P K mg c.eState c.eState "InvalidState.__init__" (inClass (topS 7) 0) ["self", "message"] [.str "there is no such state of the cells" t]
  iWriter : SupDef P K mg c.eWriter c.eWriter "UnknownWriter.__init__" (inClass (topS 5) 0) ["self", "writer"] []
  iEvent : SupDef P K mg c.eEvent c.eEvent "InvalidEvent.__init__" (inClass (topS 9) 0) ["self", "index"] []
  noW : PySem.W.findIn K (.ref c.eWriter) "writer" = some none
  noI : PySem.W.findIn K (.ref c.eEvent) "index" = some none
theorem call_repr_str {X : L2.Cx} : CallR X (.builtin "repr") (fun xs H Q => ∃ z, xs = [.str z] ∧ (reprText z).length ≤ sizeLine ∧ Q (.str (reprText z)) H) := by
  intro pins s σ H xs us Q I r h
  obtain ⟨z, rfl, hz, q⟩ := h
  obtain ⟨u, rfl, t, rfl⟩ := vals1 r
  exact PySem.P.repr_of_str ⟨.str _, H, I.tok _, ⟨_, rfl⟩, q⟩ hz
theorem NameOk.repr {z : Str} (h : NameOk z) : (reprText z).length ≤ 82 := by
  have h1 := StrLaws.reprText_len z fun c hc => by
    have : ∀ c ∈ abc.cps.toList, c < 16 ^ 8 := by decide +kernel
    exact this c (h.2.2 c hc)
  have := h.2.1
  omega
section
variable {P : Program} {w : World} {K : PySem.W.Frag} {mg : Str → Option Value} {base : Heap} {c : Cs}
def spShown : Sp := fun vs H Q _ => ∃ z : Str, vs = [.str z] ∧ NameOk z ∧ ∀ y : Str, y.length ≤ 82 → Q (.str y) H
abbrev sShown : Stmt := topS 2
theorem scShown : FnScope ["value"] ["value"] (defScope sShown) := ⟨rfl, rfl, rfl, by decide +kernel, rfl, by decide +kernel, by decide +kernel⟩
theorem ok_shown (T : Txt K mg) : FnB P w K mg base CX0 1 "_shown" spShown := by
  refine T.dShown.ok scShown (fun vs H Q E h => ?_) (fun f cdv A outer s H vs Q E hr h => ?_)
  · obtain ⟨z, rfl, _⟩ := h
    rfl
  · obtain ⟨z, rfl, hz, k⟩ := h
    refine ⟨_, pss_cons (ps_if (pt_val (pisi "str" T.b (pv 0) T.b.str (by decide +kernel))) (pss_one (ps_ret (pe_callB call_repr_str (by rfl) T.b.repr (by decide +kernel) (pa_cons (pv 0) pa_nil)))) pss_nil) (pss_one (ps_ret pe_str)), ?_⟩
    exact ⟨_, rfl, _, _, _, _, true, rfl, .ty _, .base (.str _), kit_ty (by decide +kernel), _, rfl, if_t rfl ⟨_, rfl, z, rfl, sz' hz.repr, k _ hz.repr⟩⟩
/-- an error that keeps its argument -/
def spInitF (C : Addr) (fld : Str) (ok : V → Prop) : Sp := fun vs H Q _ => ∃ (a : Addr) (v : V), vs = [.ref a, v] ∧ ok v ∧ H a = some (exo a C none) ∧ ∀ d, H d = none → d ≠ a → Q .non (upd (upd H d (exd d [(fld, v)])) a (exo a C (some d)))
def spInitS (C : Addr) : Sp := fun vs H Q _ => ∃ (a : Addr), vs = [.ref a, .str "there is no such state of the cells"] ∧ H a = some (exo a C none) ∧ Q .non H
abbrev sUW : Stmt := inClass (topS 5) 0
theorem scUW : SScope ["self", "writer"] ["self", "writer"] (defScope sUW) := ⟨rfl, rfl, rfl, by decide +kernel, rfl, by decide +kernel, by decide +kernel, by decide +kernel, by decide +kernel⟩
abbrev sIS : Stmt := inClass (topS 7) 0
theorem scIS : SScope ["self", "message"] ["self", "message"] (defScope sIS) := ⟨rfl, rfl, rfl, by decide +kernel, rfl, by decide +kernel, by decide +kernel, by decide +kernel, by decide +kernel⟩
abbrev sIE : Stmt := inClass (topS 9) 0
theorem scIE : SScope ["self", "index"] ["self", "index"] (defScope sIE) := ⟨rfl, rfl, rfl, by decide +kernel, rfl, by decide +kernel, by decide +kernel, by decide +kernel, by decide +kernel⟩
theorem ok_initS (R : ErrTxt P K mg c) : ∃ t, FnI P w K mg base CX0 1 c.eState [.str "there is no such state of the cells" t] (spInitS c.eState) := by
  obtain ⟨t, D⟩ := R.iState
  refine ⟨t, D.ok scIS (fun vs H Q E h => ?_) (fun f cc fd cdv A outer s H vs Q E SC hr h => ?_)⟩
  · obtain ⟨a, rfl, _⟩ := h
    rfl
  · obtain ⟨a, rfl, ha, k⟩ := h
    obtain ⟨cdC, hcC, hal⟩ := R.eState.cls
    refine ⟨_, psa_consA (psa_superE scIS SC rfl R.eState.oc R.eState.mro R.eState.any hcC hal R.eState.ve (pa_cons (pv 1) pa_nil)) (psa_of pss_nil), ?_⟩
    exact ⟨a, rfl, ha, _, rfl, by decide, ha, k⟩
theorem ok_initW (T : Txt K mg) (R : ErrTxt P K mg c) : FnI P w K mg base CX0 2 c.eWriter [] (spInitF c.eWriter "writer" fun v => ∃ z, v = .str z ∧ NameOk z) := by
  have G : FnB P w K mg base CX0 1 "_shown" spShown := ok_shown T
  refine R.iWriter.ok scUW (fun vs H Q E h => ?_) (fun f cc fd cdv A outer s H vs Q E SC hr h => ?_)
  · obtain ⟨a, v, rfl, _⟩ := h
    rfl
  · obtain ⟨a, v, rfl, ⟨z, rfl, hz⟩, ha, k⟩ := h
    obtain ⟨cdC, hcC, hal⟩ := R.eWriter.cls
    refine ⟨_, psa_consA (psa_superE scUW SC rfl R.eWriter.oc R.eWriter.mro R.eWriter.any hcC hal R.eWriter.ve (pa_cons (pe_joined (.cons (pe_fmt (pcall G hr pass0 (pa_cons (pv 1) pa_nil))) (.cons pe_str .nil))) pa_nil)) (psa_of (pss_one (ps_ost (pv 0) (pv 1)))), ?_⟩
    have e0 : Str.empty.length = 0 := by decide +kernel
    have e1 : (" is not a writer here" : Str).length = 21 := by decide +kernel
    refine ⟨a, rfl, ha, _, rfl, z, rfl, hz, fun y hy => .inl ⟨y, rfl, sz' hy, y, rfl, ?_, _, rfl, ?_, by show 1 ≤ 1000; decide, ha, ?_⟩⟩
    · rw [PySem.Str.length_append, e0]; exact sz' (show 0 + y.length ≤ 82 by omega)
    · simp only [PySem.Str.length_append, e0, e1]; exact sz' (show 0 + y.length + 21 ≤ 103 by omega)
    · exact ⟨_, rfl, _, rfl, a, c.eWriter, rfl, R.eWriter.oc, R.noW, .inl ⟨ha, k⟩⟩
theorem small_int {i : Nat} (h : i < 64) : ((i : Int)).natAbs.log2 < 1920 ∧ (Str.ofString (toString (i : Int))).length ≤ 30 := by
  have : ∀ i : Fin 64, ((i.val : Int)).natAbs.log2 < 1920 ∧ (Str.ofString (toString (i.val : Int))).length ≤ 30 := by decide +kernel
  exact this ⟨i, h⟩
theorem ok_initE (R : ErrTxt P K mg c) : FnI P w K mg base CX0 1 c.eEvent [] (spInitF c.eEvent "index" fun v => ∃ i : Nat, v = .int i ∧ i < 64) := by
  refine R.iEvent.ok scIE (fun vs H Q E h => ?_) (fun f cc fd cdv A outer s H vs Q E SC hr h => ?_)
  · obtain ⟨a, v, rfl, _⟩ := h
    rfl
  · obtain ⟨a, v, rfl, ⟨i, rfl, hi⟩, ha, k⟩ := h
    obtain ⟨cdC, hcC, hal⟩ := R.eEvent.cls
    refine ⟨_, psa_consA (psa_superE scIE SC rfl R.eEvent.oc R.eEvent.mro R.eEvent.any hcC hal R.eEvent.ve (pa_cons (pe_joined (.cons pe_str (.cons (pe_fmt (pv 1)) (.cons pe_str .nil)))) pa_nil)) (psa_of (pss_one (ps_ost (pv 0) (pv 1)))), ?_⟩
    have e0 : Str.empty.length = 0 := by decide +kernel
    have e1 : ("the event with index " : Str).length = 21 := by decide +kernel
    have e2 : (" has more turns than its update" : Str).length = 31 := by decide +kernel
    refine ⟨a, rfl, ha, _, rfl, ?_, _, rfl, .inr ⟨i, rfl, (small_int hi).1, _, rfl, ?_, _, rfl, ?_, by show 1 ≤ 1000; decide, ha, ?_⟩⟩
    · rw [PySem.Str.length_append, e0, e1]; exact sz' (show 0 + 21 ≤ 21 by omega)
    · have := (small_int hi).2
      rw [PySem.Str.length_append, PySem.Str.length_append, e0, e1]; exact sz' (show 0 + 21 + (Str.ofString (toString (i : Int))).length ≤ 51 by omega)
    · have := (small_int hi).2
      rw [PySem.Str.length_append, PySem.Str.length_append, PySem.Str.length_append, e0, e1, e2]; exact sz' (show 0 + 21 + (Str.ofString (toString (i : Int))).length + 31 ≤ 82 by omega)
    · exact ⟨_, rfl, _, rfl, a, c.eEvent, rfl, R.eEvent.oc, R.noI, .inl ⟨ha, k⟩⟩
end
end FK
set_option Elab.async false
set_option linter.all false
set_option maxRecDepth 100000
set_option maxHeartbeats 4000000
/-! zip of a tuple and a list -/
namespace FK
open PySem PySem.Spec PyProof.Rows L2
/-- the tuple at a beside the list at b, turn by turn, in new pairs -/
def ItzM (K : PySem.W.Frag) (a b : Addr) : It where
  go := fun i H => ∃ (xs ys : List V) (x y : V), SqT K H a xs ∧ SqL K H b ys ∧ xs[i]? = some x ∧ ys[i]? = some y
  yld := fun i H v H' => ∃ T x y, v = .ref T ∧ H T = none ∧ H' = upd H T (.tup [x, y]) ∧ (∀ xs, SqT K H a xs → xs[i]? = some x) ∧ ∀ ys, SqL K H b ys → ys[i]? = some y
  stop := fun i H => ∃ xs ys : List V, SqT K H a xs ∧ SqL K H b ys ∧ i = xs.length ∧ xs.length = ys.length
def mixCells (h : Heap) (a b z TI TO i1 i2 : Addr) (i : Nat) : Prop := IsZip h z TI TO .none ∧ IsTupOf2 h TI (.ref i1) (.ref i2) ∧ (∃ x y, IsTupOf2 h TO x y) ∧ h.IsTupleIter i1 a i ∧ h.IsListIter i2 b i
theorem mix_mem {c z TI TO i1 i2 : Addr} (hc : c ∈ [z, TI, TO, i1, i2]) : c = z ∨ c = TI ∨ c = TO ∨ c = i1 ∨ c = i2 := by simpa using hc
theorem mix_lt {h : Heap} {a b z TI TO i1 i2 c : Addr} {i : Nat} (m : mixCells h a b z TI TO i1 i2 i) (hc : c ∈ [z, TI, TO, i1, i2]) : ∃ o, h.get? c = some o ∧ ∀ v, o.data ≠ .cell v := by
  obtain ⟨hz, hTI, ⟨x, y, hTO⟩, ⟨o1, e1, _, d1⟩, ⟨o2, e2, _, d2⟩⟩ := m
  rcases mix_mem hc with rfl | rfl | rfl | rfl | rfl
  · exact ⟨_, hz, fun v q => nomatch q⟩
  · exact ⟨_, hTI, fun v q => nomatch q⟩
  · exact ⟨_, hTO, fun v q => nomatch q⟩
  · exact ⟨o1, e1, fun v q => by rw [d1] at q; cases q⟩
  · exact ⟨o2, e2, fun v q => by rw [d2] at q; cases q⟩
theorem turn_mix {P : Program} {w : World} {K : PySem.W.Frag} {elts : List Expr} {kk : Nat} {tpos : Pos} {a b z TI TO i1 i2 : Addr} (S : ZipSep2 z TI TO i1 i2 [i1, a] [i2, b]) :
    Turn P w K (.Tuple elts kk tpos) (ItzM K a b) [z, TI, TO, i1, i2] z (fun i h => mixCells h a b z TI TO i1 i2 i) where
  mem := by simp
  obj := fun i h st c hc => mix_lt st hc
  keep := fun i h h' st k => by
    obtain ⟨hz, hTI, ⟨x, y, hTO⟩, h1, h2⟩ := st
    exact ⟨k z (by simp) _ hz, k TI (by simp) _ hTI, ⟨x, y, k TO (by simp) _ hTO⟩, h1.at fun o q => k i1 (by simp) o q, h2.at fun o q => k i2 (by simp) o q⟩
  item := by
    intro X hP hw hK hc i pins s σ H E I hf st hg
    subst hP hw hK
    have st0 := st
    obtain ⟨hz, hTI, ⟨x0, y0, hTO⟩, h1, h2⟩ := st
    obtain ⟨xs, ys, x, y, hqx, hqy, hx, hy⟩ := hg
    obtain ⟨its, rv, p, _⟩ := I.tuple hqx
    obtain ⟨its2, rv2, p2, _⟩ := I.list hqy
    obtain ⟨u, hu, ru⟩ := rv.get hx
    obtain ⟨u2, hu2, ru2⟩ := rv2.get hy
    have na : a ≠ i1 := fun e => by
      obtain ⟨o, ho, hc, _⟩ := id p
      obtain ⟨o', ho', hc', _⟩ := id h1
      rw [e, ho'] at ho
      cases ho
      rw [hc'] at hc
      exact absurd hc (by decide)
    have nb : b ≠ i2 := fun e => by
      obtain ⟨o, ho, hc, _⟩ := id p2.isList
      obtain ⟨o', ho', hc', _⟩ := id h2
      rw [e, ho'] at ho
      cases ho
      rw [hc'] at hc
      exact absurd hc (by decide)
    have hh : X.A.in1.handled = none := I.ok.hd hc
    have l1 : i < its.toArray.size := by simpa using (List.getElem?_eq_some_iff.mp hu).1
    have l2 : i < its2.toArray.size := by simpa using (List.getElem?_eq_some_iff.mp hu2).1
    refine wpAny_pyNext_zipD2_item S (Draws.tuple hh i1 a na its.toArray) (Draws.list hh i2 b nb its2.toArray) hz hTI hTO ⟨h1, p⟩ ⟨h2, p2.isList⟩ l1 l2 fun w1 w2 h' tk e1 e2 z' TO' s1 s2 hT hsz hk => ?_
    have e1 : w1 = u := by simpa [hu] using e1.symm
    have e2 : w2 = u2 := by simpa [hu2] using e2.symm
    subst e1 e2
    refine ⟨_, rfl, wpAny_letOwnedTupleGo_zip (s := { s with heap := h', toks := tk }) z' fun h'' z'' sb => ?_⟩
    have zl : z < s.heap.objs.size := Heap.lt_size hz
    have hT2 : h''.get? s.heap.objs.size = some { cls := .type "tuple", data := .seq #[w1, w2] } := (sb.2 _ (Nat.ne_of_gt zl)).trans hT
    have I1 : Inv X pins σ (upd H s.heap.objs.size (.tup [x, y])) { s with heap := h'', toks := tk } := by
      refine I.turnedNew (t' := tk) (ch := [z, TI, TO, i1, i2]) (fun c o hb q => ?_) hf (Nat.le_refl _) ⟨by show 2 ≤ sizeLine; decide, [w1, w2], .cons ru (.cons ru2 .nil), ⟨_, hT2, rfl, _, rfl⟩⟩
      have m : ∀ d, d ∈ [z, TI, TO, i1, i2] → c ≠ d := fun d hd e => hb (e ▸ hd)
      exact (sb.2 c (m z (by simp))).trans (hk c o (m z (by simp)) (m TO (by simp)) (m i1 (by simp)) (m i2 (by simp)) q)
    refine ⟨.ref s.heap.objs.size, _, I1, rfl, ⟨_, x, y, rfl, I.hok.fresh (Nat.le_refl _), rfl, fun l hl => by rw [I.tuple_inj hl hqx]; exact hx, fun l hl => by rw [I.list_inj hl hqy]; exact hy⟩, ⟨z'', ?_, ⟨w1, w2, ?_⟩, ?_, ?_⟩, fun c hcm => ?_⟩
    · exact (sb.2 _ S.TIz).trans (hk _ _ S.TIz S.TITO S.TIi1 S.TIi2 hTI)
    · exact (sb.2 _ S.TOz).trans TO'
    · exact s1.1.at fun o q => (sb.2 _ fun e => S.zi1 e.symm).trans q
    · exact s2.1.at fun o q => (sb.2 _ fun e => S.zi2 e.symm).trans q
    · obtain ⟨o, ho, _⟩ := mix_lt st0 hcm
      rw [upd_ne (Nat.ne_of_lt (Heap.lt_size ho))]
      exact (hf c hcm).1
  done := by
    intro X hP hw hK hc i pins s σ H E I hf st hg
    subst hP hw hK
    obtain ⟨hz, hTI, ⟨x0, y0, hTO⟩, h1, h2⟩ := st
    obtain ⟨xs, ys, hqx, hqy, e, el⟩ := hg
    obtain ⟨its, rv, p, _⟩ := I.tuple hqx
    obtain ⟨its2, rv2, p2, _⟩ := I.list hqy
    have na : a ≠ i1 := fun e => by
      obtain ⟨o, ho, hc, _⟩ := id p
      obtain ⟨o', ho', hc', _⟩ := id h1
      rw [e, ho'] at ho
      cases ho
      rw [hc'] at hc
      exact absurd hc (by decide)
    have nb : b ≠ i2 := fun e => by
      obtain ⟨o, ho, hc, _⟩ := id p2.isList
      obtain ⟨o', ho', hc', _⟩ := id h2
      rw [e, ho'] at ho
      cases ho
      rw [hc'] at hc
      exact absurd hc (by decide)
    have hh : X.A.in1.handled = none := I.ok.hd hc
    have e1 : i = its.toArray.size := by rw [e, rv.length]; simp
    have e2 : i = its2.toArray.size := by rw [e, el, rv2.length]; simp
    refine wpAny_pyNext_zipD2_end S (Draws.tuple hh i1 a na its.toArray) (Draws.list hh i2 b nb its2.toArray) hz hTI hTO ⟨h1, p⟩ ⟨h2, p2.isList⟩ (Nat.le_of_eq e1) (Nat.le_of_eq e2) (.inl e1) fun h' tk hk => ?_
    refine ⟨rfl, I.turnedL (t' := tk) (ch := [z, TI, TO, i1, i2]) (fun c o hb q => ?_) hf⟩
    have m : ∀ d, d ∈ [z, TI, TO, i1, i2] → c ≠ d := fun d hd e => hb (e ▸ hd)
    exact hk c o (m z (by simp)) (m TO (by simp)) (m i1 (by simp)) (m i2 (by simp)) q
  self := fun A i s Q E st h => wpAny_pyIter_zip st.1 h
def iZipM (K : PySem.W.Frag) (ta : TA) : TI := fun σ H R => ta σ H fun vs H1 => ∃ a b xs ys, vs = [.ref a, .ref b] ∧ SqT K H1 a xs ∧ SqL K H1 b ys ∧ R (ItzM K a b) H1
theorem pi_zipM {X : L2.Cx} {e e2 : Expr} {ta : TA} {p pos tpos : Pos} {elts : List Expr} {kk : Nat} (hg : Gl X "zip") (hm : X.mg "zip" = none) (ha : PA X [e, e2] ta)
    (hs : starEach [e, e2] X.env = (false, eval e X.env) :: starEach [e2] X.env := by rfl) (hpl : (backTo pos (starEach [e2] X.env)).any (·.1) = false := by rfl) :
    PI X (.Tuple elts kk tpos) (.Call (.Name "zip" p) [e, e2] [] pos) (iZipM X.K ta) := by
  refine ⟨fun pins s σ H R I h => ?_⟩
  refine Call_ (ld_blt I hg hm PyProof.Rows.boot_zip (PyProof.Rows.callWith_type1 (thn (ha.run pos pins s σ H _ I h) fun us s1 ⟨vs, H1, I1, r1, q1⟩ => ?_) hs hpl))
  obtain ⟨a, b, xs, ys, rfl, hqx, hqy, q⟩ := q1
  obtain ⟨ua, us', rfl, r, rr⟩ : ∃ u us', us = u :: us' ∧ RelV (.ref a) u ∧ Vals [.ref b] us' := by cases r1 with | cons r rr => exact ⟨_, _, rfl, r, rr⟩
  obtain ⟨ub, rfl, r'⟩ := vals1 rr
  cases r
  cases r'
  obtain ⟨its, rv, p1, _⟩ := I1.tuple hqx
  obtain ⟨its2, rv2, p2, _⟩ := I1.list hqy
  have la : a < s1.heap.objs.size := by obtain ⟨o, ho, _⟩ := id p1; exact Heap.lt_size ho
  have lb : b < s1.heap.objs.size := p2.lt
  refine zip_begins2 (begins_tuple a its.toArray) (begins_list b its2.toArray) p1 p2.isList fun h' hz hTI hTO h1 h2 hsz hk => wpAny_pyIter_zip hz ?_
  have I2 : Inv X pins σ H1 { s1 with heap := h' } := I1.kept (t' := s1.toks) hk
  refine ⟨s1.heap.objs.size + 4, [s1.heap.objs.size + 4, s1.heap.objs.size + 2, s1.heap.objs.size + 3, s1.heap.objs.size, s1.heap.objs.size + 1], _, _, H1, rfl, I2, turn_mix (zip_sep2 (fp1 := [a]) (fp2 := [b]) (by simpa using la) (by simpa using lb)), ⟨hz, hTI, ⟨_, _, hTO⟩, ⟨_, h1, rfl, rfl⟩, ⟨_, h2, rfl, rfl⟩⟩, fun c hc => ?_, q⟩
  have hle : s1.heap.objs.size ≤ c := by rcases mix_mem hc with rfl | rfl | rfl | rfl | rfl <;> first | exact Nat.le_refl _ | exact Nat.le_add_right _ _
  exact I1.fpOk hle (I1.hok.fresh hle)
theorem for_zipM {K : PySem.W.Frag} {a b : Addr} {xs ys : List V} {g : TG} {tb : TS} {D : Ends} {σ : L2.St} {H : Hp} (hl : xs.length = ys.length) (Pv : Nat → L2.St → Hp → Prop) (h0 : Pv 0 σ H) (hq : ∀ i σ H, Pv i σ H → SqT K H a xs ∧ SqL K H b ys)
    (hs : ∀ (i : Nat) (x y : V) (T : Addr) (σ : L2.St) (H : Hp), xs[i]? = some x → ys[i]? = some y → Pv i σ H → H T = none → g (.ref T) σ (upd H T (.tup [x, y])) fun σ2 H2 => tb { D with nx := Pv (i + 1), ct := Pv (i + 1), bk := D.nx } σ2 H2) (hd : ∀ σ H, Pv xs.length σ H → D.nx σ H) :
    ∃ W : Nat → Nat → L2.St → Hp → Prop, (∃ m, W 0 m σ H) ∧ ∀ i m σ H, W i m σ H →
      ((ItzM K a b).stop i H ∧ D.nx σ H) ∨ ((ItzM K a b).go i H ∧ ∃ N : L2.St → Hp → Prop, (∀ σ' H', N σ' H' → ∃ m', m' < m ∧ W (i + 1) m' σ' H') ∧ ∀ v H', (ItzM K a b).yld i H v H' → g v σ H' fun σ2 H2 => tb { D with nx := N, ct := N, bk := D.nx } σ2 H2) := by
  refine ⟨fun i m σ H => m + i = xs.length ∧ Pv i σ H, ⟨xs.length, rfl, h0⟩, ?_⟩
  rintro i m σ H ⟨hm, pv⟩
  obtain ⟨qx, qy⟩ := hq i σ H pv
  cases m with
  | zero =>
    have e : i = xs.length := by omega
    subst e
    exact .inl ⟨⟨xs, ys, qx, qy, rfl, hl⟩, hd σ H pv⟩
  | succ m =>
    have i1 : i < xs.length := by omega
    have i2 : i < ys.length := by omega
    refine .inr ⟨⟨xs, ys, xs[i], ys[i], qx, qy, List.getElem?_eq_getElem i1, List.getElem?_eq_getElem i2⟩, Pv (i + 1), fun σ' H' p' => ⟨m, Nat.lt_succ_self m, by omega, p'⟩, ?_⟩
    rintro v H' ⟨T, x', y', rfl, hT, rfl, f1, f2⟩
    exact hs i x' y' T σ H (f1 xs qx) (f2 ys qy) pv hT
end FK
set_option Elab.async false
set_option linter.all false
set_option maxRecDepth 100000
set_option maxHeartbeats 4000000
/-! The plan as it stands in the heap; is_below. -/
namespace FK
open PySem PySem.Spec PyProof.Rows L2
/-! ### ways by names -/
def wayOf (t : Tr Str) (a : Str) : List Bool := (((t.ways []).find? fun x => decide (x.1 = a)).map (·.2)).getD []
theorem find_of {l : List (Str × List Bool)} {a : Str} {w : List Bool} (nd : (l.map (·.1)).Nodup) (h : (a, w) ∈ l) : l.find? (fun x => decide (x.1 = a)) = some (a, w) := by
  induction l with
  | nil => simp at h
  | cons x r ih =>
    rw [List.map_cons, List.nodup_cons] at nd
    rcases List.mem_cons.mp h with rfl | h
    · rw [List.find?_cons_of_pos (by simp)]
    · have ne : x.1 ≠ a := fun e => nd.1 (e ▸ List.mem_map.mpr ⟨(a, w), h, rfl⟩)
      rw [List.find?_cons_of_neg (by simpa using ne)]
      exact ih nd.2 h
theorem wayOf_eq {t : Tr Str} (nd : t.leaves.Nodup) {a : Str} {w : List Bool} (h : (a, w) ∈ t.ways []) : wayOf t a = w := by
  unfold wayOf
  rw [find_of (by rw [ways_fst]; exact nd) h]
  rfl
theorem leaf_way {t : Tr Str} {a : Str} (h : a ∈ t.leaves) : ∃ w, (a, w) ∈ t.ways [] := by
  rw [← ways_fst t []] at h
  obtain ⟨x, hx, rfl⟩ := List.mem_map.mp h
  exact ⟨x.2, hx⟩
theorem wayOf_mem {t : Tr Str} (nd : t.leaves.Nodup) {a : Str} (h : a ∈ t.leaves) : (a, wayOf t a) ∈ t.ways [] := by
  obtain ⟨w, hw⟩ := leaf_way h
  rw [wayOf_eq nd hw]
  exact hw
theorem way_leaf {t : Tr Str} {a : Str} {w : List Bool} (h : (a, w) ∈ t.ways []) : a ∈ t.leaves := by
  rw [← ways_fst t []]
  exact List.mem_map.mpr ⟨_, h, rfl⟩
theorem val_kvW (l : List (Str × List Bool)) (a : Str) : valV (kvW l) (Sum.inr a : Key) = (l.find? fun x => decide (x.1 = a)).map fun x => V.str (S x.2) := by
  induction l with
  | nil => rfl
  | cons x r ih =>
    by_cases e : x.1 = a
    · rw [List.find?_cons_of_pos (by simpa using e)]
      show valV ((Sum.inr x.1, V.str (S x.2)) :: kvW r) _ = _
      rw [valV_pos (by rw [e])]
      rfl
    · rw [List.find?_cons_of_neg (by simpa using e)]
      show valV ((Sum.inr x.1, V.str (S x.2)) :: kvW r) _ = _
      rw [valV_neg (by simpa using e)]
      exact ih
theorem val_way {t : Tr Str} (nd : t.leaves.Nodup) {a : Str} (h : a ∈ t.leaves) : valV (kvW (t.ways [])) (Sum.inr a : Key) = some (.str (S (wayOf t a))) := by
  rw [val_kvW, find_of (by rw [ways_fst]; exact nd) (wayOf_mem nd h)]
  rfl
theorem way_le {t : Tr Str} (ok : TreeOk t) {a : Str} (h : a ∈ t.leaves) : (wayOf t a).length ≤ 11 := by
  obtain ⟨v, e, hv⟩ := way_pre t [] a _ (wayOf_mem ok.nd h)
  have := depth_leaves t
  have := ok.le
  rw [e, List.nil_append]
  omega
structure NamesOk (t : Tr Str) (names : List Str) : Prop where
  perm : names.Perm t.leaves
  srt : sortedS names = true
structure Good (t : Tr Str) (names : List Str) : Prop where
  ok : TreeOk t
  nm : NamesOk t names
namespace Good
variable {t : Tr Str} {names : List Str} (g : Good t names)
include g
theorem mem {a : Str} : a ∈ names ↔ a ∈ t.leaves := g.nm.perm.mem_iff
theorem nd : names.Nodup := g.nm.perm.nodup_iff.mpr g.ok.nd
theorem len : names.length ≤ 12 := by rw [g.nm.perm.length_eq]; exact g.ok.le
theorem pos : 0 < names.length := by rw [g.nm.perm.length_eq]; exact leaves_pos t
theorem way {a : Str} (h : a ∈ names) : (a, wayOf t a) ∈ t.ways [] := wayOf_mem g.ok.nd (g.mem.mp h)
theorem wlen {a : Str} (h : a ∈ names) : (wayOf t a).length ≤ 11 := way_le g.ok (g.mem.mp h)
theorem name {a : Str} (h : a ∈ names) : NameOk a := g.ok.nm a (g.mem.mp h)
theorem cells_le : (cellsOf (wayOf t) names).length ≤ 132 := by
  have : ∀ l : List Str, (∀ a ∈ l, (wayOf t a).length ≤ 11) → (cellsOf (wayOf t) l).length ≤ 11 * l.length := by
    intro l
    induction l with
    | nil => intro _; simp [cellsOf]
    | cons a r ih =>
      intro h
      have h1 := h a (by simp)
      have h2 := ih fun b hb => h b (List.mem_cons_of_mem _ hb)
      rw [cells_cons, List.length_append, List.length_map, List.length_range, List.length_cons]
      omega
  have h1 := this names fun a h => g.wlen h
  have := g.len
  omega
end Good
/-! ### the plan -/
def fldsOf (nl cl sl : Addr) (vt : V) (wd fd ld : Addr) (zw : Str) : List (Str × V) := [("names", .ref nl), ("cells", .ref cl), ("sizes", .ref sl), ("tree", vt), ("ways", .ref wd), ("_flags", .ref fd), ("_leaves", .ref ld), ("_written", .str zw)]
structure FlagsAt (R : Hp) (fd : Addr) (t : Tr Str) (cs : List (List Bool)) : Prop where
  ex : ∃ kv : List (Key × V), R fd = some (.dK kv) ∧ (∀ f ∈ t.forks [], ∃ a : Addr, valV kv (Sum.inr (S f)) = some (.ref a) ∧ R a = some (.lst ((idxF 0 cs f).map fun (i : Nat) => V.int i))) ∧ ∀ w, w ∉ t.forks [] → valV kv (Sum.inr (S w)) = none
structure LeavesAt (R : Hp) (ld : Addr) (t : Tr Str) : Prop where
  ex : ∃ kv : List (Key × V), R ld = some (.dK kv) ∧ (∀ a w, (a, w) ∈ t.ways [] → valV kv (Sum.inr (S w)) = some (.str a)) ∧ ∀ w, (∀ a, (a, w) ∉ t.ways []) → valV kv (Sum.inr (S w)) = none
def CellAt (R : Hp) (p : Addr) (c : Str × Nat) : Prop := R p = some (.tup [.str c.1, .int c.2])
structure PlanAt (C : Addr) (R : Hp) (p : Addr) (t : Tr Str) (names : List Str) : Prop where
  good : Good t names
  ex : ∃ (dx nl cl sl wd fd ld : Addr) (vt : V) (zw : Str) (ps : List Addr), R p = some (.ins C dx (fldsOf nl cl sl vt wd fd ld zw)) ∧ R nl = some (.lst (names.map V.str)) ∧ R cl = some (.lst (ps.map V.ref)) ∧
    Paired (CellAt R) ps (cellsOf (wayOf t) names) ∧ R sl = some (.lst (List.replicate (cellsOf (wayOf t) names).length (.int 2))) ∧ R wd = some (.dK (kvW (t.ways []))) ∧ FlagsAt R fd t (cf (wayOf t) names) ∧ LeavesAt R ld t
theorem FlagsAt.same {R R' : Hp} {fd : Addr} {t : Tr Str} {cs : List (List Bool)} (f : FlagsAt R fd t cs) (s : Same R R') : FlagsAt R' fd t cs := by
  obtain ⟨kv, h1, h2, h3⟩ := f.ex
  refine ⟨kv, s _ _ h1, fun g hg => ?_, h3⟩
  obtain ⟨a, e1, e2⟩ := h2 g hg
  exact ⟨a, e1, s _ _ e2⟩
theorem LeavesAt.same {R R' : Hp} {ld : Addr} {t : Tr Str} (f : LeavesAt R ld t) (s : Same R R') : LeavesAt R' ld t := by
  obtain ⟨kv, h1, h2, h3⟩ := f.ex
  exact ⟨kv, s _ _ h1, h2, h3⟩
theorem PlanAt.same {C : Addr} {R R' : Hp} {p : Addr} {t : Tr Str} {names : List Str} (f : PlanAt C R p t names) (s : Same R R') : PlanAt C R' p t names := by
  obtain ⟨dx, nl, cl, sl, wd, fd, ld, vt, zw, ps, h1, h2, h3, h4, h5, h6, h7, h8⟩ := f.ex
  exact ⟨f.good, dx, nl, cl, sl, wd, fd, ld, vt, zw, ps, s _ _ h1, s _ _ h2, s _ _ h3, paired_imp (fun _ _ h => s _ _ h) h4, s _ _ h5, s _ _ h6, h7.same s, h8.same s⟩
/-- a state of the plan -/
structure StOk (t : Tr Str) (names : List Str) (st : List Int) : Prop where
  marks : Marks st
  len : st.length = (cf (wayOf t) names).length
theorem StOk.len' {t : Tr Str} {names : List Str} {st : List Int} (h : StOk t names st) : st.length = (cellsOf (wayOf t) names).length := by rw [h.len, cf_length]
def TupAt (H : Hp) (q : Addr) (st : List Int) : Prop := H q = some (.tup (st.map V.int))
def RowAt (H : Hp) (r : Addr) (row : List (Nat × Int)) : Prop := ∃ ps : List Addr, H r = some (.lst (ps.map V.ref)) ∧ Paired (fun p (x : Nat × Int) => H p = some (.tup [.int x.1, .int x.2])) ps row
theorem RowAt.same {H H' : Hp} {r : Addr} {row : List (Nat × Int)} (h : RowAt H r row) (s : Same H H') : RowAt H' r row := by
  obtain ⟨ps, h1, h2⟩ := h
  exact ⟨ps, s _ _ h1, paired_imp (fun _ _ h => s _ _ h) h2⟩
/-- the class, its methods -/
structure PlanTxt (P : Program) (K : PySem.W.Frag) (mg : Str → Option Value) (c : Cs) : Prop where
  g : mg "ForkPlan" = some (.ref c.fork)
  cls : Cls K c.fork
  nNames : NoAttr K c.fork "names"
  nCells : NoAttr K c.fork "cells"
  nSizes : NoAttr K c.fork "sizes"
  nTree : NoAttr K c.fork "tree"
  nWays : NoAttr K c.fork "ways"
  nFlags : NoAttr K c.fork "_flags"
  nLeaves : NoAttr K c.fork "_leaves"
  nWritten : NoAttr K c.fork "_written"
  mCheckWriter : MethAt K c.fork "check_writer" "Plan.check_writer" (inClass (topS 30) 4) ["self", "writer"]
  mCheckState : MethAt K c.fork "check_state" "Plan.check_state" (inClass (topS 30) 5) ["self", "state"]
  mCellsOf : MethAt K c.fork "cells_of" "Plan.cells_of" (inClass (topS 30) 7) ["self", "writer"]
  mTurned : MethAt K c.fork "turned" "Plan.turned" (inClass (topS 30) 8) ["self", "state", "turns"]
  mParity : MethAt K c.fork "_parity" "ForkPlan._parity" (inClass (topS 33) 4) ["self", "state", "fork"]
  mLeafFrom : MethAt K c.fork "_leaf_from" "ForkPlan._leaf_from" (inClass (topS 33) 5) ["self", "state", "top"]
  mTold : MethAt K c.fork "told" "ForkPlan.told" (inClass (topS 33) 9) ["self", "state"]
  mWrong : MethAt K c.fork "wrong_forks" "ForkPlan.wrong_forks" (inClass (topS 33) 11) ["self", "state", "writer"]
  mTurns : MethAt K c.fork "turns" "ForkPlan.turns" (inClass (topS 33) 12) ["self", "state", "writer"]
/-! ### is_below -/
inductive PlainV : V → Prop
  | int (i : Int) : PlainV (.int i)
  | bl (b : Bool) : PlainV (.bl b)
  | non : PlainV .non
def belowV : V → Int → Bool
  | .int i, b => decide (0 ≤ i) && decide (i < b)
  | _, _ => false
section
variable {P : Program} {w : World} {K : PySem.W.Frag} {mg : Str → Option Value} {base : Heap} {c : Cs}
def spIsBelow : Sp := fun vs H Q _ => ∃ (v : V) (b : Int), vs = [v, .int b] ∧ PlainV v ∧ Q (.bl (belowV v b)) H
abbrev sIsBelow : Stmt := topS 29
theorem scIsBelow : FnScope ["value", "bound"] ["value", "bound"] (defScope sIsBelow) := ⟨rfl, rfl, rfl, by decide +kernel, rfl, by decide +kernel, by decide +kernel⟩
theorem ok_isBelow (T : Txt K mg) : FnB P w K mg base CX0 1 "is_below" spIsBelow := by
  refine T.dIsBelow.ok scIsBelow (fun vs H Q E h => ?_) (fun f cdv A outer s H vs Q E hr h => ?_)
  · obtain ⟨v, b, rfl, _⟩ := h
    rfl
  · obtain ⟨v, b, rfl, hv, k⟩ := h
    refine ⟨_, pss_cons (ps_if (PW.pt (pw_or (pt_val (pisi "bool" T.b (pv 0) T.b.bool (by decide +kernel))) (pw_or1 (pt_not (pt_val (pisi "int" T.b (pv 0) T.b.int (by decide +kernel))))))) (pss_one (ps_ret pe_bl)) pss_nil)
      (pss_one (ps_ret (pe_chain op_le op_lt pe_int (pv 0) (pv 1)))), ?_⟩
    cases hv with
    | bl x =>
      exact ⟨_, rfl, _, _, _, _, true, rfl, .ty _, .base (.bl _), kit_ty (by decide +kernel), _, rfl, if_t rfl (if_t rfl k)⟩
    | non =>
      exact ⟨_, rfl, _, _, _, _, false, rfl, .ty _, .base .non, kit_ty (by decide +kernel), _, rfl, if_f rfl ⟨_, rfl, _, _, _, _, false, rfl, .ty _, .base .non, kit_ty (by decide +kernel), _, rfl, if_t rfl k⟩⟩
    | int i =>
      refine ⟨_, rfl, _, _, _, _, false, rfl, .ty _, .base (.int _), kit_ty (by decide +kernel), _, rfl, if_f rfl ⟨_, rfl, _, _, _, _, true, rfl, .ty _, .base (.int _), kit_ty (by decide +kernel), _, rfl, if_f rfl ?_⟩⟩
      refine ⟨_, rfl, _, _, rfl, rfl, _, rfl, ?_⟩
      by_cases h0 : 0 ≤ i
      · refine if_t (decide_eq_true h0) ⟨_, rfl, _, _, rfl, rfl, ?_⟩
        have e : belowV (.int i) b = decide (i < b) := by simp [belowV, h0]
        rw [e] at k
        exact k
      · refine if_f (decide_eq_false h0) ?_
        have e : belowV (.int i) b = false := by simp [belowV, h0]
        rw [e] at k
        exact k
end
end FK
set_option Elab.async false
set_option linter.all false
set_option maxRecDepth 100000
set_option maxHeartbeats 4000000
/-! Plan's methods. -/
namespace FK
open PySem PySem.Spec PyProof.Rows L2
theorem del_upd {H : Hp} {a : Addr} {o : HO} (h : H a = none) : del (upd H a o) a = H := by
  funext b
  by_cases e : b = a
  · rw [e, del_same, h]
  · rw [del_ne e, upd_ne e]
theorem raise_s {C : Addr} {H : Hp} {Q : XK} {σ : L2.St} (k : Q (.ref C) none H) : tMkO0 C (spInitS C) [.str "there is no such state of the cells"] σ H Q := by
  intro a ha
  refine ⟨a, rfl, upd_same, rfl, upd_same, ?_⟩
  rw [del_upd ha]
  exact k
theorem raise_f {C : Addr} {fld : Str} {ok : V → Prop} {v : V} {H : Hp} {Q : XK} (hv : ok v) (k : ∀ d, H d = none → Q (.ref C) (some d) (upd H d (.xd [(fld, v)]))) :
    [v].length ≤ 1000 ∧ ∀ a, H a = none → spInitF C fld ok (.ref a :: ([v] ++ [])) (upd H a (exo a C none))
      (fun u H2 => u = .non ∧ ∃ (d : Addr) (fs : List (Str × V)), H2 a = some (exo a C (some d)) ∧ H2 d = some (exd d fs) ∧ H d = none ∧ Q (.ref C) (some d) (upd (del H2 a) d (.xd fs))) (fun _ _ _ => False) := by
  refine ⟨by show 1 ≤ 1000; decide, fun a ha => ⟨a, v, rfl, hv, upd_same, fun d hd hne => ⟨rfl, d, [(fld, v)], upd_same, ?_, ?_, ?_⟩⟩⟩
  · rw [upd_ne hne, upd_same]
  · rw [upd_ne hne] at hd; exact hd
  · rw [upd_ne hne] at hd
    have e : upd (del (upd (upd (upd H a (exo a C none)) d (exd d [(fld, v)])) a (exo a C (some d))) a) d (.xd [(fld, v)]) = upd H d (.xd [(fld, v)]) := by
      funext b
      by_cases e1 : b = d
      · rw [e1, upd_same, upd_same]
      · rw [upd_ne e1, upd_ne e1]
        by_cases e2 : b = a
        · rw [e2, del_same, ha]
        · rw [del_ne e2, upd_ne e2, upd_ne e1, upd_ne e2]
    rw [e]
    exact k d hd
theorem inV_str (z : Str) (l : List Str) : inV (.str z) (l.map V.str) = decide (z ∈ l) := by
  induction l with
  | nil => rfl
  | cons x r ih =>
    have e : inV (.str z) ((x :: r).map V.str) = ((x == z) || inV (.str z) (r.map V.str)) := by
      simp [inV, eqV]
    rw [e, ih]
    by_cases h : x = z
    · simp [h]
    · simp [h, Ne.symm h]
theorem flat_strs (l : List Str) : (l.map V.str).all flatV = true := by
  induction l with
  | nil => rfl
  | cons x r ih => simp [flatV]
/-- how a state is judged -/
def goodB (xs : List V) (n : Nat) : Bool := decide (xs.length = n) && xs.all fun x => belowV x 2
theorem good_ints {st : List Int} {n : Nat} (hm : Marks st) (hl : st.length = n) : goodB (st.map V.int) n = true := by
  unfold goodB
  rw [List.length_map, decide_eq_true hl, Bool.true_and, List.all_eq_true]
  intro x hx
  obtain ⟨i, hi, rfl⟩ := List.mem_map.mp hx
  rcases hm i hi with rfl | rfl <;> rfl
theorem plain_ints {st : List Int} : ∀ x ∈ st.map V.int, PlainV x := fun x hx => by
  obtain ⟨i, _, rfl⟩ := List.mem_map.mp hx
  exact .int i
section
variable {P : Program} {w : World} {K : PySem.W.Frag} {mg : Str → Option Value} {base : Heap} {c : Cs}
def spCheckWriter (c : Cs) : Sp := fun vs H Q E => ∃ (p : Addr) (a : Str) (t : Tr Str) (names : List Str), vs = [.ref p, .str a] ∧ PlanAt c.fork H p t names ∧ ((a ∈ names ∧ Q .non H) ∨ (a ∉ names ∧ NameOk a ∧ ∀ d, H d = none → E (.ref c.eWriter) (some d) (upd H d (.xd [("writer", .str a)]))))
abbrev sCheckWriter : Stmt := inClass (topS 30) 4
theorem scCheckWriter : FnScope ["self", "writer"] ["self", "writer"] (defScope sCheckWriter) := ⟨rfl, rfl, rfl, by decide +kernel, rfl, by decide +kernel, by decide +kernel⟩
theorem ok_checkWriter (T : Txt K mg) (R : ErrTxt P K mg c) (L : PlanTxt P K mg c) : FnM P w K mg base (L2.CX P w) 4 c.fork "check_writer" (spCheckWriter c) := by
  have F : FnI P w K mg base CX0 2 c.eWriter [] (spInitF c.eWriter "writer" fun v => ∃ z, v = .str z ∧ NameOk z) := ok_initW T R
  refine L.mCheckWriter.okX scCheckWriter (fun vs H Q E h => ?_) (fun f cdv A outer s H vs Q E hr h => ?_)
  · obtain ⟨p, a, t, names, rfl, _⟩ := h
    rfl
  · obtain ⟨p, a, t, names, rfl, hp, k⟩ := h
    obtain ⟨dx, nl, cl, sl, wd, fd, ld, vt, zw, ps, h1, h2, h3, h4, h5, h6, h7, h8⟩ := hp.ex
    refine ⟨_, pss_one (ps_if (pt_cmpR op_notIn_seq (pv 1) (pe_fld (pv 0) rfl) (by rfl)) (pss_one (ps_raise rfl (takes_of rfl rfl rfl rfl) (pmk_oexI R.eWriter.oc F hr pass0 R.eWriter.g (pa_cons (pv 1) pa_nil)))) pss_nil), ?_⟩
    refine ⟨_, rfl, _, rfl, p, c.fork, dx, _, _, rfl, h1, L.cls, L.nNames, rfl, nl, _, rfl, .inl (SqL.of h2), rfl, flat_strs _, _, rfl, ?_⟩
    show if (!inV (V.str a) (names.map V.str)) = true then _ else _
    rw [inV_str]
    rcases k with ⟨ha, k⟩ | ⟨ha, hn, k⟩
    · exact if_f (by rw [decide_eq_true ha]; rfl) k
    · refine if_t (by rw [decide_eq_false ha]; rfl) ⟨_, rfl, raise_f ⟨a, rfl, hn⟩ k⟩
/-! check_state -/
def spCheckState (c : Cs) : Sp := fun vs H Q E => ∃ (p q : Addr) (t : Tr Str) (names : List Str), vs = [.ref p, .ref q] ∧ PlanAt c.fork H p t names ∧
  ((∃ xs, H q = some (.lst xs) ∧ E (.ref c.eState) none H) ∨ ∃ xs : List V, H q = some (.tup xs) ∧ (∀ x ∈ xs, PlainV x) ∧ ∀ H', Same H H' → if goodB xs (cellsOf (wayOf t) names).length = true then Q .non H' else E (.ref c.eState) none H')
abbrev sCheckState : Stmt := inClass (topS 30) 5
theorem scCheckState : FnScope ["self", "state", "mark", "size"] ["self", "state"] (defScope sCheckState) := ⟨rfl, rfl, rfl, by decide +kernel, rfl, by decide +kernel, by decide +kernel⟩
theorem ok_checkState (T : Txt K mg) (R : ErrTxt P K mg c) (L : PlanTxt P K mg c) : FnM P w K mg base (L2.CX P w) 3 c.fork "check_state" (spCheckState c) := by
  obtain ⟨tm, F⟩ : ∃ t, FnI P w K mg base CX0 1 c.eState [.str "there is no such state of the cells" t] (spInitS c.eState) := ok_initS R
  have G : FnB P w K mg base CX0 1 "is_below" spIsBelow := ok_isBelow T
  have hv : Vals [V.str "there is no such state of the cells"] [Value.str "there is no such state of the cells" tm] := .cons ⟨tm, rfl⟩ .nil
  refine L.mCheckState.okX scCheckState (fun vs H Q E h => ?_) (fun f cdv A outer s H vs Q E hr h => ?_)
  · obtain ⟨p, q, t, names, rfl, _⟩ := h
    rfl
  · obtain ⟨p, q, t, names, rfl, hp, k⟩ := h
    obtain ⟨dx, nl, cl, sl, wd, fd, ld, vt, zw, ps, h1, h2, h3, h4, h5, h6, h7, h8⟩ := hp.ex
    refine ⟨_, pss_cons (ps_if (PW.pt (pw_or (pt_not (pt_val (pisi "tuple" T.b (pv 1) T.b.tuple (by decide +kernel)))) (pw_or1 (pt_cmpR op_ne (pe_callB call_len_seq (by rfl) T.b.len (by decide +kernel) (pa_cons (pv 1) pa_nil)) (pe_callB call_len_seq (by rfl) T.b.len (by decide +kernel) (pa_cons (pe_fld (pv 0) rfl) pa_nil)) (nomark _)))))
        (pss_one (ps_raise rfl (takes_of rfl rfl rfl rfl) (pmk_oex0 R.eState.oc F hr hv pass0 R.eState.g))) pss_nil)
      (pss_one (ps_for (passes_of rfl) rfl (pi_zipM (by rfl) T.b.zip (pa_cons (pv 1) (pa_cons (pe_fld (pv 0) rfl) pa_nil))) (pg_tup (by rfl) (pgs_cons (pg_name (i := 2) scCheckState.nd rfl (.inl rfl)) (pgs_cons (pg_name (i := 3) scCheckState.nd rfl (.inl rfl)) pgs_nil)))
        (pss_one (ps_if (pt_not (pt_val (pcall G (hr.mono (by decide)) pass0 (pa_cons (pv 2) (pa_cons (pv 3) pa_nil)))))
          (pss_one (ps_raise rfl (takes_of rfl rfl rfl rfl) (pmk_oex0 R.eState.oc F hr hv pass0 R.eState.g))) pss_nil)))), ?_⟩
    rcases k with ⟨xs, hq, k⟩ | ⟨xs, hq, hpl, k⟩
    · exact ⟨_, rfl, _, _, _, _, false, rfl, .ty _, .base (.lst hq), kit_ty (by decide +kernel), _, rfl, if_t rfl (if_t rfl (raise_s k))⟩
    · refine ⟨_, rfl, _, _, _, _, true, rfl, .ty _, .base (.tup hq), kit_ty (by decide +kernel), _, rfl, if_f rfl ?_⟩
      refine ⟨_, rfl, q, _, rfl, .inr (SqT.of hq), _, rfl, p, c.fork, dx, _, _, rfl, h1, L.cls, L.nSizes, rfl, sl, _, rfl, .inl (SqL.of h5), rfl, _, rfl, ?_⟩
      have el : decide ((V.int (xs.length : Nat)) = V.int ((List.replicate (cellsOf (wayOf t) names).length (V.int 2)).length : Nat)) = decide (xs.length = (cellsOf (wayOf t) names).length) := by
        rw [List.length_replicate]
        by_cases e : xs.length = (cellsOf (wayOf t) names).length
        · simp [e]
        · rw [decide_eq_false e, decide_eq_false fun z => e (by injection z with z; omega)]
      by_cases hl : xs.length = (cellsOf (wayOf t) names).length
      · refine if_f (by rw [el, decide_eq_true hl]; rfl) ?_
        refine ⟨_, rfl, _, rfl, p, c.fork, dx, _, _, rfl, h1, L.cls, L.nSizes, rfl, q, sl, xs, _, rfl, SqT.of hq, SqL.of h5, ?_⟩
        refine for_zipM (xs := xs) (ys := List.replicate (cellsOf (wayOf t) names).length (.int 2)) (by rw [List.length_replicate]; exact hl) (fun i σ H' => ∃ a b, σ = [some (.ref p), some (.ref q), a, b] ∧ Same H H' ∧ ∀ j x, j < i → xs[j]? = some x → belowV x 2 = true) ⟨none, none, rfl, .refl _, fun j x hj => by omega⟩ ?_ ?_ ?_
        · rintro i σ H' ⟨a, b, rfl, s1, _⟩
          exact ⟨SqT.of (s1 _ _ hq), SqL.of (s1 _ _ h5)⟩
        · rintro i x y Tn σ H' hx hy ⟨a, b, rfl, s1, hall⟩ hT
          have hy : y = .int 2 := (List.mem_replicate.mp (List.mem_of_getElem? hy)).2
          subst hy
          have s2 : Same H (upd H' Tn (.tup [x, .int 2])) := s1.upd' hT
          refine ⟨Tn, _, rfl, SqT.of upd_same, rfl, _, _, rfl, _, _, rfl, rfl, ?_⟩
          refine ⟨_, rfl, _, rfl, x, 2, rfl, hpl x (List.mem_of_getElem? hx), _, rfl, ?_⟩
          cases hb : belowV x 2 with
          | true =>
            refine if_f rfl ⟨_, _, rfl, s2, fun j z hj hz => ?_⟩
            rcases Nat.lt_succ_iff_lt_or_eq.mp hj with hj | rfl
            · exact hall j z hj hz
            · rw [hx] at hz
              cases hz
              exact hb
          | false =>
            refine if_t rfl (raise_s ?_)
            have k2 := k _ s2
            have e : goodB xs (cellsOf (wayOf t) names).length = false := by
              unfold goodB
              have : (xs.all fun x => belowV x 2) = false := by
                rw [List.all_eq_false]
                exact ⟨x, List.mem_of_getElem? hx, by rw [hb]; decide⟩
              rw [this, Bool.and_false]
            rw [if_neg (by rw [e]; decide)] at k2
            exact k2
        · rintro σ H' ⟨a, b, rfl, s1, hall⟩
          have k2 := k _ s1
          have e : goodB xs (cellsOf (wayOf t) names).length = true := by
            unfold goodB
            rw [decide_eq_true hl, Bool.true_and, List.all_eq_true]
            intro x hx
            obtain ⟨j, hj, ej⟩ := List.getElem_of_mem hx
            exact hall j x hj (by rw [List.getElem?_eq_getElem hj, ej])
          rw [if_pos e] at k2
          exact k2
      · refine if_t (by rw [el, decide_eq_false hl]; rfl) (raise_s ?_)
        have k2 := k _ (.refl _)
        have e : goodB xs (cellsOf (wayOf t) names).length = false := by
          unfold goodB
          rw [decide_eq_false hl]
          rfl
        rw [if_neg (by rw [e]; decide)] at k2
        exact k2
end
end FK
set_option Elab.async false
set_option linter.all false
set_option maxRecDepth 100000
set_option maxHeartbeats 4000000
set_option pp.maxSteps 400
namespace FK
open PySem PySem.Spec PyProof.Rows L2
theorem px {P : Program} {w : World} {K : PySem.W.Frag} {mg : Str → Option Value} {base : Heap} {N : List Str} {x : Str} {sc : Scope} {f : Addr} {cdv : Value} {A : Around} {outer : List Env} {s : Shared} {H : Hp} {E : XK} :
    Passes (L2.CX P w) (cxOf (L2.CX P w) P w K mg base N x sc f cdv A outer s H E) E := passes_call (takes_of rfl rfl rfl rfl) fun _ _ _ _ h => h
theorem dec_int {m n : Nat} : decide (V.int (m : Nat) = V.int (n : Nat)) = decide (m = n) := by
  by_cases e : m = n
  · simp [e]
  · rw [decide_eq_false e, decide_eq_false fun z => e (by injection z with z; omega)]
theorem dec_str {x y : Str} : decide (V.str x = V.str y) = decide (x = y) := by
  by_cases e : x = y
  · simp [e]
  · rw [decide_eq_false e, decide_eq_false fun z => e (by injection z)]
theorem ixN_n {n j : Nat} (h : j < n) : ixN n (j : Int) = some j := by
  unfold ixN
  rw [if_pos (by omega), if_pos (by omega)]
  simp
section
variable {P : Program} {w : World} {K : PySem.W.Frag} {mg : Str → Option Value} {base : Heap} {c : Cs}
/-! cells_of -/
def spCellsOf (c : Cs) : Sp := fun vs H Q E => ∃ (p : Addr) (a : Str) (t : Tr Str) (names : List Str), vs = [.ref p, .str a] ∧ PlanAt c.fork H p t names ∧ a ∈ names ∧
  ∀ H' r, Same H H' → H r = none → H' r = some (.lst ((List.range (wayOf t a).length).map fun l => V.int ((beg (wayOf t) names a + l : Nat)))) → Q (.ref r) H'
abbrev sCellsOf : Stmt := inClass (topS 30) 7
theorem scCellsOf : FnScope ["self", "writer", "index", "cell"] ["self", "writer"] (defScope sCellsOf) := ⟨rfl, rfl, rfl, by decide +kernel, rfl, by decide +kernel, by decide +kernel⟩
def ownF (a : Str) (x : (Str × Nat) × Nat) : Option Nat := if x.1.1 = a then some x.2 else none
theorem ok_cellsOf (T : Txt K mg) (R : ErrTxt P K mg c) (L : PlanTxt P K mg c) : FnM P w K mg base (L2.CX P w) 5 c.fork "cells_of" (spCellsOf c) := by
  have G : FnM P w K mg base (L2.CX P w) 4 c.fork "check_writer" (spCheckWriter c) := ok_checkWriter T R L
  refine L.mCellsOf.okX scCellsOf (fun vs H Q E h => ?_) (fun f cdv A outer s H vs Q E hr h => ?_)
  · obtain ⟨p, a, t, names, rfl, _⟩ := h
    rfl
  · obtain ⟨p, a, t, names, rfl, hp, ha, k⟩ := h
    obtain ⟨dx, nl, cl, sl, wd, fd, ld, vt, zw, ps, h1, h2, h3, h4, h5, h6, h7, h8⟩ := hp.ex
    refine ⟨_, pss_cons (ps_expr (pmeth G L.cls hr px (pv 0) (pa_cons (pv 1) pa_nil)))
      (pss_one (ps_ret (pe_lc (own := [("index", 2), ("cell", 3)]) (g := gTup K 2 (gCons (gName 2) (gCons (gName 3) gNil))) (tt := tTest (tOp rEq (tOp (rIxT K) (tVar 3) (tC (.int 0))) (tVar 1))) (te := tVar 2) rfl scCellsOf.nd (pi_enum (by rfl) T.b.enumerate (pa_cons (pe_fld (pv 0) rfl) pa_nil))
        (blkOk_by (N := ["self", "writer", "index", "cell"]) (sc := defScope sCellsOf) (by decide +kernel))
        (fun _ _ _ _ _ => pg_tup (by rfl) (pgs_cons (pg_name (i := 2) scCellsOf.nd rfl (.inl rfl)) (pgs_cons (pg_name (i := 3) scCellsOf.nd rfl (.inl rfl)) pgs_nil)))
        (fun _ _ _ _ _ => pts_one (pt_cmpR op_eq (pe_ix ix_tup (pv 3) pe_int (fun _ _ => rfl)) (pv 1) (nomark _))) (fun _ _ _ _ _ => pv 2)))), ?_⟩
    refine ⟨_, rfl, p, dx, _, rfl, h1, rfl, _, rfl, p, a, t, names, rfl, hp, .inl ⟨ha, ?_⟩⟩
    refine ⟨_, rfl, p, c.fork, dx, _, _, rfl, h1, L.cls, L.nCells, rfl, cl, _, rfl, SqL.of h3, fun D hD => ?_⟩
    have e0 : ((cellsOf (wayOf t) names).zipIdx 0).filterMap (ownF a) = (List.range (wayOf t a).length).map fun l => 0 + beg (wayOf t) names a + l := own_from names 0 hp.good.nd ha
    refine lc_it (walk_enum (xs := ps.map V.ref)) (fun i H' => Same H H' ∧ H' D = some (.lst (((((cellsOf (wayOf t) names).zipIdx 0).take i).filterMap (ownF a)).map fun (i : Nat) => V.int i))) ?_ ?_ ?_ ?_
    · exact ⟨Same.upd hD, upd_same⟩
    · rintro i H' _ ⟨s3, _⟩
      exact s3.seq (SqL.of h3)
    · rintro i x H3 H3' hi ⟨s3, e3⟩ ⟨Tn, x1, x2, rfl, hT, rfl, hx1, hx2⟩
      have hx1 : x1 = .int (i : Nat) := (Option.some.inj hx1).symm
      subst hx1
      have hx2 : (ps.map V.ref)[i]? = some x2 := hx2
      rw [List.getElem?_map] at hx2
      obtain ⟨q, hq, rfl⟩ := Option.map_eq_some_iff.mp hx2
      obtain ⟨⟨b, l⟩, hc, hq2⟩ := paired_get h4 hq
      have nT : D ≠ Tn := fun e => by rw [e, hT] at e3; cases e3
      have s4 : Same H (upd H3 Tn (.tup [.int (i : Nat), .ref q])) := s3.upd' hT
      have e4 : (upd H3 Tn (.tup [.int (i : Nat), .ref q])) D = _ := (upd_ne nT).trans e3
      have hq3 := s4 _ _ hq2
      have hz : ((cellsOf (wayOf t) names).zipIdx 0)[i]? = some ((b, l), i) := by rw [List.getElem?_zipIdx, hc]; simp
      have es := take_snoc hz
      refine ⟨Tn, _, rfl, SqT.of upd_same, rfl, _, _, rfl, _, _, rfl, rfl, rfl, ?_⟩
      refine ⟨_, rfl, q, _, 0, _, rfl, rfl, SqT.of hq3, atI_nat (j := 0) rfl, _, rfl, rfl, _, rfl, ?_⟩
      rw [dec_str]
      by_cases e : b = a
      · refine if_t (decide_eq_true e) ⟨_, rfl, _, e4, ?_, s4.at hD, ?_⟩
        · refine sz (m := 132) ?_
          rw [List.length_map]
          refine Nat.le_trans (List.length_filterMap_le _ _) ?_
          have := hp.good.cells_le
          rw [List.length_take, List.length_zipIdx]
          omega
        · rw [upd_same, es, List.filterMap_append, List.map_append]
          simp [ownF, e]
      · refine if_f (decide_eq_false e) ⟨s4, ?_⟩
        rw [e4, es, List.filterMap_append]
        simp [ownF, e]
    · rintro H3 ⟨s3, e3⟩
      refine k H3 D s3 hD ?_
      rw [e3]
      have hl : ((cellsOf (wayOf t) names).zipIdx 0).take (ps.map V.ref).length = (cellsOf (wayOf t) names).zipIdx 0 := by
        rw [List.length_map, paired_len h4, List.take_of_length_le (by simp)]
      rw [hl, e0, List.map_map]
      congr 3
      funext l
      simp
/-! turned -/
def spTurned (c : Cs) : Sp := fun vs H Q E => ∃ (p q r : Addr) (st : List Int) (row : List (Nat × Int)) (t : Tr Str) (names : List Str), vs = [.ref p, .ref q, .ref r] ∧ PlanAt c.fork H p t names ∧ TupAt H q st ∧ StOk t names st ∧ RowAt H r row ∧
  (∀ x ∈ row, x.1 < st.length ∧ (x.2 = 0 ∨ x.2 = 1)) ∧ ∀ H' q', Same H H' → H q' = none → TupAt H' q' (after st row) → Q (.ref q') H'
abbrev sTurned : Stmt := inClass (topS 30) 8
theorem scTurned : FnScope ["self", "state", "turns", "marks", "index", "mark"] ["self", "state", "turns"] (defScope sTurned) := ⟨rfl, rfl, rfl, by decide +kernel, rfl, by decide +kernel, by decide +kernel⟩
theorem ok_turned (T : Txt K mg) (R : ErrTxt P K mg c) (L : PlanTxt P K mg c) : FnM P w K mg base (L2.CX P w) 4 c.fork "turned" (spTurned c) := by
  have G : FnM P w K mg base (L2.CX P w) 3 c.fork "check_state" (spCheckState c) := ok_checkState T R L
  have G2 : FnB P w K mg base CX0 1 "is_below" spIsBelow := ok_isBelow T
  refine L.mTurned.okX scTurned (fun vs H Q E h => ?_) (fun f cdv A outer s H vs Q E hr h => ?_)
  · obtain ⟨p, q, r, st, row, t, names, rfl, _⟩ := h
    rfl
  · obtain ⟨p, q, r, st, row, t, names, rfl, hp, hq, hst, hrow, hok, k⟩ := h
    obtain ⟨dx, nl, cl, sl, wd, fd, ld, vt, zw, ps, h1, h2, h3, h4, h5, h6, h7, h8⟩ := hp.ex
    obtain ⟨rs, hr1, hr2⟩ := hrow
    refine ⟨_, pss_cons (ps_expr (pmeth G L.cls hr px (pv 0) (pa_cons (pv 1) pa_nil)))
      (pss_cons (ps_set (i := 3) scTurned.nd rfl (.inl rfl) (pe_callTy call_list_of (by rfl) T.b.list (by decide +kernel) (pa_cons (pv 1) pa_nil)))
      (pss_cons (ps_for (passes_of rfl) rfl (pi_list (pv 2)) (pg_tup (by rfl) (pgs_cons (pg_name (i := 4) scTurned.nd rfl (.inl rfl)) (pgs_cons (pg_name (i := 5) scTurned.nd rfl (.inl rfl)) pgs_nil)))
        (pss_cons (ps_if (PW.pt (pw_or (pt_not (pt_val (pcall G2 (hr.mono (by decide)) pass0 (pa_cons (pv 4) (pa_cons (pe_callB call_len_seq (by rfl) T.b.len (by decide +kernel) (pa_cons (pv 3) pa_nil)) pa_nil)))))
              (pw_or1 (pt_not (pt_val (pcall G2 (hr.mono (by decide)) pass0 (pa_cons (pv 5) (pa_cons (pe_ix ix_list (pe_fld (pv 0) rfl) (pv 4) (fun _ _ => rfl)) pa_nil))))))))
            (pss_one ps_never) pss_nil)
          (pss_one (ps_asg (pv 5) (pg_sub (pv 3) (pv 4) set_list)))))
      (pss_one (ps_ret (pe_callTy call_tuple_of (by rfl) T.b.tuple (by decide +kernel) (pa_cons (pv 3) pa_nil)))))), ?_⟩
    refine ⟨_, rfl, p, dx, _, rfl, h1, rfl, _, rfl, p, q, t, names, rfl, hp, .inr ⟨_, hq, plain_ints, fun H1 s1 => ?_⟩⟩
    rw [if_pos (good_ints hst.marks hst.len')]
    refine ⟨_, rfl, q, _, rfl, .inr (SqT.of (s1 _ _ hq)), fun l hl => ?_⟩
    have s2 : Same H (upd H1 l (.lst (st.map V.int))) := s1.upd' hl
    have nl0 : H l = none := s1.free hl
    refine ⟨_, rfl, r, rfl, ⟨_, SqL.of (s2 _ _ hr1)⟩, for_it (walk_list (xs := rs.map V.ref)) (fun i σ H' => ∃ a b, σ = [some (.ref p), some (.ref q), some (.ref r), some (.ref l), a, b] ∧ Same H H' ∧ H' l = some (.lst ((after st (row.take i)).map V.int))) ?_ ?_ ?_ ?_⟩
    · exact ⟨none, none, rfl, s2, upd_same⟩
    · rintro i σ H' _ ⟨a, b, rfl, s3, e3⟩
      exact SqL.of (s3 _ _ hr1)
    · rintro i x σ H3 H3' hi ⟨a, b, rfl, s3, e3⟩ ⟨rfl, hx⟩
      rw [List.getElem?_map] at hx
      obtain ⟨y, hy, rfl⟩ := Option.map_eq_some_iff.mp hx
      obtain ⟨⟨j, m⟩, hjm, hy2⟩ := paired_get hr2 hy
      obtain ⟨hj, hm⟩ := hok _ (List.mem_of_getElem? hjm)
      have hy3 := s3 _ _ hy2
      have es := take_snoc hjm
      have hl : ((after st (row.take i)).map V.int).length = st.length := by rw [List.length_map, after_length]
      refine ⟨y, _, rfl, SqT.of hy3, rfl, _, _, rfl, _, _, rfl, rfl, ?_⟩
      refine ⟨_, rfl, _, rfl, l, _, rfl, .inl (SqL.of e3), .int j, (st.length : Nat), by rw [hl]; rfl, .int _, _, rfl, ?_⟩
      have b1 : belowV (.int (j : Nat)) ((st.length : Nat)) = true := by
        have hj : j < st.length := hj
        simp [belowV, hj]
      have b2 : belowV (.int m) 2 = true := by
        have hm : m = 0 ∨ m = 1 := hm
        rcases hm with rfl | rfl <;> rfl
      have hj2 : j < (cellsOf (wayOf t) names).length := by rw [← hst.len']; exact hj
      refine if_f (by rw [b1]; rfl) ⟨_, rfl, _, rfl, p, c.fork, dx, _, _, rfl, s3 _ _ h1, L.cls, L.nSizes, rfl, _, rfl, sl, _, _, _, rfl, rfl, SqL.of (s3 _ _ h5), atI_nat (j := j) ?_, V.int m, 2, rfl, PlainV.int m, _, rfl, ?_⟩
      · rw [List.getElem?_replicate, if_pos hj2]
      · refine if_f (by rw [b2]; rfl) ?_
        refine ⟨_, rfl, _, rfl, _, rfl, l, _, _, j, rfl, rfl, e3, ?_, ?_⟩
        · exact ixN_n (by rw [hl]; exact hj)
        · refine ⟨_, _, rfl, ?_, ?_⟩
          · exact s3.at nl0
          · rw [upd_same, es]
            unfold after
            rw [List.foldl_append, List.foldl_cons, List.foldl_nil, List.map_set]
    · rintro σ H3 ⟨a, b, rfl, s3, e3⟩
      refine ⟨_, rfl, l, _, rfl, .inl ⟨SqL.of e3, fun q' hq' => ?_⟩⟩
      refine k _ q' (s3.upd' hq') (s3.free hq') ?_
      show upd _ q' _ q' = _
      rw [upd_same, List.length_map, paired_len hr2, List.take_length]
end
end FK
set_option Elab.async false
set_option linter.all false
set_option maxRecDepth 100000
set_option maxHeartbeats 4000000
set_option pp.maxSteps 400
namespace FK
open PySem PySem.Spec PyProof.Rows L2
def b01 (b : Bool) : Int := if b then 1 else 0
theorem str_b01 (b : Bool) : Str.ofString (toString (b01 b)) = S [b] := by cases b <;> decide +kernel
theorem log_b01 (b : Bool) : (b01 b).natAbs.log2 < 1920 := by cases b <;> decide +kernel
theorem brd_mod (cs : List (List Bool)) (st : List Int) (f : List Bool) : sumAt cs st f % 2 = b01 (brd cs st f) := by
  unfold brd b01
  by_cases h : sumAt cs st f % 2 = 1
  · simp [h]
  · simp only [h, decide_false]
    have := Int.emod_nonneg (sumAt cs st f) (show (2 : Int) ≠ 0 by decide)
    have := Int.emod_lt_of_pos (sumAt cs st f) (show (0 : Int) < 2 by decide)
    simp
    omega
theorem getD_at {st : List Int} {i : Nat} (h : i < st.length) : (st.map V.int)[i]? = some (.int (st.getD i 0)) := by
  rw [List.getElem?_map, List.getElem?_eq_getElem h, List.getD_eq_getElem?_getD, List.getElem?_eq_getElem h]
  rfl
structure SubOf (t sub : Tr Str) (p : List Bool) : Prop where
  ways : ∀ x ∈ sub.ways p, x ∈ t.ways []
  forks : ∀ f ∈ sub.forks p, f ∈ t.forks []
section
variable {P : Program} {w : World} {K : PySem.W.Frag} {mg : Str → Option Value} {base : Heap} {c : Cs}
/-! _parity -/
def spParity (c : Cs) : Sp := fun vs H Q E => ∃ (p q : Addr) (f : List Bool) (st : List Int) (t : Tr Str) (names : List Str), vs = [.ref p, .ref q, .str (S f)] ∧ PlanAt c.fork H p t names ∧ TupAt H q st ∧ StOk t names st ∧ f ∈ t.forks [] ∧
  ∀ H', Same H H' → Q (.int (b01 (brd (cf (wayOf t) names) st f))) H'
abbrev sParity : Stmt := inClass (topS 33) 4
theorem scParity : FnScope ["self", "state", "fork", "index"] ["self", "state", "fork"] (defScope sParity) := ⟨rfl, rfl, rfl, by decide +kernel, rfl, by decide +kernel, by decide +kernel⟩
theorem ok_parity (T : Txt K mg) (L : PlanTxt P K mg c) : FnM P w K mg base CX0 1 c.fork "_parity" (spParity c) := by
  refine L.mParity.ok scParity (fun vs H Q E h => ?_) (fun f cdv A outer s H vs Q E hr h => ?_)
  · obtain ⟨p, q, f, st, t, names, rfl, _⟩ := h
    rfl
  · obtain ⟨p, q, f, st, t, names, rfl, hp, hq, hst, hf, k⟩ := h
    obtain ⟨dx, nl, cl, sl, wd, fd, ld, vt, zw, ps, h1, h2, h3, h4, h5, h6, h7, h8⟩ := hp.ex
    obtain ⟨kv, hkv, hfk, _⟩ := h7.ex
    obtain ⟨fa, hva, hfa⟩ := hfk f hf
    have hu := hu_of hr
    refine ⟨_, pss_one (ps_ret (pe_op op_mod (pe_callB (cr_sum rfl) (by rfl) T.b.sum (by decide +kernel) (pa_cons
      (pe_lc (own := [("index", 3)]) (g := gName 3) (tt := tYes) (te := tOp (rIxT K) (tVar 1) (tVar 3)) rfl scParity.nd (pi_list (pe_dget hu (pe_fld (pv 0) rfl) (pv 2) (fun _ _ => rfl)))
        (blkOk_by (N := ["self", "state", "fork", "index"]) (sc := defScope sParity) (by decide +kernel))
        (fun _ _ _ _ _ => pg_name (i := 3) scParity.nd rfl (.inl rfl)) (fun _ _ _ _ _ => pts_nil) (fun _ _ _ _ _ => pe_ix ix_tup (pv 1) (pv 3) (fun _ _ => rfl))) pa_nil)) pe_int)), ?_⟩
    refine ⟨_, rfl, p, c.fork, dx, _, _, rfl, h1, L.cls, L.nFlags, rfl, _, rfl, fd, _, rfl, by rw [← hva]; exact DGet.k (k := Sum.inr (S f)) hkv, ?_⟩
    refine ⟨fa, rfl, ⟨_, SqL.of hfa⟩, fun D hD => ?_⟩
    refine lc_it (walk_list (xs := (idxF 0 (cf (wayOf t) names) f).map fun (i : Nat) => V.int i)) (fun i H' => Same H H' ∧ H' D = some (.lst ((((idxF 0 (cf (wayOf t) names) f).take i).map fun i => st.getD i 0).map V.int))) ?_ ?_ ?_ ?_
    · exact ⟨Same.upd hD, upd_same⟩
    · rintro i H' _ ⟨s3, _⟩
      exact s3.seq (SqL.of hfa)
    · rintro i x H3 H3' hi ⟨s3, e3⟩ ⟨rfl, hx⟩
      rw [List.getElem?_map] at hx
      obtain ⟨j, hj, rfl⟩ := Option.map_eq_some_iff.mp hx
      have hlt := (idx_lt f _ 0 j (List.mem_of_getElem? hj)).2
      rw [Nat.zero_add, ← hst.len] at hlt
      refine ⟨rfl, _, rfl, _, rfl, q, _, (j : Nat), _, rfl, rfl, SqT.of (s3 _ _ hq), atI_nat (getD_at hlt), _, e3, ?_, s3.at hD, ?_⟩
      · refine sz (m := 132) ?_
        rw [List.length_map, List.length_map, List.length_take]
        have h1 := idx_length f (cf (wayOf t) names) 0
        have := hp.good.cells_le
        rw [cf_length] at h1
        omega
      · rw [upd_same, take_snoc hj]
        simp
    · rintro H3 ⟨s3, e3⟩
      rw [List.length_map, List.take_length] at e3
      refine ⟨D, _, rfl, SqL.of e3, ?_⟩
      refine ⟨_, _, rfl, rfl, (by show (0 : Int) < 2; decide), ?_⟩
      have k2 := k H3 s3
      rw [← brd_mod] at k2
      rw [idx_sum st f _ 0, List.drop_zero]
      exact k2
/-! _leaf_from -/
def spLeafFrom (c : Cs) : Sp := fun vs H Q E => ∃ (p q : Addr) (st : List Int) (t : Tr Str) (names : List Str), vs = [.ref p, .ref q, .str ""] ∧ PlanAt c.fork H p t names ∧ TupAt H q st ∧ StOk t names st ∧
  ∀ H', Same H H' → Q (.str (t.tell (brd (cf (wayOf t) names) st) [])) H'
abbrev sLeafFrom : Stmt := inClass (topS 33) 5
theorem scLeafFrom : FnScope ["self", "state", "top", "place"] ["self", "state", "top"] (defScope sLeafFrom) := ⟨rfl, rfl, rfl, by decide +kernel, rfl, by decide +kernel, by decide +kernel⟩
theorem fork_short {t : Tr Str} (ok : TreeOk t) {f : List Bool} (h : f ∈ t.forks []) : f.length ≤ 11 := by
  obtain ⟨a, v, k, h1, h2, rfl⟩ := fork_way t [] f h
  have := way_le ok (way_leaf h1)
  rw [wayOf_eq ok.nd h1] at this
  rw [List.length_take]
  omega
theorem ok_leafFrom (T : Txt K mg) (L : PlanTxt P K mg c) : FnM P w K mg base CX0 2 c.fork "_leaf_from" (spLeafFrom c) := by
  have G : FnM P w K mg base CX0 1 c.fork "_parity" (spParity c) := ok_parity T L
  refine L.mLeafFrom.ok scLeafFrom (fun vs H Q E h => ?_) (fun f cdv A outer s H vs Q E hr h => ?_)
  · obtain ⟨p, q, st, t, names, rfl, _⟩ := h
    rfl
  · obtain ⟨p, q, st, t, names, rfl, hp, hq, hst, k⟩ := h
    obtain ⟨dx, nl, cl, sl, wd, fd, ld, vt, zw, ps, h1, h2, h3, h4, h5, h6, h7, h8⟩ := hp.ex
    obtain ⟨kv, hkv, hfk, hfn⟩ := h7.ex
    obtain ⟨lv, hlv, hlk, _⟩ := h8.ex
    have hu := hu_of hr
    refine ⟨_, pss_cons (ps_set (i := 3) scLeafFrom.nd rfl (.inl rfl) (pv 2))
      (pss_cons (ps_while PassesOwn.never (pt_cmp (pc_din hu (pv 3) (pe_fld (pv 0) rfl)))
        (pss_one (ps_set (i := 3) scLeafFrom.nd rfl (.inl rfl) (pe_op op_add_str (pv 3) (pe_callTy call_str_int (by rfl) T.b.str (by decide +kernel) (pa_cons (pmeth G L.cls hr pass0 (pv 0) (pa_cons (pv 1) (pa_cons (pv 3) pa_nil))) pa_nil))))))
      (pss_one (ps_ret (pe_dget hu (pe_fld (pv 0) rfl) (pv 3) (fun _ _ => rfl))))), ?_⟩
    refine ⟨_, rfl, ?_⟩
    refine ⟨fun m σ H' => ∃ (v : List Bool) (sub : Tr Str), σ = [some (.ref p), some (.ref q), some (.str ""), some (.str (S v))] ∧ Same H H' ∧ SubOf t sub v ∧ sub.tell (brd (cf (wayOf t) names) st) v = t.tell (brd (cf (wayOf t) names) st) [] ∧ m = sub.size,
      ⟨_, [], t, by rw [S_nil]; rfl, .refl _, ⟨fun _ h => h, fun _ h => h⟩, rfl, rfl⟩, ?_⟩
    rintro m σ H1 ⟨v, sub, rfl, s1, hsub, ht, rfl⟩
    refine ⟨_, rfl, _, rfl, p, c.fork, dx, _, _, rfl, s1 _ _ h1, L.cls, L.nFlags, rfl, fd, _, rfl, DGet.k (k := Sum.inr (S v)) (s1 _ _ hkv), _, rfl, ?_⟩
    cases sub with
    | leaf a =>
      have hw : (a, v) ∈ t.ways [] := hsub.ways _ (by simp [Tr.ways])
      rw [hfn v (way_not_fork t [] a v hw)]
      refine if_f rfl ⟨_, rfl, p, c.fork, dx, _, _, rfl, s1 _ _ h1, L.cls, L.nLeaves, rfl, _, rfl, ld, _, rfl, by rw [← hlk a v hw]; exact DGet.k (k := Sum.inr (S v)) (s1 _ _ hlv), ?_⟩
      have e : a = t.tell (brd (cf (wayOf t) names) st) [] := ht
      rw [e]
      exact k _ s1
    | node l r =>
      have hf : v ∈ t.forks [] := hsub.forks _ (by simp [Tr.forks])
      obtain ⟨fa, hva, _⟩ := hfk v hf
      rw [hva]
      refine if_t rfl ⟨fun σ' H' => ∃ m', m' < (Tr.node l r).size ∧ ∃ (v : List Bool) (sub : Tr Str), σ' = [some (.ref p), some (.ref q), some (.str ""), some (.str (S v))] ∧ Same H H' ∧ SubOf t sub v ∧ sub.tell (brd (cf (wayOf t) names) st) v = t.tell (brd (cf (wayOf t) names) st) [] ∧ m' = sub.size, fun _ _ z => z, ?_⟩
      refine ⟨_, rfl, _, rfl, p, dx, _, rfl, s1 _ _ h1, rfl, _, rfl, _, rfl, p, q, v, st, t, names, rfl, hp.same s1, s1 _ _ hq, hst, hf, fun H2 s2 => ?_⟩
      refine ⟨_, rfl, log_b01 _, _, _, rfl, rfl, ?_, ?_⟩
      · have := fork_short hp.good.ok hf
        show (S v).length + (Str.ofString (toString (b01 _))).length ≤ sizeLine
        rw [str_b01, S_len, S_len]
        exact sz' (show v.length + [brd (cf (wayOf t) names) st v].length ≤ 12 by simp; omega)
      · have es : (S v) ++ (Str.ofString (toString (b01 (brd (cf (wayOf t) names) st v)))) = S (v ++ [brd (cf (wayOf t) names) st v]) := by rw [str_b01, S_app]
        have ht2 : (if brd (cf (wayOf t) names) st v then r.tell (brd (cf (wayOf t) names) st) (v ++ [true]) else l.tell (brd (cf (wayOf t) names) st) (v ++ [false])) = t.tell (brd (cf (wayOf t) names) st) [] := ht
        cases hb : brd (cf (wayOf t) names) st v with
        | true =>
          rw [hb] at es ht2
          refine ⟨r.size, by simp [Tr.size]; omega, v ++ [true], r, ?_, s1.trans s2, ⟨fun x hx => hsub.ways x (by simp [Tr.ways, hx]), fun x hx => hsub.forks x (by simp [Tr.forks, hx])⟩, ht2, rfl⟩
          rw [← es]
          rfl
        | false =>
          rw [hb] at es ht2
          refine ⟨l.size, by simp [Tr.size]; omega, v ++ [false], l, ?_, s1.trans s2, ⟨fun x hx => hsub.ways x (by simp [Tr.ways, hx]), fun x hx => hsub.forks x (by simp [Tr.forks, hx])⟩, ht2, rfl⟩
          rw [← es]
          rfl
/-! told -/
def spTold (c : Cs) : Sp := fun vs H Q E => ∃ (p q : Addr) (st : List Int) (t : Tr Str) (names : List Str), vs = [.ref p, .ref q] ∧ PlanAt c.fork H p t names ∧ TupAt H q st ∧ StOk t names st ∧
  ∀ H', Same H H' → Q (.str (t.tell (brd (cf (wayOf t) names) st) [])) H'
abbrev sTold : Stmt := inClass (topS 33) 9
theorem scTold : FnScope ["self", "state"] ["self", "state"] (defScope sTold) := ⟨rfl, rfl, rfl, by decide +kernel, rfl, by decide +kernel, by decide +kernel⟩
theorem ok_told (T : Txt K mg) (R : ErrTxt P K mg c) (L : PlanTxt P K mg c) : FnM P w K mg base (L2.CX P w) 4 c.fork "told" (spTold c) := by
  have G : FnM P w K mg base (L2.CX P w) 3 c.fork "check_state" (spCheckState c) := ok_checkState T R L
  have G2 : FnM P w K mg base CX0 2 c.fork "_leaf_from" (spLeafFrom c) := ok_leafFrom T L
  refine L.mTold.okX scTold (fun vs H Q E h => ?_) (fun f cdv A outer s H vs Q E hr h => ?_)
  · obtain ⟨p, q, st, t, names, rfl, _⟩ := h
    rfl
  · obtain ⟨p, q, st, t, names, rfl, hp, hq, hst, k⟩ := h
    obtain ⟨dx, nl, cl, sl, wd, fd, ld, vt, zw, ps, h1, h2, h3, h4, h5, h6, h7, h8⟩ := hp.ex
    refine ⟨_, pss_cons (ps_expr (pmeth G L.cls hr px (pv 0) (pa_cons (pv 1) pa_nil))) (pss_one (ps_ret (pmeth G2 L.cls (hr.mono (by decide)) pass0 (pv 0) (pa_cons (pv 1) (pa_cons pe_str pa_nil))))), ?_⟩
    refine ⟨_, rfl, p, dx, _, rfl, h1, rfl, _, rfl, p, q, t, names, rfl, hp, .inr ⟨_, hq, plain_ints, fun H1 s1 => ?_⟩⟩
    rw [if_pos (good_ints hst.marks hst.len')]
    exact ⟨_, rfl, p, dx, _, rfl, s1 _ _ h1, rfl, _, rfl, p, q, st, t, names, rfl, hp.same s1, s1 _ _ hq, hst, fun H2 s2 => k _ (s1.trans s2)⟩
end
end FK
set_option Elab.async false
set_option linter.all false
set_option maxRecDepth 100000
set_option maxHeartbeats 4000000
set_option pp.maxSteps 400
/-! levels = reversed(range(n)), held in a name and walked later. -/
namespace FK
open PySem PySem.Spec PyProof.Rows L2
/-- at it: what reversed(range(n)) is, not yet begun -/
def RvO (it : Addr) (n : Nat) : HO := .ext fun h => IsRangeIter h it ((n : Int) - 1) n (-1)
theorem rvO_ok {P : Program} {w : World} {H : Hp} {h : Heap} {it : Addr} {n : Nat} (e : IsRangeIter h it ((n : Int) - 1) n (-1)) : ObjOk P w H h it (RvO it n) := ⟨e, ⟨_, e⟩, fun h1 h2 q k => k _ q⟩
def tRv (n0 : Nat) (te : TE) : TE := fun σ H Q => tRg1 te σ H fun a b H1 => ∃ n : Nat, a = 0 ∧ b = n ∧ n < 1000 ∧ ∀ it, H1 it = none → n0 ≤ it → Q (.ref it) (upd H1 it (RvO it n))
def iRv (n0 k : Nat) : TI := fun σ H R => ∃ (it : Addr) (n : Nat), σ[k]? = some (some (.ref it)) ∧ H it = some (RvO it n) ∧ n0 ≤ it ∧ R (Itc ((n : Int) - 1) (-1) n) (ItX.dropH H it)
section
variable {X : L2.Cx}
theorem pe_rv {e : Expr} {te : TE} {p p2 pos pos2 : Pos} (B : BiOk X.mg) (he : PE X e te) (hg : Gl X "reversed" := by rfl) (hg2 : Gl X "range" := by rfl) (hs2 : starEach [e] X.env = (false, eval e X.env) :: starEach [] X.env := by rfl)
    (hs : starEach [.Call (.Name "range" p2) [e] [] pos2] X.env = (false, eval (.Call (.Name "range" p2) [e] [] pos2) X.env) :: starEach [] X.env := by rfl) :
    PE X (.Call (.Name "reversed" p) [.Call (.Name "range" p2) [e] [] pos2] [] pos) (tRv X.s_0.heap.objs.size te) := by
  refine ⟨fun pins s σ H Q I h => ?_⟩
  have hr : PRg X (.Call (.Name "range" p2) [e] [] pos2) (tRg1 te) := prg_1 hg2 B.range he hs2
  refine Call_ (ld_blt I hg B.reversed PyProof.Rows.boot_reversed (PyProof.Rows.callWith_type1 (args_cons (thn (hr pins s σ H _ I h) fun u s1 hx => args_nil ?_) hs) hs rfl))
  · obtain ⟨r, a, b, t, w1, v, H1, eu, hr, I1, n, rfl, rfl, hn, q⟩ := hx
    subst eu
    have e1 : Builtin.Range.rangeSize 0 (n : Int) 1 = (n : Int) := by
      have := rangeSize_nat 0 (n : Int)
      rw [this]
      simp
    refine call_reversed_range hr (smallRev_one (by omega) (by omega) (by omega) (by omega)) ?_
    have eq : rngRevObj 0 (n : Int) 1 = { cls := .type "range_iterator", dict := none, data := .fields #[rawInt ((n : Int) - 1), rawInt n, rawInt (-1)], slots := #[] } := by
      unfold rngRevObj
      rw [e1]
      simp
    refine ⟨.ref s1.heap.objs.size, _, I1.laid (t' := s1.toks) (a := s1.heap.objs.size) (o := RvO s1.heap.objs.size n) (fun b u e => Heap.get?_push_of_some _ e) (Nat.le_refl _) (rvO_ok ?_), rfl, q _ (I1.hok.fresh (Nat.le_refl _)) I1.sz⟩
    show (s1.heap.push (rngRevObj 0 (n : Int) 1)).get? _ = _
    rw [eq]
    exact Heap.get?_push_size _ rfl
theorem pi_rv {tg : Expr} {k : Nat} {x : Str} {p : Pos} (hN : X.N[k]? = some x) (hv : Vis X.env.scope x) (hd : (x == ("__debug__" : Str)) = false := by decide) (hcd : (x == ("__classdict__" : Str)) = false := by decide) : PI X tg (.Name x p) (iRv X.s_0.heap.objs.size k) := by
  refine ⟨fun pins s σ H R I h => ?_⟩
  obtain ⟨it, n, hs, hi, hn, q⟩ := h
  refine thn ((pe_var (pos := p) (i := k) hN hv hd hcd).run pins s σ H (fun v H1 => v = .ref it ∧ H1 = H) I ⟨.ref it, hs, rfl, rfl⟩) fun u s1 ⟨v, H1, I1, r1, ev, eH⟩ => ?_
  subst ev
  rw [eH] at I1
  cases r1
  have eo : IsRangeIter s1.heap it ((n : Int) - 1) n (-1) := (I1.hok it _ hi).1
  have T := turn_rangeC (P := X.prog) (w := X.w) (K := X.K) (tg := tg) it ((n : Int) - 1) (-1) n
  have st : IsRangeIter s1.heap it ((n : Int) - 1 + ((0 : Nat) : Int) * (-1)) ((n : Int) - ((0 : Nat) : Int)) (-1) := by
    have a1 : (n : Int) - 1 + ((0 : Nat) : Int) * (-1) = (n : Int) - 1 := by omega
    have a2 : (n : Int) - ((0 : Nat) : Int) = n := by omega
    rw [a1, a2]
    exact eo
  refine T.self X.A 0 s1 _ _ st ?_
  have hi' := hi
  unfold RvO at hi'
  refine ⟨it, [it], _, _, ItX.dropH H it, rfl, ItX.inv_drop I1 hi', T, st, fun b hb => ?_, q⟩
  have e : b = it := by simpa using hb
  rw [e]
  exact ItX.inv_fp I1 hi hn
end
end FK
set_option Elab.async false
set_option linter.all false
set_option maxRecDepth 100000
set_option maxHeartbeats 4000000
set_option pp.maxSteps 400
namespace FK
open PySem PySem.Spec PyProof.Rows L2
def rLnS : List V → Hp → VK → Prop := fun xs H Q => ∃ z, xs = [.str z] ∧ z.length ≤ sizeLine ∧ Q (.int z.length) H
def E0 : XK := fun _ _ _ => False
theorem sub_len {w : List Bool} {n : Nat} (h : w.length ≤ n) (hn : n ≤ 16777216 := by decide) : (S w).length ≤ sizeLine := by rw [S_len]; exact sz' h hn
theorem rev_at {n i : Nat} (h : i < n) : (List.range n).reverse[i]? = some (n - 1 - i) := by
  rw [List.getElem?_reverse (by simpa using h), List.length_range, List.getElem?_range (by omega)]
/-- an unknown writer, or one that is there -/
def OrUnknown (c : Cs) (H : Hp) (a : Str) (names : List Str) (E : XK) (G : Prop) : Prop :=
  (a ∈ names ∧ G) ∨ (a ∉ names ∧ NameOk a ∧ ∀ H' d, Same H H' → H d = none → H' d = some (.xd [("writer", .str a)]) → E (.ref c.eWriter) (some d) H')
section
variable {P : Program} {w : World} {K : PySem.W.Frag} {mg : Str → Option Value} {base : Heap} {c : Cs}
def spWrong (c : Cs) : Sp := fun vs H Q E => ∃ (p q : Addr) (a : Str) (st : List Int) (t : Tr Str) (names : List Str), vs = [.ref p, .ref q, .str a] ∧ PlanAt c.fork H p t names ∧ TupAt H q st ∧ StOk t names st ∧
  OrUnknown c H a names E (∀ H' r, Same H H' → H r = none → H' r = some (.lst ((wrong (brd (cf (wayOf t) names) st) (wayOf t a)).map fun k => V.str (S ((wayOf t a).take k)))) → Q (.ref r) H')
abbrev sWrong : Stmt := inClass (topS 33) 11
theorem scWrong : FnScope ["self", "state", "writer", "way", "levels", "level"] ["self", "state", "writer"] (defScope sWrong) := ⟨rfl, rfl, rfl, by decide +kernel, rfl, by decide +kernel, by decide +kernel⟩
theorem ok_wrong (T : Txt K mg) (R : ErrTxt P K mg c) (L : PlanTxt P K mg c) : FnM P w K mg base (L2.CX P w) 5 c.fork "wrong_forks" (spWrong c) := by
  have G : FnM P w K mg base (L2.CX P w) 3 c.fork "check_state" (spCheckState c) := ok_checkState T R L
  have G2 : FnM P w K mg base (L2.CX P w) 4 c.fork "check_writer" (spCheckWriter c) := ok_checkWriter T R L
  have G3 : FnM P w K mg base CX0 1 c.fork "_parity" (spParity c) := ok_parity T L
  refine L.mWrong.okX scWrong (fun vs H Q E h => ?_) (fun f cdv A outer s H vs Q E hr h => ?_)
  · obtain ⟨p, q, a, st, t, names, rfl, _⟩ := h
    rfl
  · obtain ⟨p, q, a, st, t, names, rfl, hp, hq, hst, k⟩ := h
    obtain ⟨dx, nl, cl, sl, wd, fd, ld, vt, zw, ps, h1, h2, h3, h4, h5, h6, h7, h8⟩ := hp.ex
    have hu := hu_of hr
    refine ⟨_, pss_cons (ps_expr (pmeth G L.cls (hr.mono (by decide)) px (pv 0) (pa_cons (pv 1) pa_nil)))
      (pss_cons (ps_expr (pmeth G2 L.cls hr px (pv 0) (pa_cons (pv 2) pa_nil)))
      (pss_cons (ps_set (i := 3) scWrong.nd rfl (.inr rfl) (pe_dget hu (pe_fld (pv 0) rfl) (pv 2) (fun _ _ => rfl)))
      (pss_cons (ps_set (i := 4) scWrong.nd rfl (.inl rfl) (pe_rv T.b (pe_callB call_len_str (by rfl) T.b.len (by decide +kernel) (pa_cons (pv 3) pa_nil))))
      (pss_one (ps_ret (pe_lc (own := [("level", 5)]) (g := gName 5) rfl scWrong.nd (pi_rv (k := 4) (by rfl) (.inl (by rfl)))
        (blkOk_by (N := ["self", "state", "writer", "way", "levels", "level"]) (sc := defScope sWrong) (by decide +kernel))
        (fun _ _ _ _ _ => pg_name (i := 5) scWrong.nd rfl (.inl rfl))
        (fun _ _ _ _ _ => pts_one (pt_cmpR op_ne (pe_callTy call_str_int (by rfl) T.b.str (by decide +kernel) (pa_cons (pmeth (E := E0) G3 L.cls (hr.mono (by decide)) pass0 (pv 0) (pa_cons (pv 1) (pa_cons (pe_slice sl_str (pv 3) po_none (po_some (pv 5))) pa_nil))) pa_nil)) (pe_ix ix_str (pv 3) (pv 5) (fun _ _ => rfl)) (nomark _)))
        (fun _ _ _ _ _ => pe_slice sl_str (pv 3) po_none (po_some (pv 5))))))))), ?_⟩
    refine ⟨_, rfl, p, dx, _, rfl, h1, rfl, _, rfl, p, q, t, names, rfl, hp, .inr ⟨_, hq, plain_ints, fun H1 s1 => ?_⟩⟩
    rw [if_pos (good_ints hst.marks hst.len')]
    rcases k with ⟨ha, k⟩ | ⟨ha, hn, k⟩
    · refine ⟨_, rfl, p, dx, _, rfl, s1 _ _ h1, rfl, _, rfl, p, a, t, names, rfl, hp.same s1, .inl ⟨ha, ?_⟩⟩
      have hw := hp.good.wlen ha
      refine ⟨_, rfl, p, c.fork, dx, _, _, rfl, s1 _ _ h1, L.cls, L.nWays, rfl, _, rfl, wd, _, rfl, by rw [← val_way hp.good.ok.nd (hp.good.mem.mp ha)]; exact DGet.k (k := Sum.inr a) (s1 _ _ h6), ?_⟩
      refine ⟨_, rfl, _, rfl, sub_len (n := 11) hw, _, rfl, (wayOf t a).length, rfl, by rw [S_len], by omega, fun it hit hyoung => ?_⟩
      refine ⟨it, (wayOf t a).length, rfl, upd_same, hyoung, ?_⟩
      rw [ItX.dropH_upd hit]
      intro D hD
      refine lc_it walk_rangeC (fun i H' => Same H1 H' ∧ H' D = some (.lst (((((List.range (wayOf t a).length).reverse.take i).filter fun k => decide (brd (cf (wayOf t) names) st ((wayOf t a).take k) ≠ (wayOf t a).getD k false))).map fun k => V.str (S ((wayOf t a).take k))))) ?_ ?_ ?_ ?_
      · exact ⟨Same.upd hD, upd_same⟩
      · rintro i H' _ _
        trivial
      · rintro i x H3 H3' hi ⟨s3, e3⟩ ⟨rfl, hx⟩
        have ei : ((wayOf t a).length : Int) - 1 + (i : Nat) * (-1) = (((wayOf t a).length - 1 - i : Nat) : Int) := by omega
        have hk : (wayOf t a).length - 1 - i < (wayOf t a).length := by omega
        have es := take_snoc (rev_at hi)
        generalize hkk : (wayOf t a).length - 1 - i = kk at hk es
        have hx : x = .int (kk : Nat) := by
          rw [hx]
          show V.int (((wayOf t a).length : Int) - 1 + (i : Nat) * (-1)) = _
          rw [ei, hkk]
        subst hx
        have hf : (wayOf t a).take kk ∈ t.forks [] := way_fork t [] a _ (hp.good.way ha) kk (by simp) hk
        refine ⟨rfl, ?_⟩
        have s4 := s1.trans s3
        refine ⟨_, rfl, p, dx, _, rfl, s4 _ _ h1, rfl, _, rfl, _, rfl, _, rfl, _, rfl, _, rfl, sub_len (n := 11) hw, ?_⟩
        rw [S_cut]
        refine ⟨p, q, _, st, t, names, rfl, hp.same s4, s4 _ _ hq, hst, hf, fun H4 s5 => ?_⟩
        refine ⟨_, rfl, log_b01 _, _, rfl, _, rfl, _, _, _, rfl, rfl, sub_len (n := 11) hw, S_at hk, rfl, _, rfl, ?_⟩
        have eb : (decide (V.str (Str.ofString (toString (b01 (brd (cf (wayOf t) names) st ((wayOf t a).take kk))))) = V.str ⟨#[bitc (wayOf t a)[kk]]⟩)) = decide (brd (cf (wayOf t) names) st ((wayOf t a).take kk) = (wayOf t a)[kk]) := by
          rw [str_b01, ← bit_one, dec_str]
          by_cases e : brd (cf (wayOf t) names) st ((wayOf t a).take kk) = (wayOf t a)[kk]
          · simp [e]
          · rw [decide_eq_false e, decide_eq_false fun z => e (by simpa using S_inj z)]
        have eg : (wayOf t a).getD kk false = (wayOf t a)[kk] := by rw [List.getD_eq_getElem?_getD, List.getElem?_eq_getElem hk]; rfl
        by_cases e : brd (cf (wayOf t) names) st ((wayOf t a).take kk) = (wayOf t a)[kk]
        · refine if_f (by rw [decide_eq_true e] at eb; exact congrArg (!·) eb) ⟨s3.trans s5, ?_⟩
          rw [s5 _ _ e3, es, List.filter_append, List.filter_cons_of_neg (by rw [eg, e]; simp)]
          simp
        · refine if_t (by rw [decide_eq_false e] at eb; exact congrArg (!·) eb) ⟨_, rfl, _, rfl, _, rfl, _, rfl, sub_len (n := 11) hw, ?_⟩
          rw [S_cut]
          refine ⟨_, s5 _ _ e3, ?_, (s3.trans s5).at hD, ?_⟩
          · refine sz (m := 11) ?_
            rw [List.length_map]
            refine Nat.le_trans (List.length_filter_le _ _) ?_
            rw [List.length_take, List.length_reverse, List.length_range]
            omega
          · rw [upd_same, es, List.filter_append, List.filter_cons_of_pos (by rw [eg]; simpa using e)]
            simp
      · rintro H3 ⟨s3, e3⟩
        refine k H3 D (s1.trans s3) (s1.free hD) ?_
        rw [e3, List.take_of_length_le (by simp)]
        rfl
    · exact ⟨_, rfl, p, dx, _, rfl, s1 _ _ h1, rfl, _, rfl, p, a, t, names, rfl, hp.same s1, .inr ⟨ha, hn, fun d hd => k _ d (s1.upd' hd) (s1.free hd) upd_same⟩⟩
/-! turns -/
def spTurns (c : Cs) : Sp := fun vs H Q E => ∃ (p q : Addr) (a : Str) (st : List Int) (t : Tr Str) (names : List Str), vs = [.ref p, .ref q, .str a] ∧ PlanAt c.fork H p t names ∧ TupAt H q st ∧ StOk t names st ∧
  OrUnknown c H a names E (∀ H' r, Same H H' → H r = none → RowAt H' r (turnsOf (wayOf t) names st a) → Q (.ref r) H')
abbrev sTurns : Stmt := inClass (topS 33) 12
theorem scTurns : FnScope ["self", "state", "writer", "wrong", "own", "flags", "fork", "index"] ["self", "state", "writer"] (defScope sTurns) := ⟨rfl, rfl, rfl, by decide +kernel, rfl, by decide +kernel, by decide +kernel⟩
theorem ok_turns (T : Txt K mg) (R : ErrTxt P K mg c) (L : PlanTxt P K mg c) : FnM P w K mg base (L2.CX P w) 6 c.fork "turns" (spTurns c) := by
  have G : FnM P w K mg base (L2.CX P w) 5 c.fork "wrong_forks" (spWrong c) := ok_wrong T R L
  have G2 : FnM P w K mg base (L2.CX P w) 5 c.fork "cells_of" (spCellsOf c) := ok_cellsOf T R L
  refine L.mTurns.okX scTurns (fun vs H Q E h => ?_) (fun f cdv A outer s H vs Q E hr h => ?_)
  · obtain ⟨p, q, a, st, t, names, rfl, _⟩ := h
    rfl
  · obtain ⟨p, q, a, st, t, names, rfl, hp, hq, hst, k⟩ := h
    obtain ⟨dx, nl, cl, sl, wd, fd, ld, vt, zw, ps, h1, h2, h3, h4, h5, h6, h7, h8⟩ := hp.ex
    refine ⟨_, pss_cons (ps_set (i := 3) scTurns.nd rfl (.inl rfl) (pmeth G L.cls hr px (pv 0) (pa_cons (pv 1) (pa_cons (pv 2) pa_nil))))
      (pss_cons (ps_set (i := 4) scTurns.nd rfl (.inr rfl) (pmeth G2 L.cls hr px (pv 0) (pa_cons (pv 2) pa_nil)))
      (pss_cons (ps_setLc (i := 5) (own := [("fork", 6)]) (g := gName 6) (tt := tYes) (te := tOp (rIxL K) (tVar 4) (tCB rLnS (tCons (tVar 6) tNil))) rfl scTurns.nd rfl rfl (sw_true rfl rfl rfl (by decide +kernel)) (pi_list (pv 3))
        (blkOk_by (N := ["self", "state", "writer", "wrong", "own", "flags", "fork", "index"]) (sc := defScope sTurns) (by decide +kernel))
        (fun _ _ _ _ _ => pg_name (i := 6) scTurns.nd rfl (.inl rfl)) (fun _ _ _ _ _ => pts_nil)
        (fun _ _ _ _ _ => pe_ix ix_list (pv 4) (pe_callB call_len_str (by rfl) T.b.len (by decide +kernel) (pa_cons (pv 6) pa_nil)) (fun _ _ => rfl)))
      (pss_one (ps_ret (pe_lc (own := [("index", 7)]) (g := gName 7) (tt := tYes) (te := tTup (tCons (tVar 7) (tCons (tOp (rI0 fun i j => .int (i - j)) (tC (.int 1)) (tOp (rIxT K) (tVar 1) (tVar 7))) tNil))) rfl scTurns.nd (pi_list (pv 5))
        (blkOk_by (N := ["self", "state", "writer", "wrong", "own", "flags", "fork", "index"]) (sc := defScope sTurns) (by decide +kernel))
        (fun _ _ _ _ _ => pg_name (i := 7) scTurns.nd rfl (.inl rfl)) (fun _ _ _ _ _ => pts_nil)
        (fun _ _ _ _ _ => pe_tup (pa_cons (pv 7) (pa_cons (pe_op op_sub pe_int (pe_ix ix_tup (pv 1) (pv 7) (fun _ _ => rfl))) pa_nil)))))))), ?_⟩
    refine ⟨_, rfl, p, dx, _, rfl, h1, rfl, _, rfl, _, rfl, p, q, a, st, t, names, rfl, hp, hq, hst, ?_⟩
    rcases k with ⟨ha, k⟩ | ⟨ha, hn, k⟩
    · refine .inl ⟨ha, fun H1 wl s1 hwl ewl => ?_⟩
      refine ⟨_, rfl, p, dx, _, rfl, s1 _ _ h1, rfl, _, rfl, p, a, t, names, rfl, hp.same s1, ha, fun H2 ol s2 hol eol => ?_⟩
      have s12 := s1.trans s2
      have ewl2 := s2 _ _ ewl
      refine ⟨_, rfl, wl, rfl, ⟨_, SqL.of ewl2⟩, fun D hD => ?_⟩
      refine lc_it (walk_list (xs := (wrong (brd (cf (wayOf t) names) st) (wayOf t a)).map fun k => V.str (S ((wayOf t a).take k)))) (fun i H' => Same H2 H' ∧ H' D = some (.lst (((wrong (brd (cf (wayOf t) names) st) (wayOf t a)).take i).map fun k => V.int ((beg (wayOf t) names a + k : Nat))))) ?_ ?_ ?_ ?_
      · exact ⟨Same.upd hD, upd_same⟩
      · rintro i H' _ ⟨s3, _⟩
        exact s3.seq (SqL.of ewl2)
      · rintro i x H3 H3' hi ⟨s3, e3⟩ ⟨rfl, hx⟩
        rw [List.getElem?_map] at hx
        obtain ⟨kk, hk, rfl⟩ := Option.map_eq_some_iff.mp hx
        have hkl := (wrong_mem.mp (List.mem_of_getElem? hk)).1
        have hw := hp.good.wlen ha
        have el : (((S ((wayOf t a).take kk)).length : Nat) : Int) = (kk : Nat) := by rw [S_len, List.length_take]; omega
        have hown : atI ((List.range (wayOf t a).length).map fun l => V.int ((beg (wayOf t) names a + l : Nat))) (kk : Nat) = some (V.int ((beg (wayOf t) names a + kk : Nat))) := atI_nat (by rw [List.getElem?_map, List.getElem?_range hkl]; rfl)
        refine ⟨rfl, _, rfl, _, rfl, _, rfl, sub_len (n := 11) (by rw [List.length_take]; omega), ol, _, _, _, rfl, by rw [el], SqL.of (s3 _ _ eol), hown, _, e3, ?_, s3.at hD, ?_⟩
        · refine sz (m := 11) ?_
          rw [List.length_map, List.length_take]
          have := List.length_filter_le (fun k => decide (brd (cf (wayOf t) names) st ((wayOf t a).take k) ≠ (wayOf t a).getD k false)) (List.range (wayOf t a).length).reverse
          rw [List.length_reverse, List.length_range] at this
          unfold wrong
          omega
        · rw [upd_same, take_snoc hk]
          simp
      · rintro H3 ⟨s3, e3⟩
        rw [List.length_map, List.take_length] at e3
        have s13 := s12.trans s3
        have dD : H D = none := s12.free hD
        refine ⟨_, rfl, D, rfl, ⟨_, SqL.of e3⟩, fun D2 hD2 => ?_⟩
        refine lc_it (walk_list (xs := (wrong (brd (cf (wayOf t) names) st) (wayOf t a)).map fun k => V.int ((beg (wayOf t) names a + k : Nat)))) (fun i H' => Same H3 H' ∧ ∃ ps : List Addr, H' D2 = some (.lst (ps.map V.ref)) ∧ Paired (fun p (x : Nat × Int) => H' p = some (.tup [.int x.1, .int x.2])) ps ((turnsOf (wayOf t) names st a).take i)) ?_ ?_ ?_ ?_
        · exact ⟨Same.upd hD2, [], upd_same, .nil⟩
        · rintro i H' _ ⟨s4, _⟩
          exact s4.seq (SqL.of e3)
        · rintro i x H4 H4' hi ⟨s4, ps2, e4, p4⟩ ⟨rfl, hx⟩
          rw [List.getElem?_map] at hx
          obtain ⟨kk, hk, rfl⟩ := Option.map_eq_some_iff.mp hx
          have hkl := (wrong_mem.mp (List.mem_of_getElem? hk)).1
          have hlt : beg (wayOf t) names a + kk < st.length := by rw [hst.len]; exact beg_lt ha hkl
          have ht : (turnsOf (wayOf t) names st a)[i]? = some (beg (wayOf t) names a + kk, 1 - st.getD (beg (wayOf t) names a + kk) 0) := by
            unfold turnsOf
            rw [List.getElem?_map, hk]
            rfl
          have hw := hp.good.wlen ha
          have pl : ps2.length ≤ 11 := by
            rw [paired_len p4, List.length_take]
            have := List.length_filter_le (fun k => decide (brd (cf (wayOf t) names) st ((wayOf t a).take k) ≠ (wayOf t a).getD k false)) (List.range (wayOf t a).length).reverse
            rw [List.length_reverse, List.length_range] at this
            unfold turnsOf wrong
            rw [List.length_map]
            omega
          refine ⟨rfl, _, rfl, _, rfl, _, rfl, q, _, _, _, rfl, rfl, SqT.of ((s13.trans s4) _ _ hq), atI_nat (getD_at hlt), _, _, rfl, rfl, ?_⟩
          refine ⟨(by show 2 ≤ sizeLine; decide), fun tp htp => ?_⟩
          have n2 : D2 ≠ tp := fun e => by rw [e, htp] at e4; cases e4
          have s5 : Same H4' (upd H4' tp (.tup [.int ((beg (wayOf t) names a + kk : Nat)), .int (1 - st.getD (beg (wayOf t) names a + kk) 0)])) := Same.upd htp
          refine ⟨_, s5 _ _ e4, ?_, (s4.trans s5).at hD2, ps2 ++ [tp], ?_, ?_⟩
          · exact sz (m := 11) (by rw [List.length_map]; exact pl)
          · rw [upd_same]
            simp
          · rw [take_snoc ht]
            refine paired_snoc (paired_imp (fun x y h => ?_) p4) ?_
            · rw [upd_ne (ne_of (s5 _ _ h) (s5 _ _ e4) (fun z => by cases z))]
              exact s5 _ _ h
            · rw [upd_ne n2.symm, upd_same]
        · rintro H4 ⟨s4, ps2, e4, p4⟩
          refine k H4 D2 (s13.trans s4) (s13.free hD2) ⟨ps2, e4, ?_⟩
          have e : (turnsOf (wayOf t) names st a).length = ((wrong (brd (cf (wayOf t) names) st) (wayOf t a)).map fun k => V.int ((beg (wayOf t) names a + k : Nat))).length := by simp [turnsOf]
          rw [← e, List.take_length] at p4
          exact p4
    · refine .inr ⟨ha, hn, k⟩
end
end FK
set_option Elab.async false
set_option linter.all false
set_option maxRecDepth 100000
set_option maxHeartbeats 4000000
set_option pp.maxSteps 400
namespace FK
open PySem PySem.Spec PyProof.Rows L2
theorem forks_le {t : Tr Str} (ok : TreeOk t) : (t.forks []).length ≤ 11 := by
  have := forks_length t []
  have := ok.le
  omega
/-- the dict of forks as it is filled: each with an address of its own -/
structure FDict (H H' : Hp) (fd : Addr) (kv : List (Key × V)) (ad : List Bool → Addr) (fs : List (List Bool)) : Prop where
  at_ : H' fd = some (.dK kv)
  val : ∀ f ∈ fs, valV kv (Sum.inr (S f)) = some (.ref (ad f)) ∧ H (ad f) = none ∧ ad f ≠ fd
  no : ∀ w, w ∉ fs → valV kv (Sum.inr (S w)) = none
  inj : ∀ f ∈ fs, ∀ g ∈ fs, ad f = ad g → f = g
  len : kv.length = fs.length
section
variable {P : Program} {w : World} {K : PySem.W.Frag} {mg : Str → Option Value} {base : Heap} {c : Cs}
def spFlags : Sp := fun vs H Q _ => ∃ (v : V) (wd cl : Addr) (t : Tr Str) (names : List Str) (ps : List Addr), vs = [v, .ref wd, .ref cl] ∧ Good t names ∧ TreeAt H v t ∧ H wd = some (.dK (kvW (t.ways []))) ∧ H cl = some (.lst (ps.map V.ref)) ∧
  Paired (CellAt H) ps (cellsOf (wayOf t) names) ∧ ∀ H' fd, Same H H' → H fd = none → FlagsAt H' fd t (cf (wayOf t) names) → Q (.ref fd) H'
abbrev sFlags : Stmt := topS 32
theorem scFlags : FnScope ["tree", "ways", "cells", "flags", "fork", "index", "writer", "level"] ["tree", "ways", "cells"] (defScope sFlags) := ⟨rfl, rfl, rfl, by decide +kernel, rfl, by decide +kernel, by decide +kernel⟩
theorem ok_flags (T : Txt K mg) : FnB P w K mg base CX0 5 "flags_by_fork" spFlags := by
  have G : FnB P w K mg base CX0 4 "forks_of" spForks := ok_forks T
  refine T.dFlags.ok scFlags (fun vs H Q E h => ?_) (fun f cdv A outer s H vs Q E hr h => ?_)
  · obtain ⟨v, wd, cl, t, names, ps, rfl, _⟩ := h
    rfl
  · obtain ⟨v, wd, cl, t, names, ps, rfl, hg, hv, hwd, hcl, hps, k⟩ := h
    have hu := hu_of hr
    refine ⟨_, pss_cons (ps_set (i := 3) scFlags.nd rfl (.inl rfl) pe_dnewK)
      (pss_cons (ps_for PassesOwn.never rfl (pi_list (pcall G hr pass0 (pa_cons (pv 0) pa_nil))) (pg_name (i := 4) scFlags.nd rfl (.inl rfl))
        (pss_one (ps_dput hu (pv 3) (pv 4) (pe_lst pa_nil) rfl)))
      (pss_cons (ps_for PassesOwn.never rfl (pi_enum (by rfl) T.b.enumerate (pa_cons (pv 2) pa_nil)) (pg_tup (by rfl) (pgs_cons (pg_name (i := 5) scFlags.nd rfl (.inl rfl)) (pgs_cons (pg_tup (by rfl) (pgs_cons (pg_name (i := 6) scFlags.nd rfl (.inl rfl)) (pgs_cons (pg_name (i := 7) scFlags.nd rfl (.inl rfl)) pgs_nil))) pgs_nil)))
        (pss_cons (ps_set (i := 4) scFlags.nd rfl (.inl rfl) (pe_slice sl_str (pe_dget hu (pv 1) (pv 6) (fun _ _ => rfl)) po_none (po_some (pv 7))))
          (pss_one (ps_expr (pe_bm PySem.F.plainAttrs_list PySem.F.slot_list_append PySem.F.type_list_append mt_append (pe_dget hu (pv 3) (pv 4) (fun _ _ => rfl)) (pa_cons (pv 5) pa_nil))))))
      (pss_one (ps_ret (pv 3))))), ?_⟩
    intro fd hfd
    refine ⟨_, rfl, v, t, rfl, TreeAt.same (Same.upd hfd) hv, hg.ok, fun H1 fl s1 hfl efl => ?_⟩
    have s01 : Same H H1 := (Same.upd hfd).trans s1
    have flen := forks_le hg.ok
    have fnd := forks_nodup t []
    refine ⟨fl, rfl, ⟨_, SqL.of efl⟩, for_it (walk_list (xs := (t.forks []).map fun f => V.str (S f)))
      (fun i σ H' => ∃ x1 x2 x3 x4 kv ad, σ = [some v, some (.ref wd), some (.ref cl), some (.ref fd), x1, x2, x3, x4] ∧ Same H H' ∧ H' fl = H1 fl ∧ FDict H H' fd kv ad ((t.forks []).take i) ∧ (∀ f ∈ (t.forks []).take i, H' (ad f) = some (.lst []))) ?_ ?_ ?_ ?_⟩
    · exact ⟨none, none, none, none, [], fun _ => 0, rfl, s01, rfl, ⟨s1 _ _ upd_same, fun f hf => by simp at hf, fun _ _ => rfl, fun f hf => by simp at hf, rfl⟩, fun f hf => by simp at hf⟩
    · rintro i σ H' _ ⟨x1, x2, x3, x4, kv, ad, rfl, s2, e2, fdc, _⟩
      exact SqL.of (e2.trans efl)
    · rintro i x σ H3 H3' hi ⟨x1, x2, x3, x4, kv, ad, rfl, s2, e2, fdc, hem⟩ ⟨rfl, hx⟩
      rw [List.getElem?_map] at hx
      obtain ⟨g, hg2, rfl⟩ := Option.map_eq_some_iff.mp hx
      have es := take_snoc hg2
      have gnot : g ∉ (t.forks []).take i := by
        have nd2 : ((t.forks []).take (i + 1)).Nodup := List.Nodup.sublist (List.take_sublist _ _) fnd
        rw [es, List.nodup_append] at nd2
        intro hm
        exact nd2.2.2 g hm g (by simp) rfl
      refine ⟨(by show 0 ≤ sizeLine; decide), fun l hl => ?_⟩
      have lfd : l ≠ fd := fun e => by rw [e, fdc.at_] at hl; cases hl
      have hl0 : H l = none := s2.free hl
      have lfl : fl ≠ l := fun e => by rw [← e, e2, efl] at hl; cases hl
      have hflfd : fl ≠ fd := fun e => by
        have : H1 fd = some (.dK []) := s1 _ _ upd_same
        rw [e, this] at efl
        cases efl
      refine ⟨_, rfl, _, rfl, fd, _, rfl, DPut.k (k := Sum.inr (S g)) ((upd_ne lfd.symm).trans fdc.at_) ?_, ?_⟩
      · refine sz (m := 11) ?_
        rw [fdc.len, List.length_take]
        omega
      · refine ⟨_, x2, x3, x4, _, fun f => if f = g then l else ad f, rfl, (s2.upd' hl).at hfd, ?_, ⟨upd_same, ?_, ?_, ?_, ?_⟩, ?_⟩
        · rw [upd_ne hflfd, upd_ne lfl]
          exact e2
        · intro f hf
          rw [es] at hf
          rw [valV_put]
          rcases List.mem_append.mp hf with hf | hf
          · have ne : f ≠ g := fun e => gnot (e ▸ hf)
            rw [if_neg (fun e => ne (S_inj (by injection e))), if_neg ne]
            exact fdc.val f hf
          · have e : f = g := by simpa using hf
            subst e
            rw [if_pos rfl, if_pos rfl]
            exact ⟨rfl, hl0, lfd⟩
        · intro w hw
          rw [es] at hw
          have ne : w ≠ g := fun e => hw (by rw [e]; simp)
          rw [valV_put, if_neg (fun e => ne (S_inj (by injection e)))]
          exact fdc.no w fun h => hw (List.mem_append_left _ h)
        · have old : ∀ f ∈ (t.forks []).take i, ad f ≠ l := fun f hf e => by
            have := hem f hf
            rw [e, hl] at this
            cases this
          intro f hf f' hf' e
          rw [es] at hf hf'
          have e : (if f = g then l else ad f) = (if f' = g then l else ad f') := e
          rcases List.mem_append.mp hf with hf | hf <;> rcases List.mem_append.mp hf' with hf' | hf'
          · rw [if_neg (show ¬ f = g from fun z => gnot (z ▸ hf)), if_neg (show ¬ f' = g from fun z => gnot (z ▸ hf'))] at e
            exact fdc.inj f hf f' hf' e
          · have e2 : f' = g := by simpa using hf'
            rw [if_neg (show ¬ f = g from fun z => gnot (z ▸ hf)), if_pos e2] at e
            exact absurd e (old f hf)
          · have e2 : f = g := by simpa using hf
            rw [if_neg (show ¬ f' = g from fun z => gnot (z ▸ hf')), if_pos e2] at e
            exact absurd e.symm (old f' hf')
          · have e2 : f = g := by simpa using hf
            have e3 : f' = g := by simpa using hf'
            rw [e2, e3]
        · rw [putK_new _ (fdc.no g gnot), List.length_append, fdc.len, es, List.length_append]
          rfl
        · intro f hf
          rw [es] at hf
          show upd _ fd _ (if f = g then l else ad f) = _
          rcases List.mem_append.mp hf with hf | hf
          · have ne : f ≠ g := fun e => gnot (e ▸ hf)
            rw [if_neg ne, upd_ne (fdc.val f hf).2.2, upd_ne (fun e => by have := hem f hf; rw [e, hl] at this; cases this)]
            exact hem f hf
          · have e : f = g := by simpa using hf
            rw [if_pos e, upd_ne lfd, upd_same]
    · rintro σ H3 ⟨x1, x2, x3, x4, kv, ad, rfl, s2, e2, fdc, hem⟩
      rw [List.length_map, List.take_length] at fdc hem
      refine ⟨_, rfl, cl, _, rfl, SqL.of (s2 _ _ hcl), for_it (walk_enum (xs := ps.map V.ref)) (fun i σ H' => ∃ x1 x2 x3 x4, σ = [some v, some (.ref wd), some (.ref cl), some (.ref fd), x1, x2, x3, x4] ∧ Same H H' ∧ FDict H H' fd kv ad (t.forks []) ∧
        ∀ f ∈ t.forks [], H' (ad f) = some (.lst ((idxF 0 ((cf (wayOf t) names).take i) f).map fun (i : Nat) => V.int i))) ?_ ?_ ?_ ?_⟩
      · exact ⟨_, _, _, _, rfl, s2, fdc, hem⟩
      · rintro i σ H' _ ⟨y1, y2, y3, y4, rfl, s3, _, _⟩
        exact SqL.of (s3 _ _ hcl)
      · rintro i x σ H4 H4' hi ⟨y1, y2, y3, y4, rfl, s3, fd3, hem3⟩ ⟨Tn, z1, z2, rfl, hT, rfl, hz1, hz2⟩
        have hz1 : z1 = .int (i : Nat) := (Option.some.inj hz1).symm
        subst hz1
        have hz2 : (ps.map V.ref)[i]? = some z2 := hz2
        rw [List.getElem?_map] at hz2
        obtain ⟨q, hq, rfl⟩ := Option.map_eq_some_iff.mp hz2
        obtain ⟨⟨a, l⟩, hc, hq2⟩ := paired_get hps hq
        have hcinv := cells_inv hg.nd hc
        obtain ⟨ha, hl, hil⟩ := hcinv
        have hw := hg.wlen ha
        have s4 : Same H4 (upd H4 Tn (.tup [.int (i : Nat), .ref q])) := Same.upd hT
        have hcf : (cf (wayOf t) names)[i]? = some ((wayOf t a).take l) := by
          unfold cf
          rw [List.getElem?_map, hc]
          rfl
        have hf0 : (wayOf t a).take l ∈ t.forks [] := way_fork t [] a _ (hg.way ha) l (by simp) hl
        obtain ⟨v0, n0, f0⟩ := fd3.val _ hf0
        refine ⟨Tn, _, rfl, SqT.of upd_same, rfl, _, _, rfl, _, _, rfl, ⟨q, _, rfl, SqT.of (s4 _ _ (s3 _ _ hq2)), rfl, _, _, rfl, _, _, rfl, rfl, rfl, ?_⟩⟩
        refine ⟨_, rfl, _, rfl, wd, _, rfl, by rw [← val_way hg.ok.nd (hg.mem.mp ha)]; exact DGet.k (k := Sum.inr a) (s4 _ _ (s3 _ _ hwd)), _, rfl, _, rfl, _, rfl, sub_len (n := 11) hw, ?_⟩
        rw [S_cut]
        refine ⟨_, rfl, _, rfl, fd, .ref (ad ((wayOf t a).take l)), rfl, by rw [← v0]; exact DGet.k (k := Sum.inr (S ((wayOf t a).take l))) (s4 _ _ fd3.at_), .inl ⟨rfl, _, SqL.of (s4 _ _ (hem3 _ hf0))⟩, _, rfl, _, _, _, rfl, rfl, s4 _ _ (hem3 _ hf0), ?_, ?_⟩
        · refine sz (m := 132) ?_
          rw [List.length_map]
          have i1 := idx_length ((wayOf t a).take l) ((cf (wayOf t) names).take i) 0
          have i2 := hg.cells_le
          rw [List.length_take, cf_length] at i1
          omega
        · refine ⟨_, _, _, _, rfl, (s3.trans s4).at n0, ⟨?_, fd3.val, fd3.no, fd3.inj, fd3.len⟩, ?_⟩
          · rw [upd_ne f0.symm]
            exact s4 _ _ fd3.at_
          · intro f hf
            rw [take_snoc hcf, idx_snoc, List.length_take_of_le, Nat.zero_add]
            by_cases e : (wayOf t a).take l = f
            · subst e
              rw [upd_same, if_pos rfl, List.map_append]
              rfl
            · rw [upd_ne (fun z => e (fd3.inj _ hf0 _ hf z.symm)), if_neg e, List.append_nil]
              exact s4 _ _ (hem3 f hf)
            · have := (List.getElem?_eq_some_iff.mp hcf).1
              omega
      · rintro σ H4 ⟨y1, y2, y3, y4, rfl, s3, fd3, hem3⟩
        refine ⟨_, rfl, k H4 fd s3 hfd ⟨kv, fd3.at_, fun f hf => ⟨ad f, (fd3.val f hf).1, ?_⟩, fd3.no⟩⟩
        have := hem3 f hf
        rw [List.length_map, paired_len hps, ← cf_length, List.take_length] at this
        exact this
end
end FK
set_option Elab.async false
set_option linter.all false
set_option maxRecDepth 100000
set_option maxHeartbeats 4000000
set_option pp.maxSteps 400
namespace FK
open PySem PySem.Spec PyProof.Rows L2
/-- a walk told by its turn -/
theorem walk_gen {J : It} {n : Nat} {G : Hp → Prop} {Y : Nat → Hp → V → Hp → Prop} (w : Walk J n G Y) {step : (Hp → Prop) → V → Hp → Prop} {H0 : Hp} {Qd : Hp → Prop} (Pv : Nat → Hp → Prop) (h0 : Pv 0 H0) (hG : ∀ i H, i ≤ n → Pv i H → G H)
    (hs : ∀ i x H H', i < n → Pv i H → Y i H x H' → step (Pv (i + 1)) x H') (hd : ∀ H, Pv n H → Qd H) :
    ∃ W : Nat → Nat → Hp → Prop, (∃ m, W 0 m H0) ∧ ∀ i m H, W i m H → (J.stop i H ∧ Qd H) ∨ (J.go i H ∧ ∃ Nx : Hp → Prop, (∀ H', Nx H' → ∃ m', m' < m ∧ W (i + 1) m' H') ∧ ∀ x H', J.yld i H x H' → step Nx x H') := by
  refine ⟨fun i m H => m + i = n ∧ Pv i H, ⟨n, rfl, h0⟩, ?_⟩
  rintro i m H ⟨hm, pv⟩
  have hi : i ≤ n := by omega
  cases m with
  | zero =>
    have e : i = n := by omega
    subst e
    exact .inl ⟨w.stops H (hG _ H hi pv), hd H pv⟩
  | succ m =>
    have hlt : i < n := by omega
    exact .inr ⟨w.goes i H hlt (hG i H hi pv), Pv (i + 1), fun H' p' => ⟨m, Nat.lt_succ_self m, by omega, p'⟩, fun x H' y => hs i x H H' hlt pv (w.yields i H x H' hlt (hG i H hi pv) y)⟩
theorem putF_new {f : Str} {v : V} : ∀ {fs : List (Str × V)}, (fs.map (·.1)).contains f = false → putF f v fs = fs ++ [(f, v)]
  | [], _ => rfl
  | (g, x) :: r, h => by
    rw [List.map_cons, List.contains_cons, Bool.or_eq_false_iff] at h
    have ne : g ≠ f := fun e => by
      have := h.1
      simp [e] at this
    show (if g = f then (g, v) :: r else (g, x) :: putF f v r) = _
    rw [if_neg ne, putF_new h.2]
    rfl
structure InitTxt (P : Program) (K : PySem.W.Frag) (mg : Str → Option Value) (c : Cs) : Prop where
  sup : SupDef P K mg c.fork c.fork "ForkPlan.__init__" (inClass (topS 33) 0) ["self", "tree"] []
  mro : PySem.W.mroIn K c.fork (.ref c.fork) = some true
  any : PySem.W.nsIn K PySem.cStatics "thirdparty.any" = some none
  pin : ∃ (f2 : Addr) (fd2 : FuncData) (cdC : ClassData), PySem.W.clsIn K c.fork = some cdC ∧ PySem.W.alongIn K "__init__" ((cdC.mro.dropWhile (· != .ref c.fork)).drop 1) = some (some (.ref f2)) ∧ PySem.W.typeIn K (.ref f2) = some (.type "function") ∧ PySem.W.fnIn K f2 = true ∧
    Fun K "__init__" "Plan.__init__" (inClass (topS 30) 0) f2 fd2 ∧ Binds K fd2 ["self", "names", "cells", "sizes"] []
  makes : PySem.W.makesIn K c.fork = true
  kpC : PySem.W.keepIn K (.ref c.fork) = true
section
variable {P : Program} {w : World} {K : PySem.W.Frag} {mg : Str → Option Value} {base : Heap} {c : Cs}
/-! Plan.__init__ -/
def spPlanInit (C : Addr) : Sp := fun vs H Q _ => ∃ (p n cl s dx : Addr) (xs ys zs : List V), vs = [.ref p, .ref n, .ref cl, .ref s] ∧ H p = some (.ins C dx []) ∧ H n = some (.lst xs) ∧ H cl = some (.lst ys) ∧ H s = some (.lst zs) ∧
  ∀ H' n2 c2 s2, (∀ b o, H b = some o → b ≠ p → H' b = some o) → H n2 = none → H c2 = none → H s2 = none → H' p = some (.ins C dx [("names", .ref n2), ("cells", .ref c2), ("sizes", .ref s2)]) → H' n2 = some (.lst xs) → H' c2 = some (.lst ys) → H' s2 = some (.lst zs) → Q .non H'
abbrev sPlanInit : Stmt := inClass (topS 30) 0
theorem scPlanInit : FnScope ["self", "names", "cells", "sizes"] ["self", "names", "cells", "sizes"] (defScope sPlanInit) := ⟨rfl, rfl, rfl, by decide +kernel, rfl, by decide +kernel, by decide +kernel⟩
theorem ok_planInit (T : Txt K mg) (L : PlanTxt P K mg c) {f2 : Addr} {fd2 : FuncData} (D : Fun K "__init__" "Plan.__init__" sPlanInit f2 fd2) : FnOk P w K mg base CX0 1 f2 fd2 ["self", "names", "cells", "sizes"] (spPlanInit c.fork) := by
  refine D.ok scPlanInit (fun vs H Q E h => ?_) (fun cdv A outer s0 H vs Q E hr h => ?_)
  · obtain ⟨p, n, cl, s, dx, xs, ys, zs, rfl, _⟩ := h
    rfl
  · obtain ⟨p, n, cl, s, dx, xs, ys, zs, rfl, hp, hn, hc, hs, k⟩ := h
    refine ⟨_, pss_cons (ps_fld (pv 0) (pe_callTy call_list_of (by rfl) T.b.list (by decide +kernel) (pa_cons (pv 1) pa_nil)) rfl)
      (pss_cons (ps_fld (pv 0) (pe_callTy call_list_of (by rfl) T.b.list (by decide +kernel) (pa_cons (pv 2) pa_nil)) rfl)
      (pss_one (ps_fld (pv 0) (pe_callTy call_list_of (by rfl) T.b.list (by decide +kernel) (pa_cons (pv 3) pa_nil)) rfl))), ?_⟩
    refine ⟨_, rfl, n, _, rfl, .inl (SqL.of hn), fun n2 hn2 => ?_⟩
    have pn : p ≠ n2 := ne_of_none hp hn2
    refine ⟨_, rfl, p, c.fork, dx, _, rfl, (upd_ne pn).trans hp, L.cls, L.nNames, by show 0 < 1000; decide, ?_⟩
    -- the heap with the first field
    have keep1 : ∀ b o, H b = some o → b ≠ p → (upd (upd H n2 (.lst xs)) p (.ins c.fork dx (putF "names" (.ref n2) []))) b = some o := fun b o e ne => by rw [upd_ne ne, upd_ne (ne_of_none e hn2)]; exact e
    have e1 : (upd (upd H n2 (.lst xs)) p (.ins c.fork dx (putF "names" (.ref n2) []))) p = some (.ins c.fork dx [("names", .ref n2)]) := upd_same
    have f1 : (upd (upd H n2 (.lst xs)) p (.ins c.fork dx (putF "names" (.ref n2) []))) n2 = some (.lst xs) := by rw [upd_ne pn.symm, upd_same]
    have free1 : ∀ b, (upd (upd H n2 (.lst xs)) p (.ins c.fork dx (putF "names" (.ref n2) []))) b = none → H b = none ∧ b ≠ p ∧ b ≠ n2 := fun b e => by
      have h1 : b ≠ p := fun z => by rw [z, e1] at e; cases e
      have h2 : b ≠ n2 := fun z => by rw [z, f1] at e; cases e
      rw [upd_ne h1, upd_ne h2] at e
      exact ⟨e, h1, h2⟩
    generalize upd (upd H n2 (.lst xs)) p (.ins c.fork dx (putF "names" (.ref n2) [])) = H1 at keep1 e1 f1 free1 ⊢
    have cp : cl ≠ p := fun e => by rw [e, hp] at hc; cases hc
    have sp : s ≠ p := fun e => by rw [e, hp] at hs; cases hs
    refine ⟨_, rfl, cl, _, rfl, .inl (SqL.of (keep1 _ _ hc cp)), fun c2 hc2 => ?_⟩
    obtain ⟨g1, g2, g3⟩ := free1 _ hc2
    refine ⟨_, rfl, p, c.fork, dx, _, rfl, (upd_ne g2.symm).trans e1, L.cls, L.nCells, by show 1 < 1000; decide, ?_⟩
    have ep : putF "cells" (V.ref c2) ([("names", V.ref n2)] : List (Str × V)) = ([("names", V.ref n2), ("cells", V.ref c2)] : List (Str × V)) := putF_new (by show (["names"] : List Str).contains "cells" = false; decide +kernel)
    rw [ep]
    have keep2 : ∀ b o, H b = some o → b ≠ p → (upd (upd H1 c2 (.lst ys)) p (.ins c.fork dx [("names", V.ref n2), ("cells", V.ref c2)])) b = some o := fun b o e ne => by rw [upd_ne ne, upd_ne (ne_of_none e g1)]; exact keep1 b o e ne
    have e2 : (upd (upd H1 c2 (.lst ys)) p (.ins c.fork dx [("names", V.ref n2), ("cells", V.ref c2)])) p = some (.ins c.fork dx [("names", V.ref n2), ("cells", V.ref c2)]) := upd_same
    have f2 : (upd (upd H1 c2 (.lst ys)) p (.ins c.fork dx [("names", V.ref n2), ("cells", V.ref c2)])) n2 = some (.lst xs) := by rw [upd_ne pn.symm, upd_ne g3.symm]; exact f1
    have f3 : (upd (upd H1 c2 (.lst ys)) p (.ins c.fork dx [("names", V.ref n2), ("cells", V.ref c2)])) c2 = some (.lst ys) := by rw [upd_ne g2, upd_same]
    have free2 : ∀ b, (upd (upd H1 c2 (.lst ys)) p (.ins c.fork dx [("names", V.ref n2), ("cells", V.ref c2)])) b = none → H b = none ∧ b ≠ p ∧ b ≠ n2 ∧ b ≠ c2 := fun b e => by
      have h1 : b ≠ p := fun z => by rw [z, e2] at e; cases e
      have h2 : b ≠ c2 := fun z => by rw [z, f3] at e; cases e
      rw [upd_ne h1, upd_ne h2] at e
      exact ⟨(free1 b e).1, h1, (free1 b e).2.2, h2⟩
    generalize upd (upd H1 c2 (.lst ys)) p (.ins c.fork dx [("names", V.ref n2), ("cells", V.ref c2)]) = H2 at keep2 e2 f2 f3 free2 ⊢
    refine ⟨_, rfl, s, _, rfl, .inl (SqL.of (keep2 _ _ hs sp)), fun s2 hs2 => ?_⟩
    obtain ⟨i1, i2, i3, i4⟩ := free2 _ hs2
    refine ⟨_, rfl, p, c.fork, dx, _, rfl, (upd_ne i2.symm).trans e2, L.cls, L.nSizes, by show 2 < 1000; decide, ?_⟩
    have eq : putF "sizes" (V.ref s2) ([("names", V.ref n2), ("cells", V.ref c2)] : List (Str × V)) = ([("names", V.ref n2), ("cells", V.ref c2), ("sizes", V.ref s2)] : List (Str × V)) := putF_new (by show (["names", "cells"] : List Str).contains "sizes" = false; decide +kernel)
    rw [eq]
    refine k _ n2 c2 s2 (fun b o e ne => ?_) hn2 g1 i1 upd_same ?_ ?_ ?_
    · rw [upd_ne ne, upd_ne (ne_of_none e i1)]; exact keep2 b o e ne
    · rw [upd_ne pn.symm, upd_ne i3.symm]; exact f2
    · rw [upd_ne g2, upd_ne i4.symm]; exact f3
    · rw [upd_ne i2, upd_same]
end
end FK
set_option Elab.async false
set_option linter.all false
set_option maxRecDepth 100000
set_option maxHeartbeats 4000000
set_option pp.maxSteps 400
namespace FK
open PySem PySem.Spec PyProof.Rows L2
theorem cells_snoc (W : Str → List Bool) (l : List Str) (a : Str) : cellsOf W (l ++ [a]) = cellsOf W l ++ (List.range (W a).length).map fun k => (a, k) := by
  simp [cellsOf]
theorem cells_len (W : Str → List Bool) : ∀ l : List Str, (∀ a ∈ l, (W a).length ≤ 11) → (cellsOf W l).length ≤ 11 * l.length
  | [], _ => by simp [cellsOf]
  | a :: r, h => by
    have h1 := h a (by simp)
    have h2 := cells_len W r fun b hb => h b (List.mem_cons_of_mem _ hb)
    rw [cells_cons, List.length_append, List.length_map, List.length_range, List.length_cons]
    omega
theorem same_back {H H' : Hp} {d : Addr} {u w : HO} (hd : H d = some u) (s : Same (upd H d w) H') : Same H (upd H' d u) := fun b o e => by
  by_cases h : b = d
  · rw [h] at e ⊢
    rw [upd_same, ← hd]
    exact e
  · rw [upd_ne h]
    exact s b o (by rw [upd_ne h]; exact e)
def fs3 (n c z : Addr) : List (Str × V) := [("names", .ref n), ("cells", .ref c), ("sizes", .ref z)]
def fs5 (n c z : Addr) (v : V) (wd : Addr) : List (Str × V) := [("names", .ref n), ("cells", .ref c), ("sizes", .ref z), ("tree", v), ("ways", .ref wd)]
def fs6 (n c z : Addr) (v : V) (wd fd : Addr) : List (Str × V) := [("names", .ref n), ("cells", .ref c), ("sizes", .ref z), ("tree", v), ("ways", .ref wd), ("_flags", .ref fd)]
def fs7 (n c z : Addr) (v : V) (wd fd ld : Addr) : List (Str × V) := [("names", .ref n), ("cells", .ref c), ("sizes", .ref z), ("tree", v), ("ways", .ref wd), ("_flags", .ref fd), ("_leaves", .ref ld)]
theorem put5 (n c z : Addr) (v : V) (wd : Addr) : putF "ways" (.ref wd) (putF "tree" v (fs3 n c z)) = fs5 n c z v wd := by
  rw [putF_new (fs := fs3 n c z) (by show (["names", "cells", "sizes"] : List Str).contains "tree" = false; decide +kernel), putF_new (by show (["names", "cells", "sizes", "tree"] : List Str).contains "ways" = false; decide +kernel)]
  rfl
theorem put6 (n c z : Addr) (v : V) (wd fd : Addr) : putF "_flags" (.ref fd) (fs5 n c z v wd) = fs6 n c z v wd fd := by
  rw [putF_new (by show (["names", "cells", "sizes", "tree", "ways"] : List Str).contains "_flags" = false; decide +kernel)]
  rfl
theorem put7 (n c z : Addr) (v : V) (wd fd ld : Addr) : putF "_leaves" (.ref ld) (fs6 n c z v wd fd) = fs7 n c z v wd fd ld := by
  rw [putF_new (by show (["names", "cells", "sizes", "tree", "ways", "_flags"] : List Str).contains "_leaves" = false; decide +kernel)]
  rfl
theorem put8 (n c z : Addr) (v : V) (wd fd ld : Addr) (s : Str) : putF "_written" (.str s) (fs7 n c z v wd fd ld) = fldsOf n c z v wd fd ld s := by
  rw [putF_new (by show (["names", "cells", "sizes", "tree", "ways", "_flags", "_leaves"] : List Str).contains "_written" = false; decide +kernel)]
  rfl
theorem drop_at {H : Hp} {p b : Addr} {o : HO} (h : H b = some o) (ne : b ≠ p) : ItX.dropH H p b = some o := by rw [ItX.dropH_ne ne]; exact h
theorem drop_of {H : Hp} {p b C dx : Addr} {fs : List (Str × V)} {o : HO} (hp : H p = some (.ins C dx fs)) (h : H b = some o) (n : o ≠ .ins C dx fs) : ItX.dropH H p b = some o := drop_at h fun e => by
  rw [e, hp] at h
  exact n (Option.some.inj h).symm
theorem drop_same {R H : Hp} {p : Addr} (s : Same R H) (n : R p = none) : Same R (ItX.dropH H p) := fun b o e => drop_at (s b o e) (ne_of_none e n)
theorem drop_upd {H : Hp} {p : Addr} {o : HO} : Same (ItX.dropH H p) (upd H p o) := fun b u e => by
  by_cases h : b = p
  · rw [h, ItX.dropH_same] at e
    cases e
  · rw [ItX.dropH_ne h] at e
    rw [upd_ne h]
    exact e
theorem TreeAt.drop {H : Hp} {p C dx : Addr} {fs : List (Str × V)} (hp : H p = some (.ins C dx fs)) : ∀ {t : Tr Str} {v : V}, TreeAt H v t → TreeAt (ItX.dropH H p) v t
  | .leaf s, v, h => h
  | .node l r, v, h => by
    obtain ⟨q, vl, vr, h1, h2, h3, h4⟩ := h
    exact ⟨q, vl, vr, h1, drop_of hp h2 (fun z => by cases z), TreeAt.drop hp h3, TreeAt.drop hp h4⟩
theorem FlagsAt.drop {H : Hp} {p C dx fd : Addr} {fs : List (Str × V)} {t : Tr Str} {cs : List (List Bool)} (hp : H p = some (.ins C dx fs)) (f : FlagsAt H fd t cs) : FlagsAt (ItX.dropH H p) fd t cs := by
  obtain ⟨kv, h1, h2, h3⟩ := f.ex
  refine ⟨kv, drop_of hp h1 (fun z => by cases z), fun g hg => ?_, h3⟩
  obtain ⟨a, e1, e2⟩ := h2 g hg
  exact ⟨a, e1, drop_of hp e2 (fun z => by cases z)⟩
theorem LeavesAt.drop {H : Hp} {p C dx ld : Addr} {fs : List (Str × V)} {t : Tr Str} (hp : H p = some (.ins C dx fs)) (f : LeavesAt H ld t) : LeavesAt (ItX.dropH H p) ld t := by
  obtain ⟨kv, h1, h2, h3⟩ := f.ex
  exact ⟨kv, drop_of hp h1 (fun z => by cases z), h2, h3⟩
section
variable {P : Program} {w : World} {K : PySem.W.Frag} {mg : Str → Option Value} {base : Heap} {c : Cs}
def spInit (c : Cs) : Sp := fun vs H Q _ => ∃ (p dx : Addr) (v : V) (t : Tr Str), vs = [.ref p, v] ∧ H p = some (.ins c.fork dx []) ∧ TreeAt H v t ∧ TreeOk t ∧
  ∀ H' names, PlanAt c.fork H' p t names → (∀ b o, H b = some o → b ≠ p → H' b = some o) → Q .non H'
abbrev sInit : Stmt := inClass (topS 33) 0
abbrev nInit : List Str := ["self", "tree", "ways", "names", "cells", "writer", "level", "way"]
theorem scInit : SScope nInit ["self", "tree"] (defScope sInit) := ⟨rfl, rfl, rfl, by decide +kernel, rfl, by decide +kernel, by decide +kernel, by decide +kernel, by decide +kernel⟩
theorem ok_init (T : Txt K mg) (L : PlanTxt P K mg c) (I : InitTxt P K mg c) : FnI P w K mg base CX0 15 c.fork [] (spInit c) := by
  have G1 : FnB P w K mg base CX0 4 "ways_of" spWays := ok_ways T
  have G2 : FnB P w K mg base CX0 5 "flags_by_fork" spFlags := ok_flags T
  have G3 : FnB P w K mg base CX0 14 "format_tree" spFormat := ok_format T
  obtain ⟨f2, fd2, cdC, hcC, hal, hty, hfn, D2, hb2⟩ := I.pin
  have F2 : FnOk P w K mg base CX0 1 f2 fd2 ["self", "names", "cells", "sizes"] (spPlanInit c.fork) := ok_planInit T L D2
  refine I.sup.ok scInit (fun vs H Q E h => ?_) (fun f cc fd cdv A outer s H vs Q E SC hr h => ?_)
  · obtain ⟨p, dx, v, t, rfl, _⟩ := h
    rfl
  · obtain ⟨p, dx, v, t, rfl, hp, hv, hok, k⟩ := h
    have hu := hu_of hr
    refine ⟨_, psa_cons (ps_set (i := 2) scInit.nd rfl (.inr rfl) (pcall G1 (hr.mono (by decide)) pass0 (pa_cons (pv 1) pa_nil)))
      (psa_cons (ps_set (i := 3) scInit.nd rfl (.inl rfl) (pe_callB (call_sortedD rfl) (by rfl) T.b.sorted (by decide +kernel) (pa_cons (pv 2) pa_nil)))
      (psa_cons (ps_setLc2 (i := 4) (own := [("writer", 5), ("level", 6)]) (vs1 := [6]) (g := gName 5) (tt := tYes) (g1 := gName 6) (tt1 := tYes) rfl scInit.nd rfl rfl (sw_true rfl rfl rfl (by decide +kernel)) (pi_list (pv 3))
        (blkOk_by (N := nInit) (sc := defScope sInit) (by decide +kernel)) (by decide)
        (fun _ _ _ _ _ => pg_name (i := 5) scInit.nd rfl (.inl rfl)) (fun _ _ _ _ _ => pts_nil)
        (fun _ _ _ _ _ => pi_range1 (by rfl) T.b.range (pa_cons (pe_callB call_len_str (by rfl) T.b.len (by decide +kernel) (pa_cons (pe_dget hu (pv 2) (pv 5) (fun _ _ => rfl)) pa_nil)) pa_nil))
        (fun _ _ _ _ _ => pg_name (i := 6) scInit.nd rfl (.inl rfl)) (fun _ _ _ _ _ => pts_nil) (fun _ _ _ _ _ => pe_tup (pa_cons (pv 5) (pa_cons (pv 6) pa_nil))))
      (psa_consA (psa_super scInit SC rfl I.mro I.any hcC hal hty hfn F2 hb2 (hr.mono (by decide)) pass0 (pa_cons (pv 3) (pa_cons (pv 4) (pa_cons (pe_op op_rep (pe_lst (pa_cons pe_int pa_nil)) (pe_callB call_len_seq (by rfl) T.b.len (by decide +kernel) (pa_cons (pv 4) pa_nil))) pa_nil))))
      (psa_of (pss_cons (ps_fld (pv 0) (pv 1) rfl)
      (pss_cons (ps_fld (pv 0) (pv 2) rfl)
      (pss_cons (ps_fld (pv 0) (pcall G2 (hr.mono (by decide)) pass0 (pa_cons (pv 1) (pa_cons (pv 2) (pa_cons (pv 4) pa_nil)))) rfl)
      (pss_cons (ps_fld (pv 0) (pe_lock (pe_dc (own := [("writer", 5), ("way", 7)]) (g := gTup K 2 (gCons (gName 5) (gCons (gName 7) gNil))) (tt := tYes) rfl scInit.nd (pi_items (pv 2))
        (blkOk_by (N := nInit) (sc := defScope sInit) (by decide +kernel))
        (fun _ _ _ _ _ => pg_tup (by rfl) (pgs_cons (pg_name (i := 5) scInit.nd rfl (.inl rfl)) (pgs_cons (pg_name (i := 7) scInit.nd rfl (.inl rfl)) pgs_nil)))
        (fun _ _ _ _ _ => pts_nil) (fun _ _ _ _ _ => pv 7) (fun _ _ _ _ _ => pv 5))) rfl)
      (pss_one (ps_fld (pv 0) (pcall G3 hr pass0 (pa_cons (pv 1) pa_nil)) rfl)))))))))), ?_⟩
    refine ⟨_, rfl, v, t, rfl, hv, hok, fun H1 wd s1 hwd ewd => ?_⟩
    have hlen12 : (t.leaves).length ≤ 12 := hok.le
    refine ⟨_, rfl, wd, _, t.leaves, rfl, .of ewd, by rw [kvW_keys, ways_fst], by omega, fun ys nl0 hperm hsrt hnl0 => ?_⟩
    have hg : Good t ys := ⟨hok, hperm, hsrt⟩
    have s2 : Same H (upd H1 nl0 (.lst (ys.map V.str))) := s1.upd' hnl0
    have ewd2 : (upd H1 nl0 (.lst (ys.map V.str))) wd = some (.dK (kvW (t.ways []))) := (upd_ne (ne_of_none ewd hnl0)).trans ewd
    have enl : (upd H1 nl0 (.lst (ys.map V.str))) nl0 = some (.lst (ys.map V.str)) := upd_same
    have nnl : H nl0 = none := s1.free hnl0
    generalize upd H1 nl0 (.lst (ys.map V.str)) = H2 at s2 ewd2 enl ⊢
    refine ⟨_, rfl, nl0, rfl, ⟨_, SqL.of enl⟩, fun D hD => ?_⟩
    have nD : H D = none := s2.free hD
    refine walk_gen (walk_list (xs := ys.map V.str)) (fun i H' => Same H2 H' ∧ ∃ ps : List Addr, H' D = some (.lst (ps.map V.ref)) ∧ Paired (CellAt H') ps (cellsOf (wayOf t) (ys.take i))) ?_ ?_ ?_ ?_
    · exact ⟨Same.upd hD, [], upd_same, .nil⟩
    · rintro i H' _ ⟨s3, _⟩
      exact s3.seq (SqL.of enl)
    · rintro i x H3 H3' hi ⟨s3, ps, e3, p3⟩ ⟨rfl, hx⟩
      rw [List.getElem?_map] at hx
      obtain ⟨a, ha, rfl⟩ := Option.map_eq_some_iff.mp hx
      have ham : a ∈ ys := List.mem_of_getElem? ha
      have hw := hg.wlen ham
      have es := take_snoc ha
      refine ⟨rfl, _, rfl, _, rfl, wd, _, rfl, by rw [← val_way hok.nd (hg.mem.mp ham)]; exact DGet.k (k := Sum.inr a) (s3 _ _ ewd2), _, rfl, sub_len (n := 11) hw, (wayOf t a).length, by rw [S_len], by omega, by omega, ?_⟩
      refine walk_gen walk_range (fun j H' => Same H2 H' ∧ ∃ ps : List Addr, H' D = some (.lst (ps.map V.ref)) ∧ Paired (CellAt H') ps (cellsOf (wayOf t) (ys.take i) ++ (List.range j).map fun l => (a, l))) ?_ ?_ ?_ ?_
      · exact ⟨s3, ps, e3, by simpa using p3⟩
      · intros
        trivial
      · rintro j x H4 H4' hj ⟨s4, ps4, e4, p4⟩ ⟨rfl, hx⟩
        have hx : x = .int (j : Nat) := by rw [hx]; show V.int (0 + _) = _; rw [Int.zero_add]
        subst hx
        refine ⟨rfl, _, rfl, _, rfl, (by show 2 ≤ sizeLine; decide), fun tp htp => ?_⟩
        have s5 : Same H4' (upd H4' tp (.tup [.str a, .int (j : Nat)])) := Same.upd htp
        have nt : D ≠ tp := fun e => by rw [e, htp] at e4; cases e4
        refine ⟨_, s5 _ _ e4, ?_, (s4.trans s5).at hD, ps4 ++ [tp], by rw [upd_same]; simp, ?_⟩
        · refine sz (m := 200) ?_
          rw [List.length_map, paired_len p4, List.length_append, List.length_map, List.length_range]
          have h1 := cells_len (wayOf t) (ys.take i) fun b hb => hg.wlen (List.mem_of_mem_take hb)
          rw [List.length_take] at h1
          have := hg.len
          have hj : j < (wayOf t a).length := by simpa using hj
          omega
        · rw [List.range_succ, List.map_append, ← List.append_assoc]
          refine paired_snoc (paired_imp (fun x y h => ?_) p4) ?_
          · show upd _ D _ x = _
            rw [upd_ne (ne_of (s5 _ _ h) (s5 _ _ e4) (fun z => by cases z))]
            exact s5 _ _ h
          · show upd _ D _ tp = _
            rw [upd_ne nt.symm, upd_same]
      · rintro H4 ⟨s4, ps4, e4, p4⟩
        refine ⟨s4, ps4, e4, ?_⟩
        rw [es, cells_snoc]
        simpa using p4
    · rintro H3 ⟨s3, ps, e3, p3⟩
      rw [List.length_map, List.take_length] at p3
      have s13 := s2.trans s3
      -- super().__init__(names, cells, [2] * len(cells))
      have hp3 := s13 _ _ hp
      refine ⟨p, dx, _, rfl, hp3, _, rfl, _, rfl, (by show 1 ≤ sizeLine; decide), fun l2 hl2 => ?_⟩
      refine ⟨_, rfl, D, _, rfl, .inl (SqL.of ((Same.upd hl2) _ _ e3)), l2, _, _, rfl, rfl, upd_same, by omega, ?_, ?_, fun l3 hl3 => ?_⟩
      · rw [List.length_map, paired_len p3]
        have := hg.cells_le
        omega
      · rw [List.length_map, paired_len p3]
        have := hg.cells_le
        refine sz' (m := 132) ?_
        simp
        omega
      · have elst : (List.replicate (((ps.map V.ref).length : Nat) : Int).toNat [V.int 2]).flatten = List.replicate (cellsOf (wayOf t) ys).length (V.int 2) := by
          rw [List.length_map, paired_len p3, Int.toNat_natCast]
          generalize (cellsOf (wayOf t) ys).length = m
          induction m with
          | zero => rfl
          | succ m ih => rw [List.replicate_succ, List.flatten_cons, ih, List.replicate_succ]; rfl
        rw [elst]
        have s4 : Same H3 (upd (upd H3 l2 (.lst [.int 2])) l3 (.lst (List.replicate (cellsOf (wayOf t) ys).length (V.int 2)))) := (Same.upd hl2).upd' hl3
        have el3 : (upd (upd H3 l2 (.lst [.int 2])) l3 (.lst (List.replicate (cellsOf (wayOf t) ys).length (V.int 2)))) l3 = some (.lst (List.replicate (cellsOf (wayOf t) ys).length (V.int 2))) := upd_same
        generalize upd (upd H3 l2 (.lst [.int 2])) l3 (.lst (List.replicate (cellsOf (wayOf t) ys).length (V.int 2))) = H4 at s4 el3 ⊢
        refine ⟨p, nl0, D, l3, dx, _, _, _, rfl, s4 _ _ hp3, s4 _ _ (s3 _ _ enl), s4 _ _ e3, el3, fun H5 n5 c5 z5 k5 fn5 fc5 fz5 e5 en5 ec5 ez5 => ?_⟩
        have h4p : H4 p = some (.ins c.fork dx []) := s4 _ _ hp3
        have s04 : Same H H4 := s13.trans s4
        have R5 : Same (ItX.dropH H4 p) H5 := fun b o e => by
          have ne : b ≠ p := fun z => by rw [z, ItX.dropH_same] at e; cases e
          rw [ItX.dropH_ne ne] at e
          exact k5 b o e ne
        have r4p : ItX.dropH H4 p p = none := ItX.dropH_same
        have n5p : n5 ≠ p := fun e => by rw [e, h4p] at fn5; cases fn5
        have c5p : c5 ≠ p := fun e => by rw [e, h4p] at fc5; cases fc5
        have z5p : z5 ≠ p := fun e => by rw [e, h4p] at fz5; cases fz5
        -- the facts that stay, over H4 without p
        have a_wd : ItX.dropH H4 p wd = some (.dK (kvW (t.ways []))) := drop_of h4p (s4 _ _ (s3 _ _ ewd2)) (fun z => by cases z)
        have a_D : ItX.dropH H4 p D = some (.lst (ps.map V.ref)) := drop_of h4p (s4 _ _ e3) (fun z => by cases z)
        have a_ps : Paired (CellAt (ItX.dropH H4 p)) ps (cellsOf (wayOf t) ys) := paired_imp (fun x y h => drop_of h4p (s4 _ _ h) (fun z => by cases z)) p3
        have a_tr : TreeAt (ItX.dropH H4 p) v t := TreeAt.drop h4p (TreeAt.same s04 hv)
        have a_H : ∀ b o, H b = some o → b ≠ p → ItX.dropH H4 p b = some o := fun b o e ne => drop_at (s04 _ _ e) ne
        generalize ItX.dropH H4 p = R4 at R5 r4p a_wd a_D a_ps a_tr a_H
        -- tree, ways
        have e5 : H5 p = some (.ins c.fork dx (fs3 n5 c5 z5)) := e5
        refine ⟨_, rfl, _, rfl, p, c.fork, dx, _, rfl, e5, L.cls, L.nTree, by show 3 < 1000; decide, ?_⟩
        refine ⟨_, rfl, _, rfl, p, c.fork, dx, _, rfl, upd_same, L.cls, L.nWays, ?_, ?_⟩
        · have : (putF "tree" v (fs3 n5 c5 z5)).length = 4 := by
            rw [putF_new (fs := fs3 n5 c5 z5) (by show (["names", "cells", "sizes"] : List Str).contains "tree" = false; decide +kernel)]
            rfl
          omega
        rw [upd_upd, put5]
        have S6 : Same R4 (upd H5 p (.ins c.fork dx (fs5 n5 c5 z5 v wd))) := R5.at r4p
        have e6 : (upd H5 p (.ins c.fork dx (fs5 n5 c5 z5 v wd))) p = some (.ins c.fork dx (fs5 n5 c5 z5 v wd)) := upd_same
        have en6 : (upd H5 p (.ins c.fork dx (fs5 n5 c5 z5 v wd))) n5 = some (.lst (ys.map V.str)) := (upd_ne n5p).trans en5
        have ec6 : (upd H5 p (.ins c.fork dx (fs5 n5 c5 z5 v wd))) c5 = some (.lst (ps.map V.ref)) := (upd_ne c5p).trans ec5
        have ez6 : (upd H5 p (.ins c.fork dx (fs5 n5 c5 z5 v wd))) z5 = some (.lst (List.replicate (cellsOf (wayOf t) ys).length (V.int 2))) := (upd_ne z5p).trans ez5
        generalize upd H5 p (.ins c.fork dx (fs5 n5 c5 z5 v wd)) = H6 at S6 e6 en6 ec6 ez6 ⊢
        -- _flags
        refine ⟨_, rfl, _, rfl, _, rfl, v, wd, D, t, ys, ps, rfl, hg, TreeAt.same S6 a_tr, S6 _ _ a_wd, S6 _ _ a_D, paired_imp (fun x y h => S6 _ _ h) a_ps, fun H7 fd s7 hfd F7 => ?_⟩
        refine ⟨_, rfl, p, c.fork, dx, _, rfl, s7 _ _ e6, L.cls, L.nFlags, by show 5 < 1000; decide, ?_⟩
        rw [put6]
        have e7 := s7 _ _ e6
        have S7 : Same R4 (ItX.dropH H7 p) := drop_same (S6.trans s7) r4p
        have b_n : ItX.dropH H7 p n5 = _ := drop_at (s7 _ _ en6) n5p
        have b_c : ItX.dropH H7 p c5 = _ := drop_at (s7 _ _ ec6) c5p
        have b_z : ItX.dropH H7 p z5 = _ := drop_at (s7 _ _ ez6) z5p
        have b_F := F7.drop e7
        have r7p : ItX.dropH H7 p p = none := ItX.dropH_same
        have S7b : Same (ItX.dropH H7 p) (upd H7 p (.ins c.fork dx (fs6 n5 c5 z5 v wd fd))) := drop_upd
        have e8 : (upd H7 p (.ins c.fork dx (fs6 n5 c5 z5 v wd fd))) p = some (.ins c.fork dx (fs6 n5 c5 z5 v wd fd)) := upd_same
        generalize upd H7 p (.ins c.fork dx (fs6 n5 c5 z5 v wd fd)) = H8 at S7b e8 ⊢
        have S8 := S7.trans S7b
        have c_n := S7b _ _ b_n
        have c_c := S7b _ _ b_c
        have c_z := S7b _ _ b_z
        have c_F := b_F.same S7b
        clear b_n b_c b_z b_F S7b r7p e7
        -- _leaves
        refine ⟨wd, _, S8 _ _ a_wd, trivial, fun od => ?_⟩
        refine ⟨_, rfl, wd, od, _, rfl, upd_same, fun D3 hD3 => ?_⟩
        have hD8 : H8 D3 = none := by
          have ne : D3 ≠ wd := fun e => by rw [e, upd_same] at hD3; cases hD3
          rw [upd_ne ne] at hD3
          exact hD3
        have nDw : D3 ≠ wd := fun e => by rw [e, upd_same] at hD3; cases hD3
        have wnd := ways_nodup t []
        refine walk_gen walk_items (fun i H' => Same (upd H8 wd (.frz od (.dK (kvW (t.ways []))))) H' ∧ ∃ kv : List (Key × V), H' D3 = some (.dK kv) ∧ (∀ a w, (a, w) ∈ (t.ways []).take i → valV kv (Sum.inr (S w)) = some (.str a)) ∧ (∀ w, (∀ a, (a, w) ∉ (t.ways []).take i) → valV kv (Sum.inr (S w)) = none) ∧ kv.length ≤ i) ?_ ?_ ?_ ?_
        · exact ⟨Same.upd hD3, [], upd_same, fun a w h => by simp at h, fun _ _ => rfl, Nat.le_refl _⟩
        · rintro i H' _ ⟨s9, _⟩
          exact s9 _ _ upd_same
        · rintro i x H9 H9' hi ⟨s9, kv, e9, v9, n9, l9⟩ ⟨Tn, x1, x2, rfl, hT, rfl, hx1, hx2⟩
          have hi' : i < (t.ways []).length := by simpa [kvW] using hi
          have hx1 : (kvW (t.ways []))[i]?.map (fun kv => kV kv.1) = some x1 := hx1
          have hx2 : (kvW (t.ways []))[i]?.map Prod.snd = some x2 := hx2
          have hk : (kvW (t.ways []))[i]? = some (Sum.inr ((t.ways [])[i]).1, V.str (S ((t.ways [])[i]).2)) := by
            unfold kvW
            rw [List.getElem?_map, List.getElem?_eq_getElem hi']
            rfl
          rw [hk] at hx1 hx2
          have hx1 : x1 = .str ((t.ways [])[i]).1 := (Option.some.inj hx1).symm
          have hx2 : x2 = .str (S ((t.ways [])[i]).2) := (Option.some.inj hx2).symm
          subst hx1 hx2
          have es : (t.ways []).take (i + 1) = (t.ways []).take i ++ [(t.ways [])[i]] := take_snoc (List.getElem?_eq_getElem hi')
          generalize hxx : (t.ways [])[i] = xx at es
          obtain ⟨a, w0⟩ := xx
          have s10 : Same H9 (upd H9 Tn (.tup [.str a, .str (S w0)])) := Same.upd hT
          have wnew : ∀ b, (b, w0) ∉ (t.ways []).take i := fun b hb => by
            have nd2 : (((t.ways []).take (i + 1)).map (·.2)).Nodup := by
              rw [List.map_take]
              exact List.Nodup.sublist (List.take_sublist _ _) wnd
            rw [es, List.map_append, List.nodup_append] at nd2
            exact nd2.2.2 w0 (List.mem_map.mpr ⟨_, hb, rfl⟩) w0 (by simp) rfl
          refine ⟨Tn, _, rfl, SqT.of upd_same, rfl, _, _, rfl, _, _, rfl, rfl, rfl, ?_⟩
          refine ⟨_, rfl, _, rfl, kv, Sum.inr (S w0), rfl, s10 _ _ e9, ?_, (s9.trans s10).at hD3, _, upd_same, ?_, ?_, ?_⟩
          · refine sz (m := 12) ?_
            have : (t.ways []).length = t.leaves.length := by rw [← ways_fst t [], List.length_map]
            omega
          · intro b w1 hb
            rw [es] at hb
            rw [valV_put]
            rcases List.mem_append.mp hb with hb | hb
            · have ne : w1 ≠ w0 := fun e => wnew b (e ▸ hb)
              rw [if_neg (fun e => ne (S_inj (by injection e)))]
              exact v9 b w1 hb
            · have e : (b, w1) = (a, w0) := by simpa using hb
              cases e
              rw [if_pos rfl]
          · intro w1 hw1
            rw [es] at hw1
            have ne : w1 ≠ w0 := fun e => hw1 a (by rw [e]; simp)
            rw [valV_put, if_neg (fun e => ne (S_inj (by injection e)))]
            exact n9 w1 fun b hb => hw1 b (List.mem_append_left _ hb)
          · rw [putK_new _ (n9 w0 wnew), List.length_append]
            show kv.length + 1 ≤ i + 1
            omega
        · rintro H9 ⟨s9, kv, e9, v9, n9, l9⟩
          have ekl : (kvW (t.ways [])).length = (t.ways []).length := by simp [kvW]
          rw [ekl, List.take_length] at v9 n9
          have lv9 : LeavesAt H9 D3 t := ⟨kv, e9, v9, n9⟩
          refine ⟨s9 _ _ upd_same, ?_⟩
          have s8 : Same H8 (upd H9 wd (.dK (kvW (t.ways [])))) := same_back (S8 _ _ a_wd) s9
          have e10 : LeavesAt (upd H9 wd (.dK (kvW (t.ways [])))) D3 t := ⟨kv, (upd_ne nDw).trans e9, v9, n9⟩
          generalize upd H9 wd (.dK (kvW (t.ways []))) = H10 at s8 e10 ⊢
          refine ⟨_, rfl, p, c.fork, dx, _, rfl, s8 _ _ e8, L.cls, L.nLeaves, by show 6 < 1000; decide, ?_⟩
          rw [put7]
          have e10p := s8 _ _ e8
          have S10 : Same R4 (ItX.dropH H10 p) := drop_same (S8.trans s8) r4p
          have n5p' : n5 ≠ p := n5p
          have d_n := drop_at (p := p) (s8 _ _ c_n) n5p
          have d_c := drop_at (p := p) (s8 _ _ c_c) c5p
          have d_z := drop_at (p := p) (s8 _ _ c_z) z5p
          have d_F := (c_F.same s8).drop e10p
          have d_L := e10.drop e10p
          have S10b : Same (ItX.dropH H10 p) (upd H10 p (.ins c.fork dx (fs7 n5 c5 z5 v wd fd D3))) := drop_upd
          have e11 : (upd H10 p (.ins c.fork dx (fs7 n5 c5 z5 v wd fd D3))) p = some (.ins c.fork dx (fs7 n5 c5 z5 v wd fd D3)) := upd_same
          generalize upd H10 p (.ins c.fork dx (fs7 n5 c5 z5 v wd fd D3)) = H11 at S10b e11 ⊢
          have S11 := S10.trans S10b
          have f_n := S10b _ _ d_n
          have f_c := S10b _ _ d_c
          have f_z := S10b _ _ d_z
          have f_F := d_F.same S10b
          have f_L := d_L.same S10b
          clear d_n d_c d_z d_F d_L S10b e10p
          -- _written
          refine ⟨_, rfl, v, t, rfl, TreeAt.same S11 a_tr, hok, fun zw H12 s12 => ?_⟩
          refine ⟨_, rfl, p, c.fork, dx, _, rfl, s12 _ _ e11, L.cls, L.nWritten, by show 7 < 1000; decide, ?_⟩
          rw [put8]
          have e12 := s12 _ _ e11
          have S12 : Same (ItX.dropH H12 p) (upd H12 p (.ins c.fork dx (fldsOf n5 c5 z5 v wd fd D3 zw))) := drop_upd
          have S13 : Same R4 (upd H12 p (.ins c.fork dx (fldsOf n5 c5 z5 v wd fd D3 zw))) := (drop_same (S11.trans s12) r4p).trans S12
          refine k _ ys ⟨hg, dx, n5, c5, z5, wd, fd, D3, v, zw, ps, upd_same, ?_, ?_, paired_imp (fun x y h => S13 _ _ h) a_ps, ?_, S13 _ _ a_wd, ?_, ?_⟩ ?_
          · exact S12 _ _ (drop_at (s12 _ _ f_n) n5p)
          · exact S12 _ _ (drop_at (s12 _ _ f_c) c5p)
          · exact S12 _ _ (drop_at (s12 _ _ f_z) z5p)
          · exact ((f_F.same s12).drop e12).same S12
          · exact ((f_L.same s12).drop e12).same S12
          · exact fun b o e ne => S13 _ _ (a_H b o e ne)
end
end FK
set_option Elab.async false
set_option linter.all false
set_option maxRecDepth 100000
set_option maxHeartbeats 4000000
set_option pp.maxSteps 400
namespace FK
open PySem PySem.Spec PyProof.Rows L2
theorem cutV_take (xs : List V) (k : Nat) : cutV xs none (some (k : Int)) = xs.take k := by
  unfold cutV
  rw [HT.sIx_none, HT.sIx_nat, List.drop_zero, Nat.sub_zero, List.take_eq_take_iff]
  omega
theorem paired_take {α β : Type} {R : α → β → Prop} : ∀ {xs : List α} {ys : List β} (k : Nat), Paired R xs ys → Paired R (xs.take k) (ys.take k)
  | _, _, 0, _ => .nil
  | _, _, _ + 1, .nil => .nil
  | _, _, k + 1, .cons h t => .cons h (paired_take k t)
theorem paired_drop {α β : Type} {R : α → β → Prop} : ∀ {xs : List α} {ys : List β} (k : Nat), Paired R xs ys → Paired R (xs.drop k) (ys.drop k)
  | _, _, 0, h => h
  | _, _, _ + 1, .nil => .nil
  | _, _, k + 1, .cons h t => paired_drop k t
def doneV : Option Nat → V
  | none => .non
  | some d => .int (d : Nat)
def EvAt (H : Hp) (p : Addr) (e : Ev Str) : Prop := H p = some (.tup [.str e.1, doneV e.2])
def EvsAt (H : Hp) (l : Addr) (evs : List (Ev Str)) : Prop := ∃ es : List Addr, H l = some (.lst (es.map V.ref)) ∧ Paired (EvAt H) es evs
theorem EvsAt.same {H H' : Hp} {l : Addr} {evs : List (Ev Str)} (h : EvsAt H l evs) (s : Same H H') : EvsAt H' l evs := by
  obtain ⟨es, h1, h2⟩ := h
  exact ⟨es, s _ _ h1, paired_imp (fun _ _ h => s _ _ h) h2⟩
def ErrP (c : Cs) (H : Hp) (E : XK) : Err Str → Prop
  | .unknown a => ∀ H' d, Same H H' → H d = none → H' d = some (.xd [("writer", .str a)]) → E (.ref c.eWriter) (some d) H'
  | .event j => ∀ H' d, Same H H' → H d = none → H' d = some (.xd [("index", .int (j : Nat))]) → E (.ref c.eEvent) (some d) H'
theorem ErrP.mono {c : Cs} {H H1 : Hp} {E : XK} {x : Err Str} (h : ErrP c H E x) (s : Same H H1) : ErrP c H1 E x := by
  cases x with
  | unknown a => exact fun H' d s' hd e => h H' d (s.trans s') (s.free hd) e
  | event j => exact fun H' d s' hd e => h H' d (s.trans s') (s.free hd) e
def ResP {β : Type} (c : Cs) (H : Hp) (E : XK) (r : Except (Err Str) β) (ok : β → Prop) : Prop := match r with
  | .ok x => ok x
  | .error x => ErrP c H E x
theorem runM_nil {W : Str → List Bool} {names : List Str} {st : List Int} {i : Nat} : runM W names st [] i = .ok st := rfl
theorem runM_cons {W : Str → List Bool} {names : List Str} {st : List Int} {e : Ev Str} {r : List (Ev Str)} {i : Nat} : runM W names st (e :: r) i = match evT W names st e i with
    | .error x => .error x
    | .ok row => runM W names (after st row) r (i + 1) := by
  conv => lhs; unfold runM
  cases evT W names st e i <;> rfl
theorem lastM_nil {W : Str → List Bool} {names : List Str} {acc : Option Str} {st : List Int} {i : Nat} : lastM W names acc st [] i = .ok acc := rfl
theorem lastM_cons {W : Str → List Bool} {names : List Str} {acc : Option Str} {st : List Int} {e : Ev Str} {r : List (Ev Str)} {i : Nat} : lastM W names acc st (e :: r) i = match evT W names st e i with
    | .error x => .error x
    | .ok row => lastM W names (if row.length = (turnsOf W names st e.1).length then some e.1 else acc) (after st row) r (i + 1) := by
  conv => lhs; unfold lastM
  cases evT W names st e i <;> rfl
/-- the turns of an event may be made -/
theorem evT_sub {W : Str → List Bool} {names : List Str} {st : List Int} {e : Ev Str} {i : Nat} {row : List (Nat × Int)} (h : evT W names st e i = .ok row) : e.1 ∈ names ∧ ∀ x ∈ row, x ∈ turnsOf W names st e.1 := by
  unfold evT at h
  by_cases ha : e.1 ∈ names
  · rw [if_pos ha] at h
    refine ⟨ha, ?_⟩
    cases hd : e.2 with
    | none =>
      rw [hd] at h
      cases h
      exact fun x hx => hx
    | some d =>
      rw [hd] at h
      dsimp only at h
      by_cases hl : (turnsOf W names st e.1).length < d
      · rw [if_pos hl] at h
        cases h
      · rw [if_neg hl] at h
        cases h
        exact fun x hx => List.mem_of_mem_take hx
  · rw [if_neg ha] at h
    cases h
theorem StOk.after {t : Tr Str} {names : List Str} {st : List Int} {row : List (Nat × Int)} {a : Str} (h : StOk t names st) (hr : ∀ x ∈ row, x ∈ turnsOf (wayOf t) names st a) : StOk t names (after st row) :=
  ⟨after_marks row st h.marks fun x hx => turns_mark h.marks x (hr x hx), by rw [after_length]; exact h.len⟩
section
variable {P : Program} {w : World} {K : PySem.W.Frag} {mg : Str → Option Value} {base : Heap} {c : Cs}
def spEventTurns (c : Cs) : Sp := fun vs H Q E => ∃ (p q ev : Addr) (i : Nat) (e : Ev Str) (st : List Int) (t : Tr Str) (names : List Str), vs = [.ref p, .ref q, .ref ev, .int (i : Nat)] ∧ PlanAt c.fork H p t names ∧ TupAt H q st ∧ StOk t names st ∧ EvAt H ev e ∧ NameOk e.1 ∧ i < 64 ∧
  ResP c H E (evT (wayOf t) names st e i) fun row => ∀ H' r, Same H H' → H r = none → RowAt H' r row → Q (.ref r) H'
abbrev sEventTurns : Stmt := topS 11
theorem scEventTurns : FnScope ["plan", "state", "event", "index", "writer", "done", "turns"] ["plan", "state", "event", "index"] (defScope sEventTurns) := ⟨rfl, rfl, rfl, by decide +kernel, rfl, by decide +kernel, by decide +kernel⟩
theorem ok_eventTurns (T : Txt K mg) (R : ErrTxt P K mg c) (L : PlanTxt P K mg c) : FnB P w K mg base (L2.CX P w) 7 "event_turns" (spEventTurns c) := by
  have G : FnM P w K mg base (L2.CX P w) 6 c.fork "turns" (spTurns c) := ok_turns T R L
  have F : FnI P w K mg base CX0 1 c.eEvent [] (spInitF c.eEvent "index" fun v => ∃ i : Nat, v = .int i ∧ i < 64) := ok_initE R
  refine T.dEventTurns.okX scEventTurns (fun vs H Q E h => ?_) (fun f cdv A outer s H vs Q E hr h => ?_)
  · obtain ⟨p, q, ev, i, e, st, t, names, rfl, _⟩ := h
    rfl
  · obtain ⟨p, q, ev, i, ⟨a, d⟩, st, t, names, rfl, hp, hq, hst, hev, hn, hi, k⟩ := h
    obtain ⟨dx, nl, cl, sl, wd, fd, ld, vt, zw, ps, h1, h2, h3, h4, h5, h6, h7, h8⟩ := hp.ex
    refine ⟨_, pss_cons (ps_asg (pv 2) (pg_tup (by rfl) (pgs_cons (pg_name (i := 4) scEventTurns.nd rfl (.inl rfl)) (pgs_cons (pg_name (i := 5) scEventTurns.nd rfl (.inl rfl)) pgs_nil))))
      (pss_cons (ps_set (i := 6) scEventTurns.nd rfl (.inl rfl) (pmeth G L.cls hr px (pv 0) (pa_cons (pv 1) (pa_cons (pv 4) pa_nil))))
      (pss_cons (ps_if (pt_cmp (pc_isN (pv 5))) (pss_one (ps_ret (pv 6))) pss_nil)
      (pss_cons (ps_if (pt_cmpR op_gt (pv 5) (pe_callB call_len_seq (by rfl) T.b.len (by decide +kernel) (pa_cons (pv 6) pa_nil)) (nomark _))
        (pss_one (ps_raise rfl (takes_of rfl rfl rfl rfl) (pmk_oexI R.eEvent.oc F (hr.mono (by decide)) pass0 R.eEvent.g (pa_cons (pv 3) pa_nil)))) pss_nil)
      (pss_one (ps_ret (pe_slice sl_list (pv 6) po_none (po_some (pv 5)))))))), ?_⟩
    refine ⟨_, rfl, ev, _, rfl, SqT.of hev, rfl, _, _, rfl, _, _, rfl, rfl, ?_⟩
    refine ⟨_, rfl, p, dx, _, rfl, h1, rfl, _, rfl, _, rfl, p, q, a, st, t, names, rfl, hp, hq, hst, ?_⟩
    have k : ResP c H E (if a ∈ names then (match d with | none => .ok (turnsOf (wayOf t) names st a) | some d => if (turnsOf (wayOf t) names st a).length < d then .error (.event i) else .ok ((turnsOf (wayOf t) names st a).take d)) else .error (.unknown a)) fun row => ∀ H' r, Same H H' → H r = none → RowAt H' r row → Q (.ref r) H' := k
    by_cases ha : a ∈ names
    · rw [if_pos ha] at k
      refine .inl ⟨ha, fun H1 r s1 hr1 hrow => ?_⟩
      cases d with
      | none => exact ⟨_, rfl, _, rfl, if_t rfl ⟨_, rfl, k H1 r s1 hr1 hrow⟩⟩
      | some d =>
        obtain ⟨rs, hr2, hr3⟩ := hrow
        refine ⟨_, rfl, _, rfl, if_f rfl ?_⟩
        refine ⟨_, rfl, _, rfl, r, _, rfl, .inl (SqL.of hr2), _, _, rfl, rfl, _, rfl, ?_⟩
        have el : ((rs.map V.ref).length : Nat) = (turnsOf (wayOf t) names st a).length := by rw [List.length_map, paired_len hr3]
        dsimp only at k
        by_cases hl : (turnsOf (wayOf t) names st a).length < d
        · rw [if_pos hl] at k
          refine if_t (decide_eq_true (by rw [el]; omega)) ⟨_, rfl, raise_f ⟨i, rfl, hi⟩ fun dd hdd => k _ dd (s1.upd' hdd) (s1.free hdd) upd_same⟩
        · rw [if_neg hl] at k
          refine if_f (decide_eq_false (by rw [el]; omega)) ?_
          refine ⟨_, rfl, _, rfl, _, rfl, r, _, rfl, SqL.of hr2, fun r2 hr4 => ?_⟩
          refine k _ r2 (s1.upd' hr4) (s1.free hr4) ⟨rs.take d, ?_, paired_take d (paired_imp (fun x y h => ?_) hr3)⟩
          · rw [upd_same, cutV_take, List.map_take]
          · rw [upd_ne (ne_of_none h hr4)]
            exact h
    · rw [if_neg ha] at k
      exact .inr ⟨ha, hn, k⟩
/-! run -/
def BadAt (H : Hp) (q : Addr) (n : Nat) : Prop := (∃ xs, H q = some (.lst xs)) ∨ ∃ xs : List V, H q = some (.tup xs) ∧ (∀ x ∈ xs, PlainV x) ∧ goodB xs n = false
def spRun (c : Cs) : Sp := fun vs H Q E => ∃ (p q el : Addr) (evs : List (Ev Str)) (t : Tr Str) (names : List Str), vs = [.ref p, .ref q, .ref el] ∧ PlanAt c.fork H p t names ∧
  ((BadAt H q (cellsOf (wayOf t) names).length ∧ ∀ H', Same H H' → E (.ref c.eState) none H') ∨
    ∃ st, TupAt H q st ∧ StOk t names st ∧ EvsAt H el evs ∧ (∀ e ∈ evs, NameOk e.1) ∧ evs.length ≤ 63 ∧ ResP c H E (runM (wayOf t) names st evs 0) fun en => ∀ H' q', Same H H' → TupAt H' q' en → StOk t names en → Q (.ref q') H')
abbrev sRun : Stmt := topS 12
theorem scRun : FnScope ["plan", "state", "events", "index", "event", "made"] ["plan", "state", "events"] (defScope sRun) := ⟨rfl, rfl, rfl, by decide +kernel, rfl, by decide +kernel, by decide +kernel⟩
theorem bad_tail {c : Cs} {H : Hp} {q : Addr} {n : Nat} {G : Hp → Prop} {E : XK} (hb : BadAt H q n) (k : ∀ H', Same H H' → E (.ref c.eState) none H') :
    (∃ xs, H q = some (.lst xs) ∧ E (.ref c.eState) none H) ∨ ∃ xs : List V, H q = some (.tup xs) ∧ (∀ x ∈ xs, PlainV x) ∧ ∀ H', Same H H' → if goodB xs n = true then G H' else E (.ref c.eState) none H' := by
  rcases hb with ⟨xs, h⟩ | ⟨xs, h, hpl, hg⟩
  · exact .inl ⟨xs, h, k _ (.refl _)⟩
  · exact .inr ⟨xs, h, hpl, fun H' s => by rw [if_neg (by rw [hg]; decide)]; exact k H' s⟩
theorem ok_run (T : Txt K mg) (R : ErrTxt P K mg c) (L : PlanTxt P K mg c) : FnB P w K mg base (L2.CX P w) 8 "run" (spRun c) := by
  have G : FnM P w K mg base (L2.CX P w) 3 c.fork "check_state" (spCheckState c) := ok_checkState T R L
  have G2 : FnB P w K mg base (L2.CX P w) 7 "event_turns" (spEventTurns c) := ok_eventTurns T R L
  have G3 : FnM P w K mg base (L2.CX P w) 4 c.fork "turned" (spTurned c) := ok_turned T R L
  refine T.dRun.okX scRun (fun vs H Q E h => ?_) (fun f cdv A outer s H vs Q E hr h => ?_)
  · obtain ⟨p, q, el, evs, t, names, rfl, _⟩ := h
    rfl
  · obtain ⟨p, q, el, evs, t, names, rfl, hp, k⟩ := h
    obtain ⟨dx, nl, cl, sl, wd, fd, ld, vt, zw, ps, h1, h2, h3, h4, h5, h6, h7, h8⟩ := id hp.ex
    refine ⟨_, pss_cons (ps_expr (pmeth G L.cls (hr.mono (by decide)) px (pv 0) (pa_cons (pv 1) pa_nil)))
      (pss_cons (ps_for (passes_of rfl) rfl (pi_enum (by rfl) T.b.enumerate (pa_cons (pv 2) pa_nil)) (pg_tup (by rfl) (pgs_cons (pg_name (i := 3) scRun.nd rfl (.inl rfl)) (pgs_cons (pg_name (i := 4) scRun.nd rfl (.inl rfl)) pgs_nil)))
        (pss_cons (ps_set (i := 5) scRun.nd rfl (.inl rfl) (pcall G2 hr px (pa_cons (pv 0) (pa_cons (pv 1) (pa_cons (pv 4) (pa_cons (pv 3) pa_nil))))))
        (pss_one (ps_set (i := 1) scRun.nd rfl (.inl rfl) (pmeth G3 L.cls (hr.mono (by decide)) px (pv 0) (pa_cons (pv 1) (pa_cons (pv 5) pa_nil)))))))
      (pss_one (ps_ret (pv 1)))), ?_⟩
    refine ⟨_, rfl, p, dx, _, rfl, h1, rfl, _, rfl, ?_⟩
    rcases k with ⟨hb, k⟩ | ⟨st, hq, hst, hev, hnm, hlen, k⟩
    · exact ⟨p, q, t, names, rfl, hp, bad_tail hb k⟩
    · refine ⟨p, q, t, names, rfl, hp, .inr ⟨_, hq, plain_ints, fun H1 s1 => ?_⟩⟩
      rw [if_pos (good_ints hst.marks hst.len')]
      obtain ⟨es, he1, he2⟩ := hev
      refine ⟨_, rfl, el, _, rfl, SqL.of (s1 _ _ he1), for_it (walk_enum (xs := es.map V.ref)) (fun i σ H' => ∃ qi sti x1 x2 x3, σ = [some (.ref p), some (.ref qi), some (.ref el), x1, x2, x3] ∧ Same H H' ∧ TupAt H' qi sti ∧ StOk t names sti ∧
        runM (wayOf t) names st evs 0 = runM (wayOf t) names sti (evs.drop i) i) ?_ ?_ ?_ ?_⟩
      · exact ⟨q, st, none, none, none, rfl, s1, s1 _ _ hq, hst, rfl⟩
      · rintro i σ H' _ ⟨qi, sti, x1, x2, x3, rfl, s2, _⟩
        exact SqL.of (s2 _ _ he1)
      · rintro i x σ H3 H3' hi ⟨qi, sti, x1, x2, x3, rfl, s2, hqi, hsti, er⟩ ⟨Tn, z1, z2, rfl, hT, rfl, hz1, hz2⟩
        have hz1 : z1 = .int (i : Nat) := (Option.some.inj hz1).symm
        subst hz1
        have hz2 : (es.map V.ref)[i]? = some z2 := hz2
        rw [List.getElem?_map] at hz2
        obtain ⟨ea, hea, rfl⟩ := Option.map_eq_some_iff.mp hz2
        obtain ⟨e, hee, hae⟩ := paired_get he2 hea
        have s3 : Same H (upd H3 Tn (.tup [.int (i : Nat), .ref ea])) := s2.upd' hT
        have hi' := (List.getElem?_eq_some_iff.mp hee).1
        have ed : evs.drop i = e :: evs.drop (i + 1) := by
          rw [List.drop_eq_getElem_cons hi']
          congr 1
          exact Option.some.inj ((List.getElem?_eq_getElem hi').symm.trans hee)
        have hqi2 : TupAt (upd H3 Tn (.tup [.int (i : Nat), .ref ea])) qi sti := (Same.upd hT) _ _ hqi
        refine ⟨Tn, _, rfl, SqT.of upd_same, rfl, _, _, rfl, _, _, rfl, rfl, ?_⟩
        refine ⟨_, rfl, _, rfl, _, rfl, _, rfl, p, qi, ea, i, e, sti, t, names, rfl, hp.same s3, hqi2, hsti, s3 _ _ hae, hnm e (List.mem_of_getElem? hee), by omega, ?_⟩
        rw [ed, runM_cons] at er
        cases hr2 : evT (wayOf t) names sti e i with
        | error x =>
          rw [hr2] at er
          rw [er] at k
          exact ErrP.mono k s3
        | ok row =>
          rw [hr2] at er
          obtain ⟨hm, hsub⟩ := evT_sub hr2
          intro H4 r s4 hr4 hrow
          have s5 := s3.trans s4
          refine ⟨_, rfl, p, dx, _, rfl, s5 _ _ h1, rfl, _, rfl, _, rfl, p, qi, r, sti, row, t, names, rfl, hp.same s5, s4 _ _ hqi2, hsti, hrow, fun x hx => ?_, fun H5 q5 s6 hq5 ht5 => ?_⟩
          · refine ⟨?_, turns_mark hsti.marks x (hsub x hx)⟩
            rw [hsti.len]
            exact turns_lt hm x (hsub x hx)
          · exact ⟨q5, _, _, _, _, rfl, s5.trans s6, ht5, hsti.after hsub, er⟩
      · rintro σ H3 ⟨qi, sti, x1, x2, x3, rfl, s2, hqi, hsti, er⟩
        have e0 : evs.drop (es.map V.ref).length = [] := by
          rw [List.length_map, paired_len he2]
          simp
        rw [e0, runM_nil] at er
        rw [er] at k
        exact ⟨_, rfl, k H3 qi s2 hqi hsti⟩
end
end FK
set_option Elab.async false
set_option linter.all false
set_option maxRecDepth 100000
set_option maxHeartbeats 4000000
set_option pp.maxSteps 400
namespace FK
open PySem PySem.Spec PyProof.Rows L2
def lastV : Option Str → V
  | none => .non
  | some a => .str a
section
variable {P : Program} {w : World} {K : PySem.W.Frag} {mg : Str → Option Value} {base : Heap} {c : Cs}
def spLast (c : Cs) : Sp := fun vs H Q E => ∃ (p q el : Addr) (evs : List (Ev Str)) (t : Tr Str) (names : List Str), vs = [.ref p, .ref q, .ref el] ∧ PlanAt c.fork H p t names ∧
  ((BadAt H q (cellsOf (wayOf t) names).length ∧ ∀ H', Same H H' → E (.ref c.eState) none H') ∨
    ∃ st, TupAt H q st ∧ StOk t names st ∧ EvsAt H el evs ∧ (∀ e ∈ evs, NameOk e.1) ∧ evs.length ≤ 63 ∧ ResP c H E (lastM (wayOf t) names none st evs 0) fun acc => ∀ H', Same H H' → Q (lastV acc) H')
abbrev sLast : Stmt := topS 13
theorem scLast : FnScope ["plan", "state", "events", "last", "index", "event", "writer", "made"] ["plan", "state", "events"] (defScope sLast) := ⟨rfl, rfl, rfl, by decide +kernel, rfl, by decide +kernel, by decide +kernel⟩
theorem ok_last (T : Txt K mg) (R : ErrTxt P K mg c) (L : PlanTxt P K mg c) : FnB P w K mg base (L2.CX P w) 8 "last_whole" (spLast c) := by
  have G : FnM P w K mg base (L2.CX P w) 3 c.fork "check_state" (spCheckState c) := ok_checkState T R L
  have G2 : FnB P w K mg base (L2.CX P w) 7 "event_turns" (spEventTurns c) := ok_eventTurns T R L
  have G3 : FnM P w K mg base (L2.CX P w) 4 c.fork "turned" (spTurned c) := ok_turned T R L
  have G4 : FnM P w K mg base (L2.CX P w) 6 c.fork "turns" (spTurns c) := ok_turns T R L
  refine T.dLast.okX scLast (fun vs H Q E h => ?_) (fun f cdv A outer s H vs Q E hr h => ?_)
  · obtain ⟨p, q, el, evs, t, names, rfl, _⟩ := h
    rfl
  · obtain ⟨p, q, el, evs, t, names, rfl, hp, k⟩ := h
    obtain ⟨dx, nl, cl, sl, wd, fd, ld, vt, zw, ps, h1, h2, h3, h4, h5, h6, h7, h8⟩ := id hp.ex
    refine ⟨_, pss_cons (ps_expr (pmeth G L.cls (hr.mono (by decide)) px (pv 0) (pa_cons (pv 1) pa_nil)))
      (pss_cons (ps_set (i := 3) scLast.nd rfl (.inl rfl) pe_non)
      (pss_cons (ps_for (passes_of rfl) rfl (pi_enum (by rfl) T.b.enumerate (pa_cons (pv 2) pa_nil)) (pg_tup (by rfl) (pgs_cons (pg_name (i := 4) scLast.nd rfl (.inl rfl)) (pgs_cons (pg_name (i := 5) scLast.nd rfl (.inl rfl)) pgs_nil)))
        (pss_cons (ps_set (i := 6) scLast.nd rfl (.inl rfl) (pe_ix ix_tup (pv 5) pe_int (fun _ _ => rfl)))
        (pss_cons (ps_set (i := 7) scLast.nd rfl (.inl rfl) (pcall G2 hr px (pa_cons (pv 0) (pa_cons (pv 1) (pa_cons (pv 5) (pa_cons (pv 4) pa_nil))))))
        (pss_cons (ps_if (pt_cmpR op_eq (pe_callB call_len_seq (by rfl) T.b.len (by decide +kernel) (pa_cons (pv 7) pa_nil)) (pe_callB call_len_seq (by rfl) T.b.len (by decide +kernel) (pa_cons (pmeth G4 L.cls (hr.mono (by decide)) px (pv 0) (pa_cons (pv 1) (pa_cons (pv 6) pa_nil))) pa_nil)) (nomark _))
          (pss_one (ps_set (i := 3) scLast.nd rfl (.inl rfl) (pv 6))) pss_nil)
        (pss_one (ps_set (i := 1) scLast.nd rfl (.inl rfl) (pmeth G3 L.cls (hr.mono (by decide)) px (pv 0) (pa_cons (pv 1) (pa_cons (pv 7) pa_nil)))))))))
      (pss_one (ps_ret (pv 3))))), ?_⟩
    refine ⟨_, rfl, p, dx, _, rfl, h1, rfl, _, rfl, ?_⟩
    rcases k with ⟨hb, k⟩ | ⟨st, hq, hst, hev, hnm, hlen, k⟩
    · exact ⟨p, q, t, names, rfl, hp, bad_tail hb k⟩
    · refine ⟨p, q, t, names, rfl, hp, .inr ⟨_, hq, plain_ints, fun H1 s1 => ?_⟩⟩
      rw [if_pos (good_ints hst.marks hst.len')]
      obtain ⟨es, he1, he2⟩ := hev
      refine ⟨_, rfl, el, _, rfl, SqL.of (s1 _ _ he1), for_it (walk_enum (xs := es.map V.ref)) (fun i σ H' => ∃ qi sti acc x1 x2 x3 x4, σ = [some (.ref p), some (.ref qi), some (.ref el), some (lastV acc), x1, x2, x3, x4] ∧ Same H H' ∧ TupAt H' qi sti ∧ StOk t names sti ∧
        lastM (wayOf t) names none st evs 0 = lastM (wayOf t) names acc sti (evs.drop i) i) ?_ ?_ ?_ ?_⟩
      · exact ⟨q, st, none, none, none, none, none, rfl, s1, s1 _ _ hq, hst, rfl⟩
      · rintro i σ H' _ ⟨qi, sti, acc, x1, x2, x3, x4, rfl, s2, _⟩
        exact SqL.of (s2 _ _ he1)
      · rintro i x σ H3 H3' hi ⟨qi, sti, acc, x1, x2, x3, x4, rfl, s2, hqi, hsti, er⟩ ⟨Tn, z1, z2, rfl, hT, rfl, hz1, hz2⟩
        have hz1 : z1 = .int (i : Nat) := (Option.some.inj hz1).symm
        subst hz1
        have hz2 : (es.map V.ref)[i]? = some z2 := hz2
        rw [List.getElem?_map] at hz2
        obtain ⟨ea, hea, rfl⟩ := Option.map_eq_some_iff.mp hz2
        obtain ⟨e, hee, hae⟩ := paired_get he2 hea
        have s3 : Same H (upd H3 Tn (.tup [.int (i : Nat), .ref ea])) := s2.upd' hT
        have hi' := (List.getElem?_eq_some_iff.mp hee).1
        have ed : evs.drop i = e :: evs.drop (i + 1) := by
          rw [List.drop_eq_getElem_cons hi']
          congr 1
          exact Option.some.inj ((List.getElem?_eq_getElem hi').symm.trans hee)
        have hqi2 : TupAt (upd H3 Tn (.tup [.int (i : Nat), .ref ea])) qi sti := (Same.upd hT) _ _ hqi
        refine ⟨Tn, _, rfl, SqT.of upd_same, rfl, _, _, rfl, _, _, rfl, rfl, ?_⟩
        have hae3 := s3 _ _ hae
        refine ⟨_, rfl, ea, _, 0, .str e.1, rfl, rfl, SqT.of hae3, atI_nat (j := 0) rfl, ?_⟩
        refine ⟨_, rfl, _, rfl, _, rfl, _, rfl, p, qi, ea, i, e, sti, t, names, rfl, hp.same s3, hqi2, hsti, hae3, hnm e (List.mem_of_getElem? hee), by omega, ?_⟩
        rw [ed, lastM_cons] at er
        cases hr2 : evT (wayOf t) names sti e i with
        | error x =>
          rw [hr2] at er
          rw [er] at k
          exact ErrP.mono k s3
        | ok row =>
          rw [hr2] at er
          dsimp only at er
          obtain ⟨hm, hsub⟩ := evT_sub hr2
          intro H4 r s4 hr4 hrow
          have s5 := s3.trans s4
          have hrow' := hrow
          obtain ⟨rs, hrs1, hrs2⟩ := hrow'
          refine ⟨_, rfl, r, _, rfl, .inl (SqL.of hrs1), ?_⟩
          refine ⟨_, rfl, p, dx, _, rfl, s5 _ _ h1, rfl, _, rfl, _, rfl, p, qi, e.1, sti, t, names, rfl, hp.same s5, s4 _ _ hqi2, hsti, .inl ⟨hm, fun H5 r5 s6 hr5 hrow5 => ?_⟩⟩
          obtain ⟨rs5, hrs51, hrs52⟩ := hrow5
          refine ⟨r5, _, rfl, .inl (SqL.of hrs51), rfl, _, rfl, ?_⟩
          have s7 := s5.trans s6
          have fin : ∀ (acc' : Option Str), acc' = (if row.length = (turnsOf (wayOf t) names sti e.1).length then some e.1 else acc) → ∀ (σ : L2.St), σ = [some (.ref p), some (.ref qi), some (.ref el), some (lastV acc'), some (.int (i : Nat)), some (.ref ea), some (.str e.1), some (.ref r)] →
              tMeth c.fork "turned" (spTurned c) [] E (tVar 0) (tCons (tVar 1) (tCons (tVar 7) tNil)) σ H5 fun v H6 => ∃ qi sti acc x1 x2 x3 x4, σ.set 1 (some v) = [some (.ref p), some (.ref qi), some (.ref el), some (lastV acc), x1, x2, x3, x4] ∧ Same H H6 ∧ TupAt H6 qi sti ∧ StOk t names sti ∧
                lastM (wayOf t) names none st evs 0 = lastM (wayOf t) names acc sti (evs.drop (i + 1)) (i + 1) := by
            rintro acc' hacc σ rfl
            refine ⟨_, rfl, p, dx, _, rfl, s7 _ _ h1, rfl, _, rfl, _, rfl, p, qi, r, sti, row, t, names, rfl, hp.same s7, (s4.trans s6) _ _ hqi2, hsti, RowAt.same hrow s6, fun x hx => ?_, fun H6 q6 s8 hq6 ht6 => ?_⟩
            · refine ⟨?_, turns_mark hsti.marks x (hsub x hx)⟩
              rw [hsti.len]
              exact turns_lt hm x (hsub x hx)
            · refine ⟨q6, _, acc', _, _, _, _, rfl, s7.trans s8, ht6, hsti.after hsub, ?_⟩
              rw [er, hacc]
          have el : (decide (V.int ((rs.map V.ref).length : Nat) = V.int ((rs5.map V.ref).length : Nat))) = decide (row.length = (turnsOf (wayOf t) names sti e.1).length) := by
            rw [dec_int, List.length_map, List.length_map, paired_len hrs2, paired_len hrs52]
          by_cases hl : row.length = (turnsOf (wayOf t) names sti e.1).length
          · refine if_t (by rw [el]; exact decide_eq_true hl) ⟨_, rfl, ?_⟩
            exact fin (some e.1) (by rw [if_pos hl]) _ rfl
          · refine if_f (by rw [el]; exact decide_eq_false hl) ?_
            exact fin acc (by rw [if_neg hl]) _ rfl
      · rintro σ H3 ⟨qi, sti, acc, x1, x2, x3, x4, rfl, s2, hqi, hsti, er⟩
        have e0 : evs.drop (es.map V.ref).length = [] := by
          rw [List.length_map, paired_len he2]
          simp
        rw [e0, lastM_nil] at er
        rw [er] at k
        exact ⟨_, rfl, k H3 s2⟩
end
end FK
set_option Elab.async false
set_option linter.all false
set_option maxRecDepth 100000
set_option maxHeartbeats 4000000
set_option pp.maxSteps 400
/-! The law's box of numbers. -/
namespace FK
open PySem PySem.Spec PyProof.Rows L2
abbrev BX (a b c : Int) : HO := .lst [.int a, .int b, .int c]
theorem upd_self {H : Hp} {x : Addr} {o : HO} (h : H x = some o) : upd H x o = H := by
  funext b
  by_cases e : b = x
  · rw [e, upd_same, h]
  · rw [upd_ne e]
theorem mod_cm (z : Int) {m : Int} (h : 0 < m) (h2 : m < 2 ^ 60) : -(2 ^ 64) < z % m ∧ z % m < 2 ^ 64 := by
  have b1 := Int.emod_nonneg z (show m ≠ 0 by omega)
  have b2 := Int.emod_lt_of_pos z h
  omega
section
variable {P : Program} {w : World} {K : PySem.W.Frag} {mg : Str → Option Value} {base : Heap} {c : Cs}
/-! _law_is_integer -/
def spInt : Sp := fun vs H Q _ => ∃ i : Int, vs = [.int i] ∧ Q (.bl true) H
abbrev sLInt : Stmt := topS 35
theorem scInt : FnScope ["_law_value"] ["_law_value"] (defScope sLInt) := ⟨rfl, rfl, rfl, by decide +kernel, rfl, by decide +kernel, by decide +kernel⟩
theorem ok_int (T : Txt K mg) : FnB P w K mg base CX0 1 "_law_is_integer" spInt := by
  refine T.lInt.ok scInt (fun vs H Q E h => ?_) (fun f cdv A outer s H vs Q E hr h => ?_)
  · obtain ⟨i, rfl, _⟩ := h
    rfl
  · obtain ⟨i, rfl, k⟩ := h
    refine ⟨_, pss_one (ps_ret (pe_and (pisi "int" T.b (pv 0) T.b.int (by decide +kernel)) (pe_one (pe_not (pisi "bool" T.b (pv 0) T.b.bool (by decide +kernel)))))), ?_⟩
    refine ⟨_, rfl, _, _, _, _, true, rfl, .ty _, .base (.int _), kit_ty (by decide +kernel), true, rfl, ?_⟩
    exact ⟨_, rfl, _, _, _, _, false, rfl, .ty _, .base (.int _), kit_ty (by decide +kernel), false, rfl, k⟩
/-! _law_mixed -/
def spMixed : Sp := fun vs H Q _ => ∃ s n : Int, vs = [.int s, .int n] ∧ ∀ k : Int, Q (.int k) H
abbrev sMixed : Stmt := topS 36
theorem scMixed : FnScope ["_law_seed", "_law_turn", "_law_once", "_law_twice"] ["_law_seed", "_law_turn"] (defScope sMixed) := ⟨rfl, rfl, rfl, by decide +kernel, rfl, by decide +kernel, by decide +kernel⟩
theorem ok_mixed (T : Txt K mg) : FnB P w K mg base CX0 1 "_law_mixed" spMixed := by
  refine T.lMixed.ok scMixed (fun vs H Q E h => ?_) (fun f cdv A outer s H vs Q E hr h => ?_)
  · obtain ⟨s, n, rfl, _⟩ := h
    rfl
  · obtain ⟨s, n, rfl, k⟩ := h
    refine ⟨_, pss_cons (ps_set (i := 2) scMixed.nd rfl (.inl rfl) (pe_op op_mod (pe_callTy call_int1 (by rfl) T.b.int (by decide +kernel) (pa_cons (pe_op op_add (pe_op op_add (pe_op op_mul (pv 0) pe_int) (pe_op op_mul (pv 1) pe_int)) pe_int) pa_nil)) pe_int))
      (pss_cons (ps_set (i := 3) scMixed.nd rfl (.inl rfl) (pe_op op_mod (pe_callTy call_int1 (by rfl) T.b.int (by decide +kernel) (pa_cons (pe_op op_add (pe_op op_mul (pv 2) (pv 2)) (pv 0)) pa_nil)) pe_int))
      (pss_one (ps_ret (pe_op op_fdiv (pe_op op_mod (pe_callTy call_int1 (by rfl) T.b.int (by decide +kernel) (pa_cons (pe_op op_add (pe_op op_mul (pv 3) (pv 3)) (pv 1)) pa_nil)) pe_int) pe_int)))), ?_⟩
    refine ⟨_, rfl, _, _, rfl, rfl, .inr ⟨by decide, by decide⟩, _, rfl, _, _, rfl, rfl, .inr ⟨by decide, by decide⟩, _, _, rfl, rfl, _, _, rfl, rfl, .inl ⟨_, rfl, _, _, rfl, rfl, (by show (0 : Int) < 2147483647; decide), ?_⟩⟩
    refine ⟨_, rfl, _, rfl, _, _, rfl, rfl, ?_, _, rfl, _, _, rfl, rfl, .inl ⟨_, rfl, _, _, rfl, rfl, (by show (0 : Int) < 2147483629; decide), ?_⟩⟩
    · exact .inl (mod_cm _ (by decide) (by decide))
    · refine ⟨_, rfl, _, rfl, _, _, rfl, rfl, ?_, _, rfl, _, _, rfl, rfl, .inl ⟨_, rfl, _, _, rfl, rfl, (by show (0 : Int) < 2147483587; decide), _, _, rfl, rfl, ⟨by decide, by decide⟩, k _⟩⟩
      exact .inl (mod_cm _ (by decide) (by decide))
/-! _law_take -/
def spTake : Sp := fun vs H Q _ => ∃ (x : Addr) (m a b c : Int), vs = [.ref x, .int m] ∧ H x = some (BX a b c) ∧ 0 < m ∧ m < 1000000 ∧ ∀ (a b c : Int) (k : Nat), (k : Int) < m → Q (.int (k : Nat)) (upd H x (BX a b c))
abbrev sTake : Stmt := topS 38
theorem scTake : FnScope ["_law_box_here", "_law_many_here", "_law_digit"] ["_law_box_here", "_law_many_here"] (defScope sTake) := ⟨rfl, rfl, rfl, by decide +kernel, rfl, by decide +kernel, by decide +kernel⟩
theorem ok_take (T : Txt K mg) : FnB P w K mg base CX0 2 "_law_take" spTake := by
  have G : FnB P w K mg base CX0 1 "_law_mixed" spMixed := ok_mixed T
  refine T.lTake.ok scTake (fun vs H Q E h => ?_) (fun f cdv A outer s H vs Q E hr h => ?_)
  · obtain ⟨x, m, a, b, c, rfl, _⟩ := h
    rfl
  · obtain ⟨x, m, a, b, c, rfl, hx, h0, h1, k⟩ := h
    refine ⟨_, pss_cons (ps_asg (pe_op op_add (pe_ix ix_list (pv 0) pe_int (fun _ _ => rfl)) pe_int) (pg_sub (pv 0) pe_int set_list))
      (pss_cons (ps_if (pt_cmpR op_gt (pe_ix ix_list (pv 0) pe_int (fun _ _ => rfl)) pe_int (nomark _))
        (pss_cons (ps_set (i := 2) scTake.nd rfl (.inl rfl) (pe_op op_mod (pe_callTy call_int1 (by rfl) T.b.int (by decide +kernel) (pa_cons (pe_ix ix_list (pv 0) pe_int (fun _ _ => rfl)) pa_nil)) (pv 1)))
        (pss_cons (ps_asg (pe_op op_fdivN (pe_ix ix_list (pv 0) pe_int (fun _ _ => rfl)) (pv 1)) (pg_sub (pv 0) pe_int set_list))
        (pss_one (ps_ret (pv 2))))) pss_nil)
      (pss_one (ps_ret (pe_op op_mod (pe_callTy call_int1 (by rfl) T.b.int (by decide +kernel) (pa_cons (pcall G hr pass0 (pa_cons (pe_ix ix_list (pv 0) pe_int (fun _ _ => rfl)) (pa_cons (pe_ix ix_list (pv 0) pe_int (fun _ _ => rfl)) pa_nil))) pa_nil)) (pv 1))))), ?_⟩
    have dig : ∀ i : Int, ∃ n : Nat, i % m = n ∧ (n : Int) < m := fun i => by
      have p1 := Int.emod_nonneg i (show m ≠ 0 by omega)
      have p2 := Int.emod_lt_of_pos i h0
      exact ⟨(i % m).toNat, by omega, by omega⟩
    refine ⟨_, rfl, x, _, 2, _, rfl, rfl, SqL.of hx, atI_nat (j := 2) rfl, _, _, rfl, rfl, ?_⟩
    refine ⟨_, rfl, x, _, 2, 2, rfl, rfl, hx, ixN_n (n := 3) (j := 2) (by decide), ?_⟩
    have e1 : (upd H x (.lst ([V.int a, .int b, .int c].set 2 (.int (c + 1))))) x = some (BX a b (c + 1)) := upd_same
    refine ⟨_, rfl, x, _, 0, _, rfl, rfl, SqL.of e1, atI_nat (j := 0) rfl, _, _, rfl, rfl, _, rfl, ?_⟩
    by_cases ha : 0 < a
    · refine if_t (decide_eq_true ha) ?_
      obtain ⟨n, en, hn⟩ := dig a
      refine ⟨_, rfl, x, _, 0, _, rfl, rfl, SqL.of e1, atI_nat (j := 0) rfl, .inl ⟨_, rfl, _, rfl, _, _, rfl, rfl, h0, ?_⟩⟩
      refine ⟨_, rfl, x, _, 0, _, rfl, rfl, SqL.of e1, atI_nat (j := 0) rfl, _, rfl, _, _, rfl, rfl, ⟨by omega, by omega⟩, ?_⟩
      refine ⟨_, rfl, x, _, 0, 0, rfl, rfl, e1, ixN_n (n := 3) (j := 0) (by decide), ?_⟩
      rw [upd_upd]
      refine ⟨_, rfl, ?_⟩
      show Q (.int (a % m)) _
      rw [en]
      exact k _ _ _ n hn
    · refine if_f (decide_eq_false ha) ?_
      refine ⟨_, rfl, x, _, 1, _, rfl, rfl, SqL.of e1, atI_nat (j := 1) rfl, _, rfl, x, _, 2, _, rfl, rfl, SqL.of e1, atI_nat (j := 2) rfl, _, _, rfl, fun r => .inl ⟨_, rfl, _, rfl, _, _, rfl, rfl, h0, ?_⟩⟩
      obtain ⟨n, en, hn⟩ := dig r
      show Q (.int (r % m)) _
      rw [en]
      exact k _ _ _ n hn
end
end FK
set_option Elab.async false
set_option linter.all false
set_option maxRecDepth 100000
set_option maxHeartbeats 4000000
set_option pp.maxSteps 400
namespace FK
open PySem PySem.Spec PyProof.Rows L2
theorem sqL_upd {K : PySem.W.Frag} {H : Hp} {a p : Addr} {xs : List V} {o : HO} (h : SqL K H a xs) (hp : H p = none) : SqL K (upd H p o) a xs := (Same.upd hp).seq h
theorem abc_one {k : Nat} (h : k < 26) : ∃ ch, atI abc.cps.toList (k : Int) = some ch ∧ ch ∈ abc.cps.toList := by
  have hl : abc.cps.toList.length = 26 := by decide +kernel
  have hk : k < abc.cps.toList.length := by rw [hl]; exact h
  exact ⟨abc.cps.toList[k], atI_nat (List.getElem?_eq_getElem hk), List.getElem_mem hk⟩
theorem cps_snoc (z : Str) (ch : Nat) : (z ++ (⟨#[ch]⟩ : Str)).cps.toList = z.cps.toList ++ [ch] := by
  rw [PySem.Str.cps_append]
  simp
section
variable {P : Program} {w : World} {K : PySem.W.Frag} {mg : Str → Option Value} {base : Heap} {c : Cs}
/-! _law_box -/
def spBox (K : PySem.W.Frag) : Sp := fun vs H Q _ => ∃ (a : Addr) (k : Nat) (ns : List Int), vs = [.ref a, .int (k : Nat)] ∧ SqL K H a (ns.map V.int) ∧ ns.length ≤ 63 ∧ ∀ H' x a b c, Same H H' → H x = none → H' x = some (BX a b c) → Q (.ref x) H'
abbrev sBox : Stmt := topS 37
theorem scBox : FnScope ["_law_script", "_law_k", "_law_seed", "_law_cell", "_law_rest"] ["_law_script", "_law_k"] (defScope sBox) := ⟨rfl, rfl, rfl, by decide +kernel, rfl, by decide +kernel, by decide +kernel⟩
theorem ok_box (T : Txt K mg) : FnB P w K mg base CX0 1 "_law_box" (spBox K) := by
  refine T.lBox.ok scBox (fun vs H Q E h => ?_) (fun f cdv A outer s H vs Q E hr h => ?_)
  · obtain ⟨a, k, ns, rfl, _⟩ := h
    rfl
  · obtain ⟨a, k, ns, rfl, ha, hn, q⟩ := h
    refine ⟨_, pss_cons (ps_set (i := 2) scBox.nd rfl (.inl rfl) (pe_op op_add pe_int (pe_op op_mul pe_int (pv 1))))
      (pss_cons (ps_for PassesOwn.never rfl (pi_list (pe_slice sl_list (pv 0) po_none (po_some pe_int))) (pg_name (i := 3) scBox.nd rfl (.inl rfl))
        (pss_one (ps_set (i := 2) scBox.nd rfl (.inl rfl) (pe_op op_mod (pe_callTy call_int1 (by rfl) T.b.int (by decide +kernel) (pa_cons (pe_op op_add (pe_op op_mul (pv 2) pe_int) (pv 3)) pa_nil)) pe_int))))
      (pss_cons (ps_set (i := 4) scBox.nd rfl (.inl rfl) pe_int)
      (pss_cons (ps_if (PW.pt (pw_and (pt_cmpR op_lt (pv 1) (pe_callB call_len_seq (by rfl) T.b.len (by decide +kernel) (pa_cons (pv 0) pa_nil)) (nomark _)) (pw_and1 (pt_cmpR op_ge (pe_ix ix_list (pv 0) (pv 1) (fun _ _ => rfl)) (pe_op op_pow pe_int pe_int) (nomark _)))))
        (pss_one (ps_set (i := 4) scBox.nd rfl (.inl rfl) (pe_op op_sub (pe_ix ix_list (pv 0) (pv 1) (fun _ _ => rfl)) (pe_op op_pow pe_int pe_int)))) pss_nil)
      (pss_one (ps_ret (pe_lst (pa_cons (pv 4) (pa_cons (pv 2) (pa_cons pe_int pa_nil))))))))), ?_⟩
    refine ⟨_, rfl, _, _, rfl, rfl, .inl ⟨by decide, by decide⟩, _, _, rfl, rfl, ?_⟩
    refine ⟨_, rfl, _, rfl, a, _, rfl, ha, fun p hp => ?_⟩
    rw [show (63 : Int) = ((63 : Nat) : Int) from rfl, cutV_take]
    have et : (ns.map V.int).take 63 = ns.map V.int := List.take_of_length_le (by rw [List.length_map]; exact hn)
    rw [et]
    refine ⟨p, rfl, ⟨_, SqL.of upd_same⟩, for_it (walk_list (xs := ns.map V.int)) (fun i σ H' => ∃ s x1 x2, σ = [some (.ref a), some (.int (k : Nat)), some (.int s), x1, x2] ∧ H' = upd H p (.lst (ns.map V.int))) ⟨_, none, none, rfl, rfl⟩ ?_ ?_ ?_⟩
    · rintro i σ H' _ ⟨s, x1, x2, rfl, rfl⟩
      exact SqL.of upd_same
    · rintro i x σ H3 H3' hi ⟨s, x1, x2, rfl, rfl⟩ ⟨rfl, hx⟩
      rw [List.getElem?_map] at hx
      obtain ⟨z, hz, rfl⟩ := Option.map_eq_some_iff.mp hx
      exact ⟨_, rfl, _, _, rfl, rfl, .inr ⟨by decide, by decide⟩, _, rfl, _, _, rfl, rfl, .inl ⟨_, rfl, _, _, rfl, rfl, (by show (0 : Int) < 2147483647; decide), _, _, _, rfl, rfl⟩⟩
    · rintro σ H3 ⟨s, x1, x2, rfl, rfl⟩
      have ha2 : SqL K (upd H p (.lst (ns.map V.int))) a (ns.map V.int) := sqL_upd ha hp
      have s1 : Same H (upd H p (.lst (ns.map V.int))) := Same.upd hp
      generalize upd H p (.lst (ns.map V.int)) = H2 at ha2 s1 ⊢
      refine ⟨_, rfl, _, rfl, a, _, rfl, .inl ha2, _, _, rfl, rfl, _, rfl, ?_⟩
      by_cases hk : k < ns.length
      · refine if_t (decide_eq_true (by rw [List.length_map]; omega)) ?_
        have hat : atI (ns.map V.int) (k : Int) = some (.int ns[k]) := atI_nat (by rw [List.getElem?_map, List.getElem?_eq_getElem hk]; rfl)
        refine ⟨_, rfl, _, rfl, a, _, _, _, rfl, rfl, ha2, hat, _, _, rfl, rfl, ⟨by decide, by decide, by decide⟩, _, _, rfl, rfl, _, rfl, ?_⟩
        by_cases hb : (10 : Int) ^ (18 : Int).toNat ≤ ns[k]
        · refine if_t (decide_eq_true hb) ⟨_, rfl, _, rfl, a, _, _, _, rfl, rfl, ha2, hat, _, _, rfl, rfl, ⟨by decide, by decide, by decide⟩, _, _, rfl, rfl, ?_⟩
          exact ⟨_, rfl, _, rfl, (by show 3 ≤ sizeLine; decide), fun x hx => q _ x _ _ _ (s1.upd' hx) (s1.free hx) upd_same⟩
        · refine if_f (decide_eq_false hb) ?_
          exact ⟨_, rfl, _, rfl, (by show 3 ≤ sizeLine; decide), fun x hx => q _ x _ _ _ (s1.upd' hx) (s1.free hx) upd_same⟩
      · refine if_f (decide_eq_false (by rw [List.length_map]; omega)) ?_
        exact ⟨_, rfl, _, rfl, (by show 3 ≤ sizeLine; decide), fun x hx => q _ x _ _ _ (s1.upd' hx) (s1.free hx) upd_same⟩
/-! _law_word -/
def spWord : Sp := fun vs H Q _ => ∃ (x : Addr) (n : Nat) (a b c : Int), vs = [.ref x, .int (n : Nat)] ∧ H x = some (BX a b c) ∧ n ≤ 8 ∧
  ∀ (a b c : Int) (z : Str), z.length = n → (∀ ch ∈ z.cps.toList, ch ∈ abc.cps.toList) → Q (.str z) (upd H x (BX a b c))
abbrev sWord : Stmt := topS 39
theorem scWord : FnScope ["_law_box_here", "_law_size", "_law_word_here", "_law_k"] ["_law_box_here", "_law_size"] (defScope sWord) := ⟨rfl, rfl, rfl, by decide +kernel, rfl, by decide +kernel, by decide +kernel⟩
theorem ok_word (T : Txt K mg) : FnB P w K mg base CX0 3 "_law_word" spWord := by
  have G : FnB P w K mg base CX0 2 "_law_take" spTake := ok_take T
  refine T.lWord.ok scWord (fun vs H Q E h => ?_) (fun f cdv A outer s H vs Q E hr h => ?_)
  · obtain ⟨x, n, a, b, c, rfl, _⟩ := h
    rfl
  · obtain ⟨x, n, a, b, c, rfl, hx, hn, k⟩ := h
    refine ⟨_, pss_cons (ps_set (i := 2) scWord.nd rfl (.inl rfl) pe_str)
      (pss_cons (ps_for PassesOwn.never rfl (pi_range1 (by rfl) T.b.range (pa_cons (pv 1) pa_nil)) (pg_name (i := 3) scWord.nd rfl (.inl rfl))
        (pss_one (ps_set (i := 2) scWord.nd rfl (.inl rfl) (pe_op op_add_str (pv 2) (pe_ix ix_str pe_str (pcall G hr pass0 (pa_cons (pv 0) (pa_cons pe_int pa_nil))) (fun _ _ => rfl))))))
      (pss_one (ps_ret (pv 2)))), ?_⟩
    refine ⟨_, rfl, n, rfl, by omega, by omega, for_it walk_range (fun i σ H' => ∃ z x1 a b c, σ = [some (.ref x), some (.int (n : Nat)), some (.str z), x1] ∧ H' = upd H x (BX a b c) ∧ z.length = i ∧ ∀ ch ∈ z.cps.toList, ch ∈ abc.cps.toList) ?_ ?_ ?_ ?_⟩
    · exact ⟨"", none, a, b, c, rfl, (upd_self hx).symm, by decide +kernel, fun ch h => by
        have : ("" : Str).cps.toList = [] := by decide +kernel
        rw [this] at h
        simp at h⟩
    · intros
      trivial
    · rintro i y σ H3 H3' hi ⟨z, x1, a, b, c, rfl, rfl, hz, hc⟩ ⟨rfl, rfl⟩
      refine ⟨_, rfl, _, rfl, x, 26, a, b, c, rfl, upd_same, by decide, by decide, fun a b c d hd => ?_⟩
      obtain ⟨ch, h1, h2⟩ := abc_one (k := d) (by omega)
      have el : (z ++ (⟨#[ch]⟩ : Str)).length = i + 1 := by
        rw [PySem.Str.length_append, hz]
        rfl
      refine ⟨_, _, ch, rfl, rfl, (by decide +kernel), h1, _, _, rfl, rfl, ?_, ?_⟩
      · rw [hz]
        have hi : i < n := by simpa using hi
        exact sz' (show i + (⟨#[ch]⟩ : Str).length ≤ 9 by show i + 1 ≤ 9; omega)
      · rw [upd_upd]
        refine ⟨_, _, a, b, c, rfl, rfl, el, fun ch' h' => ?_⟩
        rw [cps_snoc] at h'
        rcases List.mem_append.mp h' with h' | h'
        · exact hc ch' h'
        · have e : ch' = ch := by simpa using h'
          rw [e]
          exact h2
    · rintro σ H3 ⟨z, x1, a, b, c, rfl, rfl, hz, hc⟩
      exact ⟨_, rfl, k a b c z (by simpa using hz) hc⟩
/-! _law_many -/
def spMany : Sp := fun vs H Q _ => ∃ (x : Addr) (a b c : Int), vs = [.ref x] ∧ H x = some (BX a b c) ∧ ∀ (a b c : Int) (n : Nat), 1 ≤ n → n ≤ 12 → Q (.int (n : Nat)) (upd H x (BX a b c))
abbrev sMany : Stmt := topS 42
theorem scMany : FnScope ["_law_box_here", "_law_most"] ["_law_box_here"] (defScope sMany) := ⟨rfl, rfl, rfl, by decide +kernel, rfl, by decide +kernel, by decide +kernel⟩
theorem ok_many (T : Txt K mg) : FnB P w K mg base CX0 3 "_law_many" spMany := by
  have G : FnB P w K mg base CX0 2 "_law_take" spTake := ok_take T
  refine T.lMany.ok scMany (fun vs H Q E h => ?_) (fun f cdv A outer s H vs Q E hr h => ?_)
  · obtain ⟨x, a, b, c, rfl, _⟩ := h
    rfl
  · obtain ⟨x, a, b, c, rfl, hx, k⟩ := h
    refine ⟨_, pss_cons (ps_set (i := 1) scMany.nd rfl (.inl rfl) pe_int)
      (pss_cons (ps_if (pt_cmpR op_eq (pcall G hr pass0 (pa_cons (pv 0) (pa_cons pe_int pa_nil))) pe_int (nomark _)) (pss_one (ps_set (i := 1) scMany.nd rfl (.inl rfl) pe_int)) pss_nil)
      (pss_one (ps_ret (pe_op op_add pe_int (pcall G hr pass0 (pa_cons (pv 0) (pa_cons (pv 1) pa_nil))))))), ?_⟩
    refine ⟨_, rfl, x, 8, a, b, c, rfl, hx, by decide, by decide, fun a b c d hd => ⟨rfl, _, rfl, ?_⟩⟩
    have fin : ∀ (m : Int) (E' : XK), (m = 6 ∨ m = 12) → spTake [.ref x, .int m] (upd H x (BX a b c)) (fun y H2 => ∃ i j, V.int 1 = .int i ∧ y = .int j ∧ Q (.int (i + j)) H2) E' := fun m E' hm => by
      refine ⟨x, m, a, b, c, rfl, upd_same, by omega, by omega, fun a b c d hd => ⟨_, _, rfl, rfl, ?_⟩⟩
      rw [upd_upd]
      have e : (1 : Int) + (d : Nat) = ((d + 1 : Nat) : Int) := by omega
      rw [e]
      exact k a b c (d + 1) (by omega) (by omega)
    by_cases h0 : (d : Int) = 0
    · refine if_t (decide_eq_true (by rw [h0])) ⟨_, rfl, _, rfl, ?_⟩
      exact fin 12 L2.E0 (.inr rfl)
    · refine if_f (decide_eq_false fun z => h0 (by injection z)) ⟨_, rfl, _, rfl, ?_⟩
      exact fin 6 L2.E0 (.inl rfl)
end
end FK
set_option Elab.async false
set_option linter.all false
set_option maxRecDepth 100000
set_option maxHeartbeats 4000000
set_option pp.maxSteps 400
namespace FK
open PySem PySem.Spec PyProof.Rows L2
/-- what stands behind a statement may be said once -/
def tCut (t : TS) : TS := fun D σ H => ∃ Pv : L2.St → Hp → Prop, t { D with nx := Pv } σ H ∧ ∀ σ' H', Pv σ' H' → D.nx σ' H'
theorem ps_cut {X : L2.Cx} {st : Stmt} {t : TS} (h : PS X st t) : PS X st (tCut t) := by
  refine ⟨fun pins s σ H D I q => ?_⟩
  obtain ⟨Pv, q1, q2⟩ := q
  refine wpAny_mono (h.run pins s σ H { D with nx := Pv } I q1) (fun f s' z => ?_) fun _ _ z => z
  cases f with
  | next =>
    obtain ⟨σ', H', I', q'⟩ := z
    exact ⟨σ', H', I', q2 _ _ q'⟩
  | brk => exact z
  | cont => exact z
  | ret v => exact z
def lets : List Str := abc.cps.toList.map fun ch => ⟨#[ch]⟩
theorem lets_len : lets.length = 26 := by decide +kernel
theorem lets_nd : lets.Nodup := by decide +kernel
theorem lets_ok {s : Str} (h : s ∈ lets) : NameOk s := by
  obtain ⟨ch, hc, rfl⟩ := List.mem_map.mp h
  refine ⟨Nat.le_refl 1, by show 1 ≤ 8; decide, fun c h2 => ?_⟩
  have e : c = ch := by simpa using h2
  rw [e]
  exact hc
theorem pigeon {α : Type} [DecidableEq α] : ∀ (L ns : List α), L.Nodup → (∀ s ∈ L, s ∈ ns) → L.length ≤ ns.length
  | [], _, _, _ => Nat.zero_le _
  | a :: L, ns, nd, h => by
    rw [List.nodup_cons] at nd
    have ha := h a (by simp)
    have ih := pigeon L (ns.erase a) nd.2 fun s hs => by
      have ne : s ≠ a := fun e => nd.1 (e ▸ hs)
      exact (List.mem_erase_of_ne ne).mpr (h s (List.mem_cons_of_mem _ hs))
    rw [List.length_erase_of_mem ha] at ih
    have : 0 < ns.length := List.length_pos_of_mem ha
    rw [List.length_cons]
    omega
theorem free_let {ns : List Str} (h : ns.length < 26) : ∃ s r, lets.filter (fun s => decide (s ∉ ns)) = s :: r ∧ s ∈ lets ∧ s ∉ ns := by
  cases e : lets.filter (fun s => decide (s ∉ ns)) with
  | nil =>
    have := pigeon lets ns lets_nd fun s hs => by
      by_cases hn : s ∈ ns
      · exact hn
      · have : s ∈ lets.filter (fun s => decide (s ∉ ns)) := List.mem_filter.mpr ⟨hs, by simpa using hn⟩
        rw [e] at this
        simp at this
    rw [lets_len] at this
    omega
  | cons s r =>
    have hm : s ∈ lets.filter (fun s => decide (s ∉ ns)) := by rw [e]; simp
    have := List.mem_filter.mp hm
    exact ⟨s, r, rfl, this.1, by simpa using this.2⟩
def BoxAt (H : Hp) (x : Addr) : Prop := ∃ a b c : Int, H x = some (BX a b c)
section
variable {P : Program} {w : World} {K : PySem.W.Frag} {mg : Str → Option Value} {base : Heap} {c : Cs}
def spNames : Sp := fun vs H Q _ => ∃ (x : Addr) (n : Nat), vs = [.ref x, .int (n : Nat)] ∧ BoxAt H x ∧ n ≤ 12 ∧ ∀ (H' : Hp) (p : Addr) (ns : List Str), Same (ItX.dropH H x) H' → BoxAt H' x → H p = none → H' p = some (.lst (ns.map V.str)) → ns.length = n → ns.Nodup → (∀ s ∈ ns, NameOk s) → Q (.ref p) H'
abbrev sNames : Stmt := topS 40
abbrev nNames : List Str := ["_law_box_here", "_law_many_here", "_law_style", "_law_stem", "_law_names_here", "_law_k", "_law_name", "_law_one"]
theorem scNames : FnScope nNames ["_law_box_here", "_law_many_here"] (defScope sNames) := ⟨rfl, rfl, rfl, by decide +kernel, rfl, by decide +kernel, by decide +kernel⟩
theorem nat_one (d : Nat) : (1 : Int) + (d : Nat) = ((d + 1 : Nat) : Int) := by omega
theorem one_more (x : Addr) (d : Nat) : [V.ref x, V.int ((1 : Int) + (d : Nat))] = [V.ref x, V.int ((d + 1 : Nat))] := by rw [nat_one]
theorem NameOk.of {z : Str} {n : Nat} (h : z.length = n) (h1 : 1 ≤ n) (h8 : n ≤ 8) (hc : ∀ ch ∈ z.cps.toList, ch ∈ abc.cps.toList) : NameOk z := ⟨by omega, by omega, hc⟩
theorem ok_names (T : Txt K mg) : FnB P w K mg base CX0 4 "_law_names" spNames := by
  have G : FnB P w K mg base CX0 2 "_law_take" spTake := ok_take T
  have G2 : FnB P w K mg base CX0 3 "_law_word" spWord := ok_word T
  refine T.lNames.ok scNames (fun vs H Q E h => ?_) (fun f cdv A outer s H vs Q E hr h => ?_)
  · obtain ⟨x, n, rfl, _⟩ := h
    rfl
  · obtain ⟨x, n, rfl, ⟨a, b, c, hx⟩, hn, k⟩ := h
    refine ⟨_, pss_cons (ps_set (i := 2) scNames.nd rfl (.inl rfl) (pcall G (hr.mono (by decide)) pass0 (pa_cons (pv 0) (pa_cons pe_int pa_nil))))
      (pss_cons (ps_set (i := 3) scNames.nd rfl (.inl rfl) (pcall G2 hr pass0 (pa_cons (pv 0) (pa_cons (pe_op op_add pe_int (pcall G (hr.mono (by decide)) pass0 (pa_cons (pv 0) (pa_cons pe_int pa_nil)))) pa_nil))))
      (pss_cons (ps_set (i := 4) scNames.nd rfl (.inr rfl) (pe_lst pa_nil))
      (pss_cons (ps_for PassesOwn.never rfl (pi_range1 (by rfl) T.b.range (pa_cons (pv 1) pa_nil)) (pg_name (i := 5) scNames.nd rfl (.inl rfl))
        (pss_cons (ps_cut (ps_if (pt_cmpR op_eq (pv 2) pe_int (nomark _))
            (pss_one (ps_set (i := 6) scNames.nd rfl (.inl rfl) (pcall G2 hr pass0 (pa_cons (pv 0) (pa_cons pe_int pa_nil)))))
            (pss_one (ps_if (pt_cmpR op_eq (pv 2) pe_int (nomark _))
              (pss_one (ps_set (i := 6) scNames.nd rfl (.inl rfl) (pe_op op_add_str (pv 3) (pcall G2 hr pass0 (pa_cons (pv 0) (pa_cons (pcall G (hr.mono (by decide)) pass0 (pa_cons (pv 0) (pa_cons (pe_op op_sub pe_int (pe_callB call_len_str (by rfl) T.b.len (by decide +kernel) (pa_cons (pv 3) pa_nil))) pa_nil))) pa_nil))))))
              (pss_one (ps_set (i := 6) scNames.nd rfl (.inl rfl) (pcall G2 hr pass0 (pa_cons (pv 0) (pa_cons (pe_op op_add pe_int (pcall G (hr.mono (by decide)) pass0 (pa_cons (pv 0) (pa_cons pe_int pa_nil)))) pa_nil)))))))))
        (pss_cons (ps_cut (ps_if (pt_cmpR op_in_seq (pv 6) (pv 4) (by rfl))
            (pss_one (ps_set (i := 6) scNames.nd rfl (.inl rfl) (pe_ix ix_list (pe_lc (own := [("_law_one", 7)]) (g := gName 7) (tt := tTest (tOp (rIn K true) (tVar 7) (tVar 4))) (te := tVar 7) rfl scNames.nd (pi_str pe_str)
              (blkOk_by (N := nNames) (sc := defScope sNames) (by decide +kernel)) (fun _ _ _ _ _ => pg_name (i := 7) scNames.nd rfl (.inl rfl))
              (fun _ _ _ _ _ => pts_one (pt_cmpR op_notIn_seq (pv 7) (pv 4) (by rfl))) (fun _ _ _ _ _ => pv 7)) pe_int (fun _ _ => rfl)))) pss_nil))
        (pss_one (ps_expr (pe_bm PySem.F.plainAttrs_list PySem.F.slot_list_append PySem.F.type_list_append mt_append (pv 4) (pa_cons (pv 6) pa_nil)))))))
      (pss_one (ps_ret (pv 4)))))), ?_⟩
    refine ⟨_, rfl, x, 4, a, b, c, rfl, hx, by decide, by decide, fun a b c d1 hd1 => ?_⟩
    refine ⟨_, rfl, _, rfl, x, 7, a, b, c, rfl, upd_same, by decide, by decide, fun a b c d2 hd2 => ⟨_, _, rfl, rfl, ?_⟩⟩
    rw [upd_upd]
    refine ⟨x, d2 + 1, a, b, c, one_more x d2, upd_same, by omega, fun a b c stem hst hsc => ?_⟩
    rw [upd_upd]
    have R1 : Same (ItX.dropH H x) (upd H x (BX a b c)) := drop_upd
    have b1 : BoxAt (upd H x (BX a b c)) x := ⟨a, b, c, upd_same⟩
    have fr1 : ∀ l, upd H x (BX a b c) l = none → H l = none := fun l e => by
      have ne : l ≠ x := fun z => by rw [z, upd_same] at e; cases e
      rw [upd_ne ne] at e
      exact e
    generalize upd H x (BX a b c) = H1 at R1 b1 fr1 ⊢
    refine ⟨(by show 0 ≤ sizeLine; decide), fun l hl => ?_⟩
    have hl0 := fr1 l hl
    have lx : l ≠ x := fun e => by rw [e] at hl0; rw [hl0] at hx; cases hx
    have rx : ItX.dropH H x x = none := ItX.dropH_same
    have rl : ItX.dropH H x l = none := by rw [ItX.dropH_ne lx]; exact hl0
    generalize ItX.dropH H x = R at R1 rx rl k
    obtain ⟨a1, b1', c1, hx1⟩ := b1
    refine ⟨_, rfl, n, rfl, by omega, by omega, for_it walk_range (fun i σ H' => ∃ (ns : List Str) (x1 x2 x3 : Option V), σ = [some (.ref x), some (.int (n : Nat)), some (.int (d1 : Nat)), some (.str stem), some (.ref l), x1, x2, x3] ∧ Same R H' ∧ BoxAt H' x ∧ H' l = some (.lst (ns.map V.str)) ∧ ns.length = i ∧ ns.Nodup ∧ ∀ s ∈ ns, NameOk s) ?_ ?_ ?_ ?_⟩
    · exact ⟨[], none, none, none, rfl, R1.upd' hl, ⟨a1, b1', c1, (upd_ne lx.symm).trans hx1⟩, upd_same, rfl, List.nodup_nil, fun s h => by simp at h⟩
    · intros
      trivial
    · rintro i y σ H3 H3' hi ⟨ns, x1, x2, x3, rfl, R3, ⟨a3, b3, c3, hx3⟩, el, hln, hnd, hno⟩ ⟨rfl, rfl⟩
      have hi12 : i < 12 := by
        have : i < n := by simpa using hi
        omega
      refine ⟨fun σ' H' => ∃ z a b c y, σ' = [some (.ref x), some (.int (n : Nat)), some (.int (d1 : Nat)), some (.str stem), some (.ref l), some y, some (.str z), x3] ∧ H' = upd H3' x (BX a b c) ∧ NameOk z, ?_, ?_⟩
      · refine ⟨_, rfl, rfl, _, rfl, ?_⟩
        by_cases hs0 : (d1 : Int) = 0
        · refine if_t (decide_eq_true (by rw [hs0])) ⟨_, rfl, x, 1, _, _, _, rfl, hx3, by decide, fun a b c z hz hc => ?_⟩
          exact ⟨z, a, b, c, _, rfl, rfl, .of hz (by decide) (by decide) hc⟩
        · refine if_f (decide_eq_false fun z => hs0 (by injection z)) ⟨_, rfl, rfl, _, rfl, ?_⟩
          by_cases hs1 : (d1 : Int) = 1
          · refine if_t (decide_eq_true (by rw [hs1])) ?_
            refine ⟨_, rfl, _, rfl, _, rfl, _, rfl, _, rfl, sz' (show stem.length ≤ 8 by omega), _, _, rfl, rfl, x, _, _, _, _, rfl, hx3, ?_, ?_, fun a b c d hd => ?_⟩
            · show (0 : Int) < 9 - (stem.length : Nat); omega
            · show (9 : Int) - (stem.length : Nat) < 1000000; omega
            · have hd : (d : Int) < 9 - (stem.length : Nat) := hd
              refine ⟨x, d, a, b, c, rfl, upd_same, by omega, fun a b c z hz hc => ?_⟩
              refine ⟨_, _, rfl, rfl, sz' (show stem.length + z.length ≤ 8 by omega), ?_⟩
              rw [upd_upd]
              refine ⟨_, a, b, c, _, rfl, rfl, .of (n := stem.length + z.length) (PySem.Str.length_append ..) (by omega) (by omega) fun ch hch => ?_⟩
              rw [PySem.Str.cps_append, Array.toList_append] at hch
              rcases List.mem_append.mp hch with hch | hch
              · exact hsc ch hch
              · exact hc ch hch
          · refine if_f (decide_eq_false fun z => hs1 (by injection z)) ?_
            refine ⟨_, rfl, _, rfl, x, 8, _, _, _, rfl, hx3, by decide, by decide, fun a b c d hd => ⟨_, _, rfl, rfl, ?_⟩⟩
            refine ⟨x, d + 1, a, b, c, one_more x d, upd_same, by omega, fun a b c z hz hc => ?_⟩
            rw [upd_upd]
            exact ⟨z, a, b, c, _, rfl, rfl, .of hz (by omega) (by omega) hc⟩
      · rintro σ' H' ⟨z, a, b, c, y, rfl, rfl, hz⟩
        have el4 : (upd H3' x (BX a b c)) l = some (.lst (ns.map V.str)) := (upd_ne lx).trans el
        have R4 : Same R (upd H3' x (BX a b c)) := R3.at rx
        have hx4 : (upd H3' x (BX a b c)) x = some (BX a b c) := upd_same
        generalize upd H3' x (BX a b c) = H4 at el4 R4 hx4 ⊢
        refine ⟨fun σ' H' => ∃ z y x4, σ' = [some (.ref x), some (.int (n : Nat)), some (.int (d1 : Nat)), some (.str stem), some (.ref l), some y, some (.str z), x4] ∧ Same R H' ∧ BoxAt H' x ∧ H' l = some (.lst (ns.map V.str)) ∧ NameOk z ∧ z ∉ ns, ?_, ?_⟩
        · refine ⟨_, rfl, _, rfl, l, _, rfl, .inl (SqL.of el4), rfl, flat_strs _, _, rfl, ?_⟩
          have einV : (if false = true then !inV (V.str z) (ns.map V.str) else inV (V.str z) (ns.map V.str)) = decide (z ∈ ns) := inV_str z ns
          by_cases hm : z ∈ ns
          · refine if_t (by rw [einV]; exact decide_eq_true hm) ?_
            refine ⟨_, rfl, fun D hD => ?_⟩
            have Dx : D ≠ x := fun e => by rw [e, hx4] at hD; cases hD
            refine lc_it walk_str (fun i H' => Same R H' ∧ H' x = some (BX a b c) ∧ H' l = some (.lst (ns.map V.str)) ∧ H' D = some (.lst (((lets.take i).filter fun s => decide (s ∉ ns)).map V.str))) ?_ ?_ ?_ ?_
            · exact ⟨R4.upd' hD, (upd_ne Dx.symm).trans hx4, (upd_ne (ne_of_none el4 hD)).trans el4, upd_same⟩
            · intros
              trivial
            · rintro i x' H5 H5' hi ⟨R5, hx5, el5, eD⟩ ⟨rfl, ch, hch, rfl⟩
              have hch2 : lets[i]? = some ⟨#[ch]⟩ := by
                unfold lets
                rw [List.getElem?_map, Array.getElem?_toList]
                have hch' : abc.cps[i]? = some ch := hch
                rw [hch']
                rfl
              have es := take_snoc hch2
              refine ⟨rfl, _, rfl, _, rfl, l, _, rfl, .inl (SqL.of el5), rfl, flat_strs _, _, rfl, ?_⟩
              have einV2 : (if true = true then !inV (V.str ⟨#[ch]⟩) (ns.map V.str) else inV (V.str ⟨#[ch]⟩) (ns.map V.str)) = !decide ((⟨#[ch]⟩ : Str) ∈ ns) := congrArg (!·) (inV_str _ ns)
              have nD : ItX.dropH H5' D D = none := ItX.dropH_same
              have rD : R D = none := R4.free hD
              by_cases hm2 : (⟨#[ch]⟩ : Str) ∈ ns
              · refine if_f (by rw [einV2, decide_eq_true hm2]; rfl) ⟨R5, hx5, el5, ?_⟩
                rw [eD, es, List.filter_append, List.filter_cons_of_neg (by simpa using hm2)]
                simp
              · refine if_t (by rw [einV2, decide_eq_false hm2]; rfl) ⟨_, rfl, _, eD, ?_, R5.at rD, (upd_ne Dx.symm).trans hx5, ?_, ?_⟩
                · refine sz (m := 26) ?_
                  rw [List.length_map]
                  refine Nat.le_trans (List.length_filter_le _ _) ?_
                  rw [List.length_take, lets_len]
                  omega
                · rw [upd_ne (fun e => by rw [← e, el4] at hD; cases hD)]
                  exact el5
                · rw [upd_same, es, List.filter_append, List.filter_cons_of_pos (by simpa using hm2)]
                  simp
            · rintro H5 ⟨R5, hx5, el5, eD⟩
              have el26 : lets.take abc.cps.size = lets := List.take_of_length_le (by rw [lets_len]; decide +kernel)
              have eD : H5 D = some (.lst (((lets.take abc.cps.size).filter fun s => decide (s ∉ ns)).map V.str)) := eD
              rw [el26] at eD
              obtain ⟨s, r, e1, e2, e3⟩ := free_let (ns := ns) (by omega)
              rw [e1] at eD
              exact ⟨D, _, 0, .str s, rfl, rfl, SqL.of eD, atI_nat (j := 0) rfl, s, y, _, rfl, R5, ⟨_, _, _, hx5⟩, el5, lets_ok e2, e3⟩
          · refine if_f (by rw [einV]; exact decide_eq_false hm) ?_
            exact ⟨z, y, _, rfl, R4, ⟨_, _, _, hx4⟩, el4, hz, hm⟩
        · rintro σ' H' ⟨z, y, x4, rfl, R5, hb5, el5, hz, hm⟩
          refine ⟨_, rfl, .inl ⟨rfl, _, SqL.of el5⟩, _, rfl, l, _, _, rfl, rfl, el5, ?_, ?_⟩
          · refine sz (m := 12) ?_
            rw [List.length_map]
            omega
          · obtain ⟨a5, b5, c5, hx5⟩ := hb5
            refine ⟨ns ++ [z], _, _, _, rfl, R5.at rl, ⟨a5, b5, c5, (upd_ne lx.symm).trans hx5⟩, ?_, ?_, ?_, ?_⟩
            · rw [upd_same]; simp
            · simp [hln]
            · rw [List.nodup_append]
              exact ⟨hnd, by simp, fun u hu v hv => by
                have : v = z := by simpa using hv
                rw [this]
                exact fun e => hm (e ▸ hu)⟩
            · intro s hs
              rcases List.mem_append.mp hs with hs | hs
              · exact hno s hs
              · have : s = z := by simpa using hs
                rw [this]
                exact hz
    · rintro σ H3 ⟨ns, x1, x2, x3, rfl, R3, hb3, el, hln, hnd, hno⟩
      exact ⟨_, rfl, k H3 l ns R3 hb3 hl0 el (by simpa using hln) hnd hno⟩
end
end FK
set_option Elab.async false
set_option linter.all false
set_option maxRecDepth 100000
set_option maxHeartbeats 4000000
set_option pp.maxSteps 400
namespace FK
open PySem PySem.Spec PyProof.Rows L2
def SameT (H H' : Hp) : Prop := ∀ p xs, H p = some (.tup xs) → H' p = some (.tup xs)
theorem TreeAt.tup {H H' : Hp} (e : SameT H H') : ∀ {t : Tr Str} {v : V}, TreeAt H v t → TreeAt H' v t
  | .leaf s, v, h => h
  | .node l r, v, h => by
    obtain ⟨p, vl, vr, h1, h2, h3, h4⟩ := h
    exact ⟨p, vl, vr, h1, e _ _ h2, TreeAt.tup e h3, TreeAt.tup e h4⟩
theorem SameT.lst {H : Hp} {l : Addr} {ys : List V} {o : HO} (h : H l = some (.lst ys)) : SameT H (upd H l o) := fun p xs e => by
  rw [upd_ne (ne_of e h (fun z => by cases z))]
  exact e
theorem SameT.of {H H' : Hp} (h : Same H H') : SameT H H' := fun p xs e => h _ _ e
theorem SameT.trans {H H' H'' : Hp} (h : SameT H H') (h' : SameT H' H'') : SameT H H'' := fun p xs e => h' _ _ (h _ _ e)
theorem SameT.refl (H : Hp) : SameT H H := fun _ _ e => e
theorem paired_erase {α β : Type} {R : α → β → Prop} : ∀ {xs : List α} {ys : List β} (k : Nat), Paired R xs ys → Paired R (xs.eraseIdx k) (ys.eraseIdx k)
  | _, _, _, .nil => .nil
  | _, _, 0, .cons _ t => t
  | _, _, k + 1, .cons h t => .cons h (paired_erase k t)
theorem paired_at {α β : Type} {R : α → β → Prop} {xs : List α} {ys : List β} {i : Nat} (h : Paired R xs ys) (hi : i < ys.length) : ∃ x y, xs[i]? = some x ∧ ys[i]? = some y ∧ R x y := by
  have hx : i < xs.length := by rw [paired_len h]; exact hi
  obtain ⟨y, h1, h2⟩ := paired_get h (List.getElem?_eq_getElem hx)
  exact ⟨_, y, List.getElem?_eq_getElem hx, h1, h2⟩
theorem paired_leaf (H : Hp) : ∀ ns : List Str, Paired (TreeAt H) (ns.map V.str) (ns.map Tr.leaf)
  | [] => .nil
  | _ :: r => .cons rfl (paired_leaf H r)
theorem flat_leaf : ∀ ns : List Str, (ns.map Tr.leaf).flatMap Tr.leaves = ns
  | [] => rfl
  | a :: r => by
    rw [List.map_cons, List.flatMap_cons, flat_leaf r]
    rfl
theorem perm_erase {α : Type} (f : Tr α → List α) : ∀ {ts : List (Tr α)} {k : Nat} {t : Tr α}, ts[k]? = some t → (ts.flatMap f).Perm (f t ++ (ts.eraseIdx k).flatMap f)
  | [], _, _, h => by simp at h
  | u :: r, 0, t, h => by
    have e : u = t := by simpa using h
    subst e
    simp
  | u :: r, k + 1, t, h => by
    have ih := perm_erase f (ts := r) (k := k) (t := t) (by simpa using h)
    simp only [List.flatMap_cons, List.eraseIdx_cons_succ]
    refine (List.Perm.append_left _ ih).trans ?_
    rw [← List.append_assoc, ← List.append_assoc]
    exact List.Perm.append_right _ List.perm_append_comm
theorem drop_erase {α : Type} (xs : List α) : xs.dropLast = xs.eraseIdx (xs.length - 1) := by
  rw [List.eraseIdx_eq_take_drop_succ, List.dropLast_eq_take, List.drop_eq_nil_of_le (by omega), List.append_nil]
theorem seqIndex_nat {k n : Nat} (h : k < n) : seqIndex? (k : Int) n = some k := (ixN_seq (ixN_n h)).1
section
variable {P : Program} {w : World} {K : PySem.W.Frag} {mg : Str → Option Value} {base : Heap} {c : Cs}
def spTree : Sp := fun vs H Q _ => ∃ (x nl : Addr) (ns : List Str), vs = [.ref x, .ref nl] ∧ BoxAt H x ∧ H nl = some (.lst (ns.map V.str)) ∧ 1 ≤ ns.length ∧ ns.length ≤ 12 ∧ ns.Nodup ∧ (∀ s ∈ ns, NameOk s) ∧
  ∀ (H' : Hp) (v : V) (t : Tr Str), Same (ItX.dropH H x) H' → BoxAt H' x → TreeAt H' v t → TreeOk t → Q v H'
abbrev sTree : Stmt := topS 41
theorem scTree : FnScope ["_law_box_here", "_law_names_here", "_law_parts", "_law_bent", "_law_k", "_law_first", "_law_second"] ["_law_box_here", "_law_names_here"] (defScope sTree) := ⟨rfl, rfl, rfl, by decide +kernel, rfl, by decide +kernel, by decide +kernel⟩
theorem ok_tree (T : Txt K mg) : FnB P w K mg base CX0 3 "_law_tree" spTree := by
  have G : FnB P w K mg base CX0 2 "_law_take" spTake := ok_take T
  refine T.lTree.ok scTree (fun vs H Q E h => ?_) (fun f cdv A outer s H vs Q E hr h => ?_)
  · obtain ⟨x, nl, ns, rfl, _⟩ := h
    rfl
  · obtain ⟨x, nl, ns, rfl, ⟨a, b, c, hx⟩, hnl, h1, h12, hnd, hno, k⟩ := h
    refine ⟨_, pss_cons (ps_set (i := 2) scTree.nd rfl (.inl rfl) (pe_callTy call_list_of (by rfl) T.b.list (by decide +kernel) (pa_cons (pv 1) pa_nil)))
      (pss_cons (ps_set (i := 3) scTree.nd rfl (.inl rfl) (pcall G hr pass0 (pa_cons (pv 0) (pa_cons pe_int pa_nil))))
      (pss_cons (ps_for PassesOwn.never rfl (pi_range1 (by rfl) T.b.range (pa_cons (pe_op op_sub (pe_callB call_len_seq (by rfl) T.b.len (by decide +kernel) (pa_cons (pv 1) pa_nil)) pe_int) pa_nil)) (pg_name (i := 4) scTree.nd rfl (.inl rfl))
        (pss_cons (ps_cut (ps_if (pt_cmpR op_eq (pv 3) pe_int (nomark _))
            (pss_one (ps_set (i := 5) scTree.nd rfl (.inl rfl) (pe_bm0 PySem.F.plainAttrs_list PySem.F.slot_list_pop PySem.F.type_list_pop mt_pop (pv 2))))
            (pss_one (ps_set (i := 5) scTree.nd rfl (.inl rfl) (pe_bm PySem.F.plainAttrs_list PySem.F.slot_list_pop PySem.F.type_list_pop mt_popAt (pv 2) (pa_cons (pcall G hr pass0 (pa_cons (pv 0) (pa_cons (pe_callB call_len_seq (by rfl) T.b.len (by decide +kernel) (pa_cons (pv 2) pa_nil)) pa_nil))) pa_nil))))))
        (pss_cons (ps_set (i := 6) scTree.nd rfl (.inl rfl) (pe_bm PySem.F.plainAttrs_list PySem.F.slot_list_pop PySem.F.type_list_pop mt_popAt (pv 2) (pa_cons (pcall G hr pass0 (pa_cons (pv 0) (pa_cons (pe_callB call_len_seq (by rfl) T.b.len (by decide +kernel) (pa_cons (pv 2) pa_nil)) pa_nil))) pa_nil)))
        (pss_one (ps_if (pt_cmpR op_eq (pcall G hr pass0 (pa_cons (pv 0) (pa_cons pe_int pa_nil))) pe_int (nomark _))
          (pss_one (ps_expr (pe_bm PySem.F.plainAttrs_list PySem.F.slot_list_append PySem.F.type_list_append mt_append (pv 2) (pa_cons (pe_tup (pa_cons (pv 5) (pa_cons (pv 6) pa_nil))) pa_nil))))
          (pss_one (ps_expr (pe_bm PySem.F.plainAttrs_list PySem.F.slot_list_append PySem.F.type_list_append mt_append (pv 2) (pa_cons (pe_tup (pa_cons (pv 6) (pa_cons (pv 5) pa_nil))) pa_nil)))))))))
      (pss_one (ps_ret (pe_ix ix_list (pv 2) pe_int (fun _ _ => rfl)))))), ?_⟩
    have nlx : nl ≠ x := fun e => by
      rw [e, hx] at hnl
      cases ns with
      | nil => simp at h1
      | cons s r =>
        have e2 := Option.some.inj hnl
        injection e2 with e2
        simp at e2
    refine ⟨_, rfl, nl, _, rfl, .inl (SqL.of hnl), fun l hl => ?_⟩
    have lx : l ≠ x := fun e => by rw [e, hx] at hl; cases hl
    have lnl : nl ≠ l := fun e => by rw [← e, hnl] at hl; cases hl
    refine ⟨_, rfl, x, 3, a, b, c, rfl, (upd_ne lx.symm).trans hx, by decide, by decide, fun a b c d1 hd1 => ?_⟩
    have R1 : Same (ItX.dropH H x) (upd (upd H l (.lst (ns.map V.str))) x (BX a b c)) := by
      have r1 : Same (ItX.dropH H x) (upd H l (.lst (ns.map V.str))) := fun b o e => by
        have ne : b ≠ x := fun z => by rw [z, ItX.dropH_same] at e; cases e
        rw [ItX.dropH_ne ne] at e
        exact (Same.upd hl) b o e
      exact r1.at ItX.dropH_same
    have e1 : (upd (upd H l (.lst (ns.map V.str))) x (BX a b c)) l = some (.lst (ns.map V.str)) := by rw [upd_ne lx, upd_same]
    have e2 : (upd (upd H l (.lst (ns.map V.str))) x (BX a b c)) nl = some (.lst (ns.map V.str)) := by rw [upd_ne nlx, upd_ne lnl]; exact hnl
    have e3 : (upd (upd H l (.lst (ns.map V.str))) x (BX a b c)) x = some (BX a b c) := upd_same
    generalize upd (upd H l (.lst (ns.map V.str))) x (BX a b c) = H1 at R1 e1 e2 e3 ⊢
    have rl : ItX.dropH H x l = none := by rw [ItX.dropH_ne lx]; exact hl
    have rx : ItX.dropH H x x = none := ItX.dropH_same
    generalize ItX.dropH H x = R at R1 rl rx k
    refine ⟨_, rfl, nl, _, rfl, .inl (SqL.of e2), _, _, rfl, rfl, (ns.length : Int) - 1, ?_, by omega, by omega, ?_⟩
    · rw [List.length_map]
    have en : ((ns.length : Int) - 1).toNat = ns.length - 1 := by omega
    rw [en]
    refine for_it walk_range (fun i σ H' => ∃ (vs : List V) (ts : List (Tr Str)) (x1 x2 x3 : Option V), σ = [some (.ref x), some (.ref nl), some (.ref l), some (.int (d1 : Nat)), x1, x2, x3] ∧ Same R H' ∧ BoxAt H' x ∧ H' l = some (.lst vs) ∧ Paired (TreeAt H') vs ts ∧ (ts.flatMap Tr.leaves).Perm ns ∧ ts.length + i = ns.length) ?_ ?_ ?_ ?_
    · exact ⟨ns.map V.str, ns.map Tr.leaf, none, none, none, rfl, R1, ⟨a, b, c, e3⟩, e1, paired_leaf _ ns, by rw [flat_leaf], by simp⟩
    · intros
      trivial
    · rintro i y σ H3 H3' hi ⟨vs, ts, x1, x2, x3, rfl, R3, ⟨a3, b3, c3, hx3⟩, el, hp, hperm, hlen⟩ ⟨rfl, rfl⟩
      have vlen := paired_len hp
      refine ⟨fun σ' H' => ∃ (v1 : V) (t1 : Tr Str) (j : Nat) (y : V), σ' = [some (.ref x), some (.ref nl), some (.ref l), some (.int (d1 : Nat)), some y, some v1, x3] ∧ Same R H' ∧ BoxAt H' x ∧ SameT H3' H' ∧ H' l = some (.lst (vs.eraseIdx j)) ∧ ts[j]? = some t1 ∧ TreeAt H3' v1 t1, ?_, ?_⟩
      · refine ⟨_, rfl, rfl, _, rfl, ?_⟩
        by_cases hs0 : (d1 : Int) = 0
        · refine if_t (decide_eq_true (by rw [hs0])) ?_
          obtain ⟨v1, t1, q1, q2, q3⟩ := paired_at (i := ts.length - 1) hp (by omega)
          refine ⟨_, rfl, .inl ⟨rfl, _, SqL.of el⟩, l, _, v1, rfl, rfl, el, by rw [vlen]; exact q1, ?_⟩
          refine ⟨v1, t1, ts.length - 1, _, rfl, R3.at rl, ⟨a3, b3, c3, (upd_ne lx.symm).trans hx3⟩, SameT.lst el, ?_, q2, q3⟩
          rw [upd_same, drop_erase, vlen]
        · refine if_f (decide_eq_false fun z => hs0 (by injection z)) ?_
          refine ⟨_, rfl, .inl ⟨rfl, _, SqL.of el⟩, _, rfl, _, rfl, l, _, rfl, .inl (SqL.of el), x, _, a3, b3, c3, rfl, hx3, ?_, ?_, fun a b c d hd => ?_⟩
          · show (0 : Int) < (vs.length : Nat); omega
          · show ((vs.length : Nat) : Int) < 1000000; omega
          · have hd : (d : Int) < (vs.length : Nat) := hd
            obtain ⟨v1, t1, q1, q2, q3⟩ := paired_at (i := d) hp (by omega)
            have el2 : (upd H3' x (BX a b c)) l = some (.lst vs) := (upd_ne lx).trans el
            refine ⟨l, _, d, d, v1, rfl, rfl, el2, by omega, by omega, seqIndex_nat (by omega), q1, ?_⟩
            refine ⟨v1, t1, d, _, rfl, (R3.at rx).at rl, ⟨a, b, c, by rw [upd_ne lx.symm, upd_same]⟩, (SameT.lst hx3).trans (SameT.lst el2), upd_same, q2, q3⟩
      · rintro σ' H' ⟨v1, t1, j, y, rfl, R4, ⟨a4, b4, c4, hx4⟩, st4, el4, hj1, ht1⟩
        have hp4 : Paired (TreeAt H') (vs.eraseIdx j) (ts.eraseIdx j) := paired_imp (fun _ _ h => h.tup st4) (paired_erase j hp)
        have ht1' := ht1.tup st4
        have hj := (List.getElem?_eq_some_iff.mp hj1).1
        have l4 : (ts.eraseIdx j).length = ts.length - 1 := List.length_eraseIdx_of_lt hj
        have v4 := paired_len hp4
        have hi' : i < ns.length - 1 := hi
        refine ⟨_, rfl, .inl ⟨rfl, _, SqL.of el4⟩, _, rfl, _, rfl, l, _, rfl, .inl (SqL.of el4), x, _, a4, b4, c4, rfl, hx4, ?_, ?_, fun a b c d hd => ?_⟩
        · show (0 : Int) < ((vs.eraseIdx j).length : Nat); omega
        · show (((vs.eraseIdx j).length : Nat) : Int) < 1000000; omega
        have hd : (d : Int) < ((vs.eraseIdx j).length : Nat) := hd
        obtain ⟨v2, t2, q1, q2, q3⟩ := paired_at (i := d) hp4 (by omega)
        have el5 : (upd H' x (BX a b c)) l = some (.lst (vs.eraseIdx j)) := (upd_ne lx).trans el4
        refine ⟨l, _, d, d, v2, rfl, rfl, el5, by omega, by omega, seqIndex_nat (by omega), q1, ?_⟩
        have st5 : SameT H' (upd (upd H' x (BX a b c)) l (.lst ((vs.eraseIdx j).eraseIdx d))) := (SameT.lst hx4).trans (SameT.lst el5)
        have R5 : Same R (upd (upd H' x (BX a b c)) l (.lst ((vs.eraseIdx j).eraseIdx d))) := (R4.at rx).at rl
        have el6 : (upd (upd H' x (BX a b c)) l (.lst ((vs.eraseIdx j).eraseIdx d))) l = some (.lst ((vs.eraseIdx j).eraseIdx d)) := upd_same
        have hx6 : (upd (upd H' x (BX a b c)) l (.lst ((vs.eraseIdx j).eraseIdx d))) x = some (BX a b c) := by rw [upd_ne lx.symm, upd_same]
        generalize upd (upd H' x (BX a b c)) l (.lst ((vs.eraseIdx j).eraseIdx d)) = H6 at st5 R5 el6 hx6 ⊢
        have hp6 : Paired (TreeAt H6) ((vs.eraseIdx j).eraseIdx d) ((ts.eraseIdx j).eraseIdx d) := paired_imp (fun _ _ h => h.tup st5) (paired_erase d hp4)
        have ht1'' := ht1'.tup st5
        have ht2'' := q3.tup st5
        have hd2 := (List.getElem?_eq_some_iff.mp q2).1
        have l6 : ((ts.eraseIdx j).eraseIdx d).length = ts.length - 2 := by rw [List.length_eraseIdx_of_lt hd2, l4]; omega
        have v6 := paired_len hp6
        have pm1 := perm_erase Tr.leaves hj1
        have pm2 := perm_erase Tr.leaves q2
        refine ⟨_, rfl, x, 2, a, b, c, rfl, hx6, by decide, by decide, fun a b c e he => ⟨rfl, _, rfl, ?_⟩⟩
        have el7 : (upd H6 x (BX a b c)) l = some (.lst ((vs.eraseIdx j).eraseIdx d)) := (upd_ne lx).trans el6
        have st7 : SameT H6 (upd H6 x (BX a b c)) := SameT.lst hx6
        have R7 : Same R (upd H6 x (BX a b c)) := R5.at rx
        have hx7 : (upd H6 x (BX a b c)) x = some (BX a b c) := upd_same
        generalize upd H6 x (BX a b c) = H7 at el7 st7 R7 hx7 ⊢
        have fin : ∀ (u1 u2 : V) (s1 s2 : Tr Str), TreeAt H7 u1 s1 → TreeAt H7 u2 s2 → (s1.leaves ++ s2.leaves).Perm (t1.leaves ++ t2.leaves) → ∀ q, H7 q = none →
            (Same R (upd (upd H7 q (.tup [u1, u2])) l (.lst ((vs.eraseIdx j).eraseIdx d ++ [.ref q]))) ∧ BoxAt (upd (upd H7 q (.tup [u1, u2])) l (.lst ((vs.eraseIdx j).eraseIdx d ++ [.ref q]))) x ∧
              (upd (upd H7 q (.tup [u1, u2])) l (.lst ((vs.eraseIdx j).eraseIdx d ++ [.ref q]))) l = some (.lst ((vs.eraseIdx j).eraseIdx d ++ [.ref q])) ∧
              Paired (TreeAt (upd (upd H7 q (.tup [u1, u2])) l (.lst ((vs.eraseIdx j).eraseIdx d ++ [.ref q])))) ((vs.eraseIdx j).eraseIdx d ++ [.ref q]) ((ts.eraseIdx j).eraseIdx d ++ [Tr.node s1 s2]) ∧
              (((ts.eraseIdx j).eraseIdx d ++ [Tr.node s1 s2]).flatMap Tr.leaves).Perm ns ∧ ((ts.eraseIdx j).eraseIdx d ++ [Tr.node s1 s2]).length + (i + 1) = ns.length) := by
          intro u1 u2 s1 s2 k1 k2 kp q hq
          have qx : q ≠ x := fun e => by rw [e, hx7] at hq; cases hq
          have ql : q ≠ l := fun e => by rw [e, el7] at hq; cases hq
          have st8 : SameT H7 (upd (upd H7 q (.tup [u1, u2])) l (.lst ((vs.eraseIdx j).eraseIdx d ++ [.ref q]))) := (SameT.of (Same.upd hq)).trans (SameT.lst ((upd_ne ql.symm).trans el7))
          refine ⟨(R7.upd' hq).at rl, ⟨a, b, c, by rw [upd_ne lx.symm, upd_ne qx.symm]; exact hx7⟩, upd_same, ?_, ?_, ?_⟩
          · refine paired_snoc (paired_imp (fun _ _ h => (h.tup st7).tup st8) hp6) ⟨q, u1, u2, rfl, ?_, k1.tup st8, k2.tup st8⟩
            rw [upd_ne ql, upd_same]
          · rw [List.flatMap_append]
            refine List.Perm.trans ?_ hperm
            refine List.Perm.trans ?_ pm1.symm
            refine List.Perm.trans ?_ (List.Perm.append_left _ pm2.symm)
            refine List.perm_append_comm.trans ?_
            rw [← List.append_assoc]
            refine List.Perm.append_right _ ?_
            simpa [Tr.leaves] using kp
          · rw [List.length_append, l6]
            show ts.length - 2 + 1 + (i + 1) = ns.length
            omega
        by_cases hs0 : (e : Int) = 0
        · refine if_t (decide_eq_true (by rw [hs0])) ?_
          refine ⟨_, rfl, .inl ⟨rfl, _, SqL.of el7⟩, _, rfl, _, rfl, (by show 2 ≤ sizeLine; decide), fun q hq => ?_⟩
          have ql : q ≠ l := fun e => by rw [e, el7] at hq; cases hq
          refine ⟨l, _, _, rfl, rfl, (upd_ne ql.symm).trans el7, sz (m := 12) (by omega), ?_⟩
          obtain ⟨f1, f2, f3, f4, f5, f6⟩ := fin v1 v2 t1 t2 (ht1''.tup st7) (ht2''.tup st7) (.refl _) q hq
          exact ⟨_, _, _, _, _, rfl, f1, f2, f3, f4, f5, f6⟩
        · refine if_f (decide_eq_false fun z => hs0 (by injection z)) ?_
          refine ⟨_, rfl, .inl ⟨rfl, _, SqL.of el7⟩, _, rfl, _, rfl, (by show 2 ≤ sizeLine; decide), fun q hq => ?_⟩
          have ql : q ≠ l := fun e => by rw [e, el7] at hq; cases hq
          refine ⟨l, _, _, rfl, rfl, (upd_ne ql.symm).trans el7, sz (m := 12) (by omega), ?_⟩
          obtain ⟨f1, f2, f3, f4, f5, f6⟩ := fin v2 v1 t2 t1 (ht2''.tup st7) (ht1''.tup st7) List.perm_append_comm q hq
          exact ⟨_, _, _, _, _, rfl, f1, f2, f3, f4, f5, f6⟩
    · rintro σ H3 ⟨vs, ts, x1, x2, x3, rfl, R3, hb3, el, hp, hperm, hlen⟩
      have tl : ts.length = 1 := by omega
      obtain ⟨t, rfl⟩ : ∃ t, ts = [t] := by
        cases ts with
        | nil => simp at tl
        | cons t r => cases r with
          | nil => exact ⟨t, rfl⟩
          | cons _ _ => simp at tl
      cases hp with
      | cons ht hr0 =>
        cases hr0
        have pm : t.leaves.Perm ns := by simpa using hperm
        refine ⟨_, rfl, l, _, 0, _, rfl, rfl, SqL.of el, atI_nat (j := 0) rfl, k H3 _ t R3 hb3 ht ⟨pm.nodup_iff.mpr hnd, by rw [pm.length_eq]; exact h12, fun s hs => hno s (pm.mem_iff.mp hs)⟩⟩
end
end FK
set_option Elab.async false
set_option linter.all false
set_option maxRecDepth 100000
set_option maxHeartbeats 4000000
set_option pp.maxSteps 400
namespace FK
open PySem PySem.Spec PyProof.Rows L2
theorem SameT.dK {H : Hp} {l : Addr} {ys : List (Key × V)} {o : HO} (h : H l = some (.dK ys)) : SameT H (upd H l o) := fun p xs e => by
  rw [upd_ne (ne_of e h (fun z => by cases z))]
  exact e
theorem val_app {kvs m : List (Key × V)} {k : Key} (h : valV kvs k = none) : valV (kvs ++ m) k = valV m k := by
  unfold valV at h ⊢
  rw [List.find?_append]
  cases e : kvs.find? (fun kv => decide (kv.1 = k)) with
  | none => rfl
  | some v => rw [e] at h; cases h
theorem ways_len {α : Type} (t : Tr α) (p : List Bool) : (t.ways p).length = t.leaves.length := by rw [← ways_fst t p, List.length_map]
theorem val_kvW_none {l : List (Str × List Bool)} {a : Str} (h : a ∉ l.map (·.1)) : valV (kvW l) (Sum.inr a : Key) = none := val_not (by
  rw [kvW_keys]
  intro q
  obtain ⟨y, hy, e⟩ := List.mem_map.mp q
  have e : y = a := by simpa using e
  exact h (e ▸ hy))
section
variable {P : Program} {w : World} {K : PySem.W.Frag} {mg : Str → Option Value} {base : Heap} {c : Cs}
/-! _law_ways -/
def spLWays (n : Nat) : Sp := fun vs H Q _ => ∃ (v : V) (t : Tr Str) (p : List Bool) (d : Addr) (kv : List (Key × V)), vs = [v, .str (S p), .ref d] ∧ TreeAt H v t ∧ t.depth ≤ n ∧ p.length + t.depth ≤ 11 ∧ t.leaves.Nodup ∧ H d = some (.dK kv) ∧
  (∀ a ∈ t.leaves, valV kv (Sum.inr a) = none) ∧ kv.length + t.leaves.length ≤ 12 ∧ Q (.ref d) (upd H d (.dK (kv ++ kvW (t.ways p))))
abbrev sLWays : Stmt := topS 43
theorem scLWays : FnScope ["_law_tree_here", "_law_way", "_law_ways_here"] ["_law_tree_here", "_law_way", "_law_ways_here"] (defScope sLWays) := ⟨rfl, rfl, rfl, by decide +kernel, rfl, by decide +kernel, by decide +kernel⟩
theorem ok_lways (T : Txt K mg) : ∀ n, FnB P w K mg base CX0 (n + 1) "_law_ways" (spLWays n) := by
  have leafC : ∀ {H : Hp} {v : V} {t : Tr Str} {s : Str}, True := trivial
  intro n
  induction n with
  | zero =>
    refine T.lWays.ok scLWays (fun vs H Q E h => ?_) (fun f cdv A outer s H vs Q E hr h => ?_)
    · obtain ⟨v, t, p, d, kv, rfl, _⟩ := h
      rfl
    · obtain ⟨v, t, p, d, kv, rfl, hv, hd, hpd, hnd, hkv, hno, hl, k⟩ := h
      have hu := hu_of hr
      refine ⟨_, pss_cons (ps_if (pt_val (pisi "str" T.b (pv 0) T.b.str (by decide +kernel))) (pss_one (ps_dput hu (pv 2) (pv 0) (pv 1) rfl)) pss_never) (pss_one (ps_ret (pv 2))), ?_⟩
      cases t with
      | leaf a =>
        have hv : v = .str a := hv
        subst hv
        refine ⟨_, rfl, _, _, _, _, true, rfl, .ty _, .base (.str _), kit_ty (by decide +kernel), _, rfl, if_t rfl ?_⟩
        have hl : kv.length + 1 ≤ 12 := hl
        refine ⟨_, rfl, _, rfl, _, rfl, d, _, rfl, DPut.k (k := Sum.inr a) hkv (sz (m := 12) (by omega)), ?_⟩
        refine ⟨_, rfl, ?_⟩
        rw [putK_new _ (hno a (by simp [Tr.leaves]))]
        exact k
      | node l r => simp [Tr.depth] at hd
  | succ n ih =>
    have G : FnB P w K mg base CX0 (n + 1) "_law_ways" (spLWays n) := ih
    refine T.lWays.ok scLWays (fun vs H Q E h => ?_) (fun f cdv A outer s H vs Q E hr h => ?_)
    · obtain ⟨v, t, p, d, kv, rfl, _⟩ := h
      rfl
    · obtain ⟨v, t, p, d, kv, rfl, hv, hd, hpd, hnd, hkv, hno, hl, k⟩ := h
      have hu := hu_of hr
      refine ⟨_, pss_cons (ps_if (pt_val (pisi "str" T.b (pv 0) T.b.str (by decide +kernel))) (pss_one (ps_dput hu (pv 2) (pv 0) (pv 1) rfl))
          (pss_cons (ps_expr (pcall G hr pass0 (pa_cons (pe_ix ix_tup (pv 0) pe_int (fun _ _ => rfl)) (pa_cons (pe_op op_add_str (pv 1) pe_str) (pa_cons (pv 2) pa_nil)))))
          (pss_one (ps_expr (pcall G hr pass0 (pa_cons (pe_ix ix_tup (pv 0) pe_int (fun _ _ => rfl)) (pa_cons (pe_op op_add_str (pv 1) pe_str) (pa_cons (pv 2) pa_nil)))))))) (pss_one (ps_ret (pv 2))), ?_⟩
      cases t with
      | leaf a =>
        have hv : v = .str a := hv
        subst hv
        refine ⟨_, rfl, _, _, _, _, true, rfl, .ty _, .base (.str _), kit_ty (by decide +kernel), _, rfl, if_t rfl ?_⟩
        have hl : kv.length + 1 ≤ 12 := hl
        refine ⟨_, rfl, _, rfl, _, rfl, d, _, rfl, DPut.k (k := Sum.inr a) hkv (sz (m := 12) (by omega)), ?_⟩
        refine ⟨_, rfl, ?_⟩
        rw [putK_new _ (hno a (by simp [Tr.leaves]))]
        exact k
      | node l r =>
        obtain ⟨q, vl, vr, rfl, hq, hvl, hvr⟩ := hv
        have hd' : max l.depth r.depth + 1 ≤ n + 1 := hd
        have hpd' : p.length + (max l.depth r.depth + 1) ≤ 11 := hpd
        have hnd' : (l.leaves ++ r.leaves).Nodup := hnd
        rw [List.nodup_append] at hnd'
        have hl' : kv.length + (l.leaves.length + r.leaves.length) ≤ 12 := by simpa [Tr.leaves] using hl
        have e0 : ("0" : Str).length = 1 := by decide +kernel
        have e1 : ("1" : Str).length = 1 := by decide +kernel
        refine ⟨_, rfl, _, _, _, _, false, rfl, .ty _, .base (.tup hq), kit_ty (by decide +kernel), _, rfl, if_f rfl ?_⟩
        refine ⟨_, rfl, q, _, 0, vl, rfl, rfl, SqT.of hq, atI_nat (j := 0) rfl, _, rfl, _, _, rfl, rfl, ?_, _, rfl, ?_⟩
        · rw [S_len, e0]; exact sz' (show p.length + 1 ≤ 12 by omega)
        rw [S_snoc0]
        refine ⟨vl, l, p ++ [false], d, kv, rfl, hvl, by omega, by simp; omega, hnd'.1, hkv, fun a ha => hno a (by simp [Tr.leaves, ha]), by omega, ?_⟩
        have st : SameT H (upd H d (.dK (kv ++ kvW (l.ways (p ++ [false]))))) := SameT.dK hkv
        refine ⟨_, rfl, q, _, 1, vr, rfl, rfl, SqT.of (st _ _ hq), atI_nat (j := 1) rfl, _, rfl, _, _, rfl, rfl, ?_, _, rfl, ?_⟩
        · rw [S_len, e1]; exact sz' (show p.length + 1 ≤ 12 by omega)
        rw [S_snoc1]
        refine ⟨vr, r, p ++ [true], d, _, rfl, hvr.tup st, by omega, by simp; omega, hnd'.2.1, upd_same, fun a ha => ?_, ?_, ?_⟩
        · rw [val_app (hno a (by simp [Tr.leaves, ha]))]
          refine val_kvW_none ?_
          rw [ways_fst]
          exact fun h => hnd'.2.2 a h a ha rfl
        · have : (kvW (l.ways (p ++ [false]))).length = l.leaves.length := by simp [kvW, ways_len]
          rw [List.length_append, this]
          omega
        · refine ⟨_, rfl, ?_⟩
          rw [upd_upd]
          have e : kv ++ kvW (l.ways (p ++ [false])) ++ kvW (r.ways (p ++ [true])) = kv ++ kvW ((Tr.node l r).ways p) := by
            rw [List.append_assoc]
            congr 1
            simp [kvW, Tr.ways]
          rw [e]
          exact k
/-! _law_book -/
structure BookAt (R : Hp) (p : Addr) (t : Tr Str) (names : List Str) : Prop where
  good : Good t names
  ex : ∃ (wd bd fd ld : Addr) (kvb : List (Key × V)), R p = some (.tup [.ref wd, .ref bd, .ref fd, .ref ld, .int ((cf (wayOf t) names).length : Nat)]) ∧ R wd = some (.dK (kvW (t.ways []))) ∧ R bd = some (.dK kvb) ∧
    (∀ a ∈ names, valV kvb (Sum.inr a) = some (.int (beg (wayOf t) names a : Nat))) ∧ FlagsAt R fd t (cf (wayOf t) names) ∧ LeavesAt R ld t
theorem BookAt.same {R R' : Hp} {p : Addr} {t : Tr Str} {names : List Str} (b : BookAt R p t names) (s : Same R R') : BookAt R' p t names := by
  obtain ⟨wd, bd, fd, ld, kvb, h1, h2, h3, h4, h5, h6⟩ := b.ex
  exact ⟨b.good, wd, bd, fd, ld, kvb, s _ _ h1, s _ _ h2, s _ _ h3, h4, h5.same s, h6.same s⟩
/-- the dict of forks, filled as the cells come -/
structure FB (R H' : Hp) (fd : Addr) (cs : List (List Bool)) : Prop where
  ex : ∃ (kv : List (Key × V)) (ad : List Bool → Addr), H' fd = some (.dK kv) ∧ (∀ f ∈ cs, valV kv (Sum.inr (S f)) = some (.ref (ad f)) ∧ H' (ad f) = some (.lst ((idxF 0 cs f).map fun (i : Nat) => V.int i)) ∧ R (ad f) = none) ∧
    (∀ f, f ∉ cs → valV kv (Sum.inr (S f)) = none) ∧ (∀ f ∈ cs, ∀ g ∈ cs, ad f = ad g → f = g) ∧ kv.length ≤ cs.length
theorem FB.dict {R H' : Hp} {fd : Addr} {cs : List (List Bool)} {d : Addr} {o : HO} {ys : List (Key × V)} (h : FB R H' fd cs) (hd : H' d = some (.dK ys)) (ne : fd ≠ d) : FB R (upd H' d o) fd cs := by
  obtain ⟨kv, ad, h1, h2, h3, h4, h5⟩ := h.ex
  refine ⟨kv, ad, (upd_ne ne).trans h1, fun f hf => ?_, h3, h4, h5⟩
  obtain ⟨a1, a2, a3⟩ := h2 f hf
  exact ⟨a1, by rw [upd_ne (ne_of a2 hd (fun z => by cases z))]; exact a2, a3⟩
theorem beg_take {W : Str → List Bool} {names : List Str} {a : Str} {i : Nat} (nd : names.Nodup) (h : names[i]? = some a) : beg W names a = (cellsOf W (names.take i)).length := by
  induction names generalizing i with
  | nil => simp at h
  | cons b r ih =>
    rw [List.nodup_cons] at nd
    cases i with
    | zero =>
      have e : b = a := by simpa using h
      subst e
      simp [beg, cellsOf]
    | succ i =>
      have h' : r[i]? = some a := by simpa using h
      have ne : b ≠ a := fun e => nd.1 (e ▸ List.mem_of_getElem? h')
      rw [List.take_succ_cons, cells_cons, List.length_append, List.length_map, List.length_range, ← ih nd.2 h']
      simp [beg, ne]
theorem mem_cf {t : Tr Str} {names : List Str} (g : Good t names) {f : List Bool} : f ∈ cf (wayOf t) names ↔ f ∈ t.forks [] := by
  constructor
  · intro h
    obtain ⟨⟨a, l⟩, hc, rfl⟩ := List.mem_map.mp h
    obtain ⟨i, hi⟩ := List.mem_iff_getElem?.mp hc
    obtain ⟨ha, hl, _⟩ := cells_inv g.nd hi
    exact way_fork t [] a _ (g.way ha) l (by simp) hl
  · intro h
    obtain ⟨a, v, k, h1, h2, rfl⟩ := fork_way t [] f h
    have ha : a ∈ names := g.mem.mpr (way_leaf h1)
    have e := wayOf_eq g.ok.nd h1
    have := cf_at (W := wayOf t) (names := names) (a := a) (l := k) ha (by rw [e]; exact h2)
    rw [e] at this
    exact List.mem_of_getElem? this
end
end FK
set_option Elab.async false
set_option linter.all false
set_option maxRecDepth 100000
set_option maxHeartbeats 4000000
set_option pp.maxSteps 400
namespace FK
open PySem PySem.Spec PyProof.Rows L2
/-- the dict of forks kv, each fork's list at ad f, as the cells cs came -/
structure FC (R H' : Hp) (fd : Addr) (cs : List (List Bool)) (kv : List (Key × V)) (ad : List Bool → Addr) : Prop where
  at_ : H' fd = some (.dK kv)
  val : ∀ f ∈ cs, valV kv (Sum.inr (S f)) = some (.ref (ad f))
  lst : ∀ f ∈ cs, H' (ad f) = some (.lst ((idxF 0 cs f).map fun (i : Nat) => V.int i))
  new : ∀ f ∈ cs, R (ad f) = none
  no : ∀ f, f ∉ cs → valV kv (Sum.inr (S f)) = none
  inj : ∀ f ∈ cs, ∀ g ∈ cs, ad f = ad g → f = g
  len : kv.length ≤ cs.length
namespace FC
variable {R H' : Hp} {fd : Addr} {cs : List (List Bool)} {kv : List (Key × V)} {ad : List Bool → Addr}
theorem keep {H2 : Hp} (h : FC R H' fd cs kv ad) (s : ∀ b o, H' b = some o → (b = fd ∨ R b = none) → H2 b = some o) : FC R H2 fd cs kv ad :=
  ⟨s _ _ h.at_ (.inl rfl), h.val, fun f hf => s _ _ (h.lst f hf) (.inr (h.new f hf)), h.new, h.no, h.inj, h.len⟩
theorem more (h : FC R H' fd cs kv ad) {l : Addr} {o : HO} (hl : H' l = none) : FC R (upd H' l o) fd cs kv ad := h.keep fun b o e _ => (Same.upd hl) b o e
theorem other (h : FC R H' fd cs kv ad) {d : Addr} {o : HO} (hd : R d ≠ none) (ne : d ≠ fd) : FC R (upd H' d o) fd cs kv ad := h.keep fun b o e z => by
  have : b ≠ d := fun q => by
    rcases z with z | z
    · exact ne (q ▸ z)
    · exact hd (q ▸ z)
  rw [upd_ne this]
  exact e
/-- a fork that was there -/
theorem old (h : FC R H' fd cs kv ad) {f0 : List Bool} (hf : f0 ∈ cs) : FC R (upd H' (ad f0) (.lst (((idxF 0 cs f0).map fun (i : Nat) => V.int i) ++ [.int (cs.length : Nat)]))) fd (cs ++ [f0]) kv ad := by
  have mem : ∀ {f}, f ∈ cs ++ [f0] → f ∈ cs := fun {f} q => by
    rcases List.mem_append.mp q with q | q
    · exact q
    · have : f = f0 := by simpa using q
      exact this ▸ hf
  have nfd : fd ≠ ad f0 := fun e => by
    have h1 := h.at_
    rw [e, h.lst f0 hf] at h1
    cases h1
  refine ⟨(upd_ne nfd).trans h.at_, fun f q => h.val f (mem q), fun f q => ?_, fun f q => h.new f (mem q), fun f q => h.no f fun z => q (List.mem_append_left _ z), fun f q g r => h.inj f (mem q) g (mem r), ?_⟩
  · rw [idx_snoc, Nat.zero_add]
    by_cases e : f0 = f
    · subst e
      rw [upd_same, if_pos rfl, List.map_append]
      rfl
    · rw [upd_ne (fun z => e (h.inj f0 hf f (mem q) z.symm)), if_neg e, List.append_nil]
      exact h.lst f (mem q)
  · rw [List.length_append]
    exact Nat.le_trans h.len (Nat.le_add_right _ _)
/-- a new fork, its list at l -/
theorem add (h : FC R H' fd cs kv ad) {f0 : List Bool} {l : Addr} (hf : f0 ∉ cs) (hl : H' l = none) (hr : R l = none) :
    FC R (upd (upd (upd H' l (.lst [])) fd (.dK (putK kv (Sum.inr (S f0)) (.ref l)))) l (.lst [.int (cs.length : Nat)])) fd (cs ++ [f0]) (putK kv (Sum.inr (S f0)) (.ref l)) (fun f => if f = f0 then l else ad f) := by
  have lfd : l ≠ fd := fun e => by rw [e, h.at_] at hl; cases hl
  have nl : ∀ f ∈ cs, ad f ≠ l := fun f q e => by
    have := h.lst f q
    rw [e, hl] at this
    cases this
  have nf : ∀ f ∈ cs, ad f ≠ fd := fun f q e => by
    have := h.lst f q
    rw [e, h.at_] at this
    cases this
  have ne : ∀ f ∈ cs, f ≠ f0 := fun f q e => hf (e ▸ q)
  have one : ∀ {f}, f ∈ [f0] → f = f0 := fun {f} q => by simpa using q
  refine ⟨?_, fun f q => ?_, fun f q => ?_, fun f q => ?_, fun f q => ?_, fun f q g r e => ?_, ?_⟩
  · rw [upd_ne lfd.symm, upd_same]
  · rw [valV_put]
    rcases List.mem_append.mp q with q | q
    · rw [if_neg (fun e => ne f q (S_inj (by injection e))), if_neg (ne f q)]
      exact h.val f q
    · rw [one q, if_pos rfl, if_pos rfl]
  · rw [idx_snoc, Nat.zero_add]
    rcases List.mem_append.mp q with q | q
    · rw [if_neg (ne f q), if_neg (fun e => ne f q e.symm), List.append_nil, upd_ne (nl f q), upd_ne (nf f q), upd_ne (nl f q)]
      exact h.lst f q
    · rw [one q, if_pos rfl, if_pos rfl, upd_same, idx_none _ _ _ hf]
      rfl
  · rcases List.mem_append.mp q with q | q
    · rw [if_neg (ne f q)]
      exact h.new f q
    · rw [one q, if_pos rfl]
      exact hr
  · have n0 : f ≠ f0 := fun e => q (by rw [e]; simp)
    rw [valV_put, if_neg (fun e => n0 (S_inj (by injection e)))]
    exact h.no f fun z => q (List.mem_append_left _ z)
  · have e : (if f = f0 then l else ad f) = (if g = f0 then l else ad g) := e
    rcases List.mem_append.mp q with q | q <;> rcases List.mem_append.mp r with r | r
    · rw [if_neg (ne f q), if_neg (ne g r)] at e
      exact h.inj f q g r e
    · rw [if_neg (ne f q), if_pos (one r)] at e
      exact absurd e (nl f q)
    · rw [if_pos (one q), if_neg (ne g r)] at e
      exact absurd e.symm (nl g r)
    · rw [one q, one r]
  · rw [putK_new _ (h.no f0 hf), List.length_append, List.length_append]
    have := h.len
    show kv.length + 1 ≤ cs.length + 1
    omega
end FC
theorem cf_snoc (W : Str → List Bool) (l : List Str) (a : Str) : cf W (l ++ [a]) = cf W l ++ (List.range (W a).length).map fun k => (W a).take k := by
  unfold cf
  rw [cells_snoc, List.map_append, List.map_map]
  rfl
theorem putK_len2 (c : List (Key × V)) (k : Key) (x : V) : (putK c k x).length ≤ c.length + 1 := by
  unfold putK
  split
  · rw [List.length_map]; omega
  · rw [List.length_append]; exact Nat.le_refl _
theorem upd_none {H : Hp} {a b : Addr} {o : HO} (h : upd H a o b = none) : b ≠ a ∧ H b = none := by
  have ne : b ≠ a := fun e => by rw [e, upd_same] at h; cases h
  rw [upd_ne ne] at h
  exact ⟨ne, h⟩
/-- how far the book is -/
structure BInv (H H5 H' : Hp) (wd bd fd ld nl : Addr) (t : Tr Str) (ys l : List Str) (cs : List (List Bool)) (kvb kvl kv : List (Key × V)) (ad : List Bool → Addr) : Prop where
  same : Same H H'
  fr : ∀ b, H' b = none → H5 b = none
  ewd : H' wd = some (.dK (kvW (t.ways [])))
  enl : H' nl = some (.lst (ys.map V.str))
  ebd : H' bd = some (.dK kvb)
  vb : ∀ a ∈ l, valV kvb (Sum.inr a) = some (.int (beg (wayOf t) ys a : Nat))
  lb : kvb.length ≤ l.length
  eld : H' ld = some (.dK kvl)
  vl : ∀ a ∈ l, valV kvl (Sum.inr (S (wayOf t a))) = some (.str a)
  nv : ∀ w, (∀ a ∈ l, wayOf t a ≠ w) → valV kvl (Sum.inr (S w)) = none
  ll : kvl.length ≤ l.length
  fc : FC H5 H' fd cs kv ad
/-- what stood in H5, apart -/
structure Five (H H5 : Hp) (wd bd fd ld nl : Addr) : Prop where
  h : ∀ b o, H b = some o → H5 b ≠ none
  f : H fd = none
  b0 : H bd = none
  l0 : H ld = none
  w5 : H5 wd ≠ none
  b5 : H5 bd ≠ none
  f5 : H5 fd ≠ none
  l5 : H5 ld ≠ none
  n5 : H5 nl ≠ none
  wf : wd ≠ fd
  bf : bd ≠ fd
  lf : ld ≠ fd
  nf : nl ≠ fd
  wb : wd ≠ bd
  wl : wd ≠ ld
  bl : bd ≠ ld
  nb : nl ≠ bd
  nl' : nl ≠ ld
theorem BInv.mono {H H5 H' H'' : Hp} {wd bd fd ld nl : Addr} {t : Tr Str} {ys l : List Str} {cs cs' : List (List Bool)} {kvb kvl kv kv' : List (Key × V)} {ad ad' : List Bool → Addr} (h : BInv H H5 H' wd bd fd ld nl t ys l cs kvb kvl kv ad) (d : Five H H5 wd bd fd ld nl)
    (K : ∀ b o, H' b = some o → H5 b ≠ none → b ≠ fd → H'' b = some o) (fr : ∀ b, H'' b = none → H5 b = none) (fc : FC H5 H'' fd cs' kv' ad') : BInv H H5 H'' wd bd fd ld nl t ys l cs' kvb kvl kv' ad' :=
  { h with same := fun b o e => K b o (h.same b o e) (d.h b o e) (ne_of_none e d.f), fr := fr, ewd := K _ _ h.ewd d.w5 d.wf, enl := K _ _ h.enl d.n5 d.nf, ebd := K _ _ h.ebd d.b5 d.bf, eld := K _ _ h.eld d.l5 d.lf, fc := fc }
section
variable {P : Program} {w : World} {K : PySem.W.Frag} {mg : Str → Option Value} {base : Heap} {c : Cs}
def spBook : Sp := fun vs H Q _ => ∃ (v : V) (t : Tr Str), vs = [v] ∧ TreeAt H v t ∧ TreeOk t ∧ ∀ (H' : Hp) (p : Addr) (names : List Str), Same H H' → H p = none → BookAt H' p t names → Q (.ref p) H'
abbrev sBook : Stmt := topS 44
abbrev nBook : List Str := ["_law_tree_here", "_law_ways_here", "_law_begins", "_law_flags", "_law_leaves", "_law_many_here", "_law_name", "_law_level", "_law_row"]
theorem scBook : FnScope nBook ["_law_tree_here"] (defScope sBook) := ⟨rfl, rfl, rfl, by decide +kernel, rfl, by decide +kernel, by decide +kernel⟩
theorem ok_book (T : Txt K mg) : FnB P w K mg base CX0 13 "_law_book" spBook := by
  have G : FnB P w K mg base CX0 12 "_law_ways" (spLWays 11) := ok_lways T 11
  refine T.lBook.ok scBook (fun vs H Q E h => ?_) (fun f cdv A outer s H vs Q E hr h => ?_)
  · obtain ⟨v, t, rfl, _⟩ := h
    rfl
  · obtain ⟨v, t, rfl, hv, hok, k⟩ := h
    have hu := hu_of hr
    refine ⟨_, pss_cons (ps_set (i := 1) scBook.nd rfl (.inl rfl) (pcall G hr pass0 (pa_cons (pv 0) (pa_cons pe_str (pa_cons pe_dnewK pa_nil)))))
      (pss_cons (ps_set (i := 2) scBook.nd rfl (.inl rfl) pe_dnewK)
      (pss_cons (ps_set (i := 3) scBook.nd rfl (.inl rfl) pe_dnewK)
      (pss_cons (ps_set (i := 4) scBook.nd rfl (.inl rfl) pe_dnewK)
      (pss_cons (ps_set (i := 5) scBook.nd rfl (.inl rfl) pe_int)
      (pss_cons (ps_for PassesOwn.never rfl (pi_list (pe_callB (call_sortedD rfl) (by rfl) T.b.sorted (by decide +kernel) (pa_cons (pv 1) pa_nil))) (pg_name (i := 6) scBook.nd rfl (.inl rfl))
        (pss_cons (ps_dput hu (pv 2) (pv 6) (pv 5) rfl)
        (pss_cons (ps_dput hu (pv 4) (pe_dget hu (pv 1) (pv 6) (fun _ _ => rfl)) (pv 6) rfl)
        (pss_one (ps_for PassesOwn.never rfl (pi_range1 (by rfl) T.b.range (pa_cons (pe_callB call_len_str (by rfl) T.b.len (by decide +kernel) (pa_cons (pe_dget hu (pv 1) (pv 6) (fun _ _ => rfl)) pa_nil)) pa_nil)) (pg_name (i := 7) scBook.nd rfl (.inl rfl))
          (pss_cons (ps_set (i := 8) scBook.nd rfl (.inl rfl) (pe_dsetd (pv 3) (pe_slice sl_str (pe_dget hu (pv 1) (pv 6) (fun _ _ => rfl)) po_none (po_some (pv 7))) (pe_lst pa_nil) ⟨rfl, rfl, rfl, rfl⟩))
          (pss_cons (ps_expr (pe_bm PySem.F.plainAttrs_list PySem.F.slot_list_append PySem.F.type_list_append mt_append (pv 8) (pa_cons (pv 5) pa_nil)))
          (pss_one (ps_set (i := 5) scBook.nd rfl (.inl rfl) (pe_op op_add (pv 5) pe_int))))))))))
      (pss_one (ps_ret (pe_tup (pa_cons (pv 1) (pa_cons (pv 2) (pa_cons (pv 3) (pa_cons (pv 4) (pa_cons (pv 5) pa_nil))))))))))))), ?_⟩
    have hdep : t.depth ≤ 11 := by
      have := depth_leaves t
      have := hok.le
      omega
    refine ⟨_, rfl, fun wd hwd => ⟨v, t, [], wd, [], by rw [S_nil]; rfl, TreeAt.same (Same.upd hwd) hv, hdep, by simpa using hdep, hok.nd, upd_same, fun _ _ => rfl, by simpa using hok.le, ?_⟩⟩
    rw [upd_upd, List.nil_append]
    intro bd hbd fd hfd ld hld
    obtain ⟨bw, hb0⟩ := upd_none hbd
    obtain ⟨fb, hfd1⟩ := upd_none hfd
    obtain ⟨fw, hf0⟩ := upd_none hfd1
    obtain ⟨lf, hld1⟩ := upd_none hld
    obtain ⟨lb, hld2⟩ := upd_none hld1
    obtain ⟨lw, hl0⟩ := upd_none hld2
    have s4 : Same H (upd (upd (upd (upd H wd (.dK (kvW (t.ways [])))) bd (.dK [])) fd (.dK [])) ld (.dK [])) := (((Same.upd hwd).upd' hbd).upd' hfd).upd' hld
    have ewd : (upd (upd (upd (upd H wd (.dK (kvW (t.ways [])))) bd (.dK [])) fd (.dK [])) ld (.dK [])) wd = some (.dK (kvW (t.ways []))) := by rw [upd_ne lw.symm, upd_ne fw.symm, upd_ne bw.symm, upd_same]
    have ebd : (upd (upd (upd (upd H wd (.dK (kvW (t.ways [])))) bd (.dK [])) fd (.dK [])) ld (.dK [])) bd = some (.dK []) := by rw [upd_ne lb.symm, upd_ne fb.symm, upd_same]
    have efd : (upd (upd (upd (upd H wd (.dK (kvW (t.ways [])))) bd (.dK [])) fd (.dK [])) ld (.dK [])) fd = some (.dK []) := by rw [upd_ne lf.symm, upd_same]
    have eld : (upd (upd (upd (upd H wd (.dK (kvW (t.ways [])))) bd (.dK [])) fd (.dK [])) ld (.dK [])) ld = some (.dK []) := upd_same
    generalize upd (upd (upd (upd H wd (.dK (kvW (t.ways [])))) bd (.dK [])) fd (.dK [])) ld (.dK []) = H4 at s4 ewd ebd efd eld ⊢
    refine ⟨_, rfl, wd, kvW (t.ways []), t.leaves, rfl, .of ewd, by rw [kvW_keys, ways_fst], by have := hok.le; omega, fun ys nl hperm hsrt hnl => ?_⟩
    have hg : Good t ys := ⟨hok, hperm, hsrt⟩
    have some_ne : ∀ {b : Addr} {o : HO}, H4 b = some o → b ≠ nl := fun {b o} e => ne_of_none e hnl
    have D5 : Five H (upd H4 nl (.lst (ys.map V.str))) wd bd fd ld nl := by
      have u : ∀ {b : Addr} {o : HO}, H4 b = some o → upd H4 nl (.lst (ys.map V.str)) b ≠ none := fun {b o} e z => by
        rw [upd_ne (some_ne e), e] at z
        cases z
      exact ⟨fun b o e => u (s4 _ _ e), hf0, hb0, hl0, u ewd, u ebd, u efd, u eld, fun z => (by rw [upd_same] at z; cases z), fw.symm, fb.symm, lf, (some_ne efd).symm, bw.symm, lw.symm, lb.symm, (some_ne ebd).symm, (some_ne eld).symm⟩
    have inv0 : BInv H (upd H4 nl (.lst (ys.map V.str))) (upd H4 nl (.lst (ys.map V.str))) wd bd fd ld nl t ys [] [] [] [] [] (fun _ => 0) := by
      refine ⟨s4.upd' hnl, fun _ e => e, (upd_ne (some_ne ewd)).trans ewd, upd_same, (upd_ne (some_ne ebd)).trans ebd, fun a h => by simp at h, Nat.le_refl _, (upd_ne (some_ne eld)).trans eld, fun a h => by simp at h, fun _ _ => rfl, Nat.le_refl _, ?_⟩
      exact ⟨(upd_ne (some_ne efd)).trans efd, fun f h => by simp at h, fun f h => by simp at h, fun f h => by simp at h, fun _ _ => rfl, fun f h => by simp at h, Nat.le_refl _⟩
    generalize upd H4 nl (.lst (ys.map V.str)) = H5 at D5 inv0 ⊢
    refine ⟨nl, rfl, ⟨_, SqL.of inv0.enl⟩, for_it (walk_list (xs := ys.map V.str)) (fun i σ H' => ∃ (x6 x7 x8 : Option V) (kvb kvl kv : List (Key × V)) (ad : List Bool → Addr), σ = [some v, some (.ref wd), some (.ref bd), some (.ref fd), some (.ref ld), some (.int ((cf (wayOf t) (ys.take i)).length : Nat)), x6, x7, x8] ∧
      BInv H H5 H' wd bd fd ld nl t ys (ys.take i) (cf (wayOf t) (ys.take i)) kvb kvl kv ad) ?_ ?_ ?_ ?_⟩
    · exact ⟨none, none, none, [], [], [], _, rfl, inv0⟩
    · rintro i σ H' _ ⟨x6, x7, x8, kvb, kvl, kv, ad, rfl, iv⟩
      exact SqL.of iv.enl
    · rintro i x σ H6 H6' hi ⟨x6, x7, x8, kvb, kvl, kv, ad, rfl, iv⟩ ⟨rfl, hx⟩
      rw [List.getElem?_map] at hx
      obtain ⟨a, ha, rfl⟩ := Option.map_eq_some_iff.mp hx
      have ham : a ∈ ys := List.mem_of_getElem? ha
      have hw := hg.wlen ham
      have hw2 := hg.way ham
      have es := take_snoc ha
      have hlen := hg.len
      have anew : a ∉ ys.take i := by
        have nd2 : (ys.take (i + 1)).Nodup := List.Nodup.sublist (List.take_sublist _ _) hg.nd
        rw [es, List.nodup_append] at nd2
        exact fun h => nd2.2.2 a h a (by simp) rfl
      have hbeg : beg (wayOf t) ys a = (cf (wayOf t) (ys.take i)).length := by rw [cf_length]; exact beg_take hg.nd ha
      have lbi : kvb.length ≤ 12 := by have := iv.lb; rw [List.length_take] at this; omega
      have lli : kvl.length ≤ 12 := by have := iv.ll; rw [List.length_take] at this; omega
      have dget : ∀ {H'' : Hp}, H'' wd = some (.dK (kvW (t.ways []))) → DGet H'' wd (.str a) (some (.str (S (wayOf t a)))) := fun {H''} e => by
        rw [← val_way hok.nd (hg.mem.mp ham)]
        exact DGet.k (k := Sum.inr a) e
      -- begins[name] = many
      refine ⟨_, rfl, _, rfl, _, rfl, bd, _, rfl, DPut.k (k := Sum.inr a) iv.ebd (sz (m := 12) lbi), ?_⟩
      -- leaves[ways[name]] = name
      refine ⟨_, rfl, _, rfl, _, rfl, _, rfl, wd, _, rfl, dget ((upd_ne D5.wb).trans iv.ewd), ld, _, rfl, DPut.k (k := Sum.inr (S (wayOf t a))) ((upd_ne D5.bl.symm).trans iv.eld) (sz (m := 12) lli), ?_⟩
      have wnew : ∀ b ∈ ys.take i, wayOf t b ≠ wayOf t a := fun b hb e => by
        have hb' := List.mem_of_mem_take hb
        have h1 := hg.way hb'
        rw [e] at h1
        have := way_inj t [] b a _ h1 hw2
        exact anew (this ▸ hb)
      have iv2 : BInv H H5 (upd (upd H6' bd (.dK (putK kvb (Sum.inr a) (.int ((cf (wayOf t) (ys.take i)).length : Nat))))) ld (.dK (putK kvl (Sum.inr (S (wayOf t a))) (.str a)))) wd bd fd ld nl t ys (ys.take (i + 1)) (cf (wayOf t) (ys.take i))
          (putK kvb (Sum.inr a) (.int ((cf (wayOf t) (ys.take i)).length : Nat))) (putK kvl (Sum.inr (S (wayOf t a))) (.str a)) kv ad := by
        refine ⟨(iv.same.at D5.b0).at D5.l0, fun b e => iv.fr b (upd_none (upd_none e).2).2, by rw [upd_ne D5.wl, upd_ne D5.wb]; exact iv.ewd, by rw [upd_ne D5.nl', upd_ne D5.nb]; exact iv.enl, by rw [upd_ne D5.bl, upd_same], fun b hb => ?_, ?_, upd_same, fun b hb => ?_, fun w hw => ?_, ?_, (iv.fc.other D5.b5 D5.bf).other D5.l5 D5.lf⟩
        · rw [es] at hb
          rw [valV_put]
          rcases List.mem_append.mp hb with hb | hb
          · have ne : b ≠ a := fun e => anew (e ▸ hb)
            rw [if_neg (fun e => ne (by injection e))]
            exact iv.vb b hb
          · have e : b = a := by simpa using hb
            rw [e, if_pos rfl, hbeg]
        · rw [es, List.length_append]
          have := putK_len2 kvb (Sum.inr a : Key) (.int ((cf (wayOf t) (ys.take i)).length : Nat))
          have := iv.lb
          show _ ≤ _ + 1
          omega
        · rw [es] at hb
          rw [valV_put]
          rcases List.mem_append.mp hb with hb | hb
          · rw [if_neg (fun e => wnew b hb (S_inj (by injection e)))]
            exact iv.vl b hb
          · have e : b = a := by simpa using hb
            rw [e, if_pos rfl]
        · rw [es] at hw
          have ne : w ≠ wayOf t a := fun e => hw a (by simp) e.symm
          rw [valV_put, if_neg (fun e => ne (S_inj (by injection e)))]
          exact iv.nv w fun b hb => hw b (List.mem_append_left _ hb)
        · rw [es, List.length_append]
          have := putK_len2 kvl (Sum.inr (S (wayOf t a)) : Key) (.str a)
          have := iv.ll
          show _ ≤ _ + 1
          omega
      generalize upd (upd H6' bd (.dK (putK kvb (Sum.inr a) (.int ((cf (wayOf t) (ys.take i)).length : Nat))))) ld (.dK (putK kvl (Sum.inr (S (wayOf t a))) (.str a))) = H7 at iv2 ⊢
      generalize putK kvb (Sum.inr a) (.int ((cf (wayOf t) (ys.take i)).length : Nat)) = kvb2 at iv2
      generalize putK kvl (Sum.inr (S (wayOf t a))) (.str a) = kvl2 at iv2
      -- the levels
      refine ⟨_, rfl, _, rfl, wd, _, rfl, dget iv2.ewd, _, rfl, sub_len (n := 11) hw, (wayOf t a).length, by rw [S_len], by omega, by omega, for_it walk_range (fun j σ H' => ∃ (x7 x8 : Option V) (kv : List (Key × V)) (ad : List Bool → Addr),
        σ = [some v, some (.ref wd), some (.ref bd), some (.ref fd), some (.ref ld), some (.int ((cf (wayOf t) (ys.take i) ++ (List.range j).map fun k => (wayOf t a).take k).length : Nat)), some (.str a), x7, x8] ∧
        BInv H H5 H' wd bd fd ld nl t ys (ys.take (i + 1)) (cf (wayOf t) (ys.take i) ++ (List.range j).map fun k => (wayOf t a).take k) kvb2 kvl2 kv ad) ?_ ?_ ?_ ?_⟩
      · refine ⟨x7, x8, kv, ad, ?_, ?_⟩
        · simp
        · simpa using iv2
      · intros
        trivial
      · rintro j y σ H8 H8' hj ⟨y7, y8, kv3, ad3, rfl, iv3⟩ ⟨rfl, hy⟩
        have hy : y = .int (j : Nat) := by rw [hy]; show V.int (0 + _) = _; rw [Int.zero_add]
        subst hy
        have hjl : j < (wayOf t a).length := by simpa using hj
        have ecs : cf (wayOf t) (ys.take i) ++ ((List.range (j + 1)).map fun k => (wayOf t a).take k) = (cf (wayOf t) (ys.take i) ++ (List.range j).map fun k => (wayOf t a).take k) ++ [(wayOf t a).take j] := by
          rw [List.range_succ, List.map_append, ← List.append_assoc]
          rfl
        have lcs : (cf (wayOf t) (ys.take i) ++ (List.range j).map fun k => (wayOf t a).take k).length ≤ 200 := by
          rw [List.length_append, List.length_map, List.length_range, cf_length]
          have h1 := cells_len (wayOf t) (ys.take i) fun b hb => hg.wlen (List.mem_of_mem_take hb)
          rw [List.length_take] at h1
          omega
        rw [ecs]
        generalize cf (wayOf t) (ys.take i) ++ ((List.range j).map fun k => (wayOf t a).take k) = cs at iv3 lcs ⊢
        have succ_len : ((cs.length : Nat) : Int) + 1 = ((cs ++ [(wayOf t a).take j]).length : Nat) := by rw [List.length_append]; show _ = ((cs.length + 1 : Nat) : Int); omega
        refine ⟨_, rfl, fd, rfl, .inl ⟨_, .of iv3.fc.at_⟩, _, rfl, _, rfl, wd, _, rfl, dget iv3.ewd, _, rfl, _, rfl, _, rfl, sub_len (n := 11) hw, (by show 0 ≤ sizeLine; decide), fun l hl => ?_⟩
        rw [S_cut]
        have l5 := iv3.fr l hl
        have lfd : fd ≠ l := fun e => D5.f5 (e ▸ l5)
        refine ⟨kv3, Sum.inr (S ((wayOf t a).take j)), (upd_ne lfd).trans iv3.fc.at_, rfl, sz (m := 200) (Nat.le_trans iv3.fc.len lcs), ?_, ?_⟩
        · intro u hu'
          by_cases hm : (wayOf t a).take j ∈ cs
          · have e := iv3.fc.val _ hm
            rw [hu'] at e
            have e : u = .ref (ad3 ((wayOf t a).take j)) := Option.some.inj e
            subst e
            have fc4 := iv3.fc.more (o := .lst []) hl
            have hl4 := fc4.lst _ hm
            refine ⟨_, rfl, .inl ⟨rfl, _, SqL.of hl4⟩, _, rfl, _, _, _, rfl, rfl, hl4, ?_, ?_⟩
            · refine sz (m := 200) ?_
              rw [List.length_map]
              exact Nat.le_trans (idx_length _ _ _) lcs
            · refine ⟨_, rfl, _, _, rfl, rfl, _, _, kv3, ad3, by rw [← succ_len]; rfl, iv3.mono D5 (fun b o e h5 hne => ?_) (fun b e => iv3.fr b (upd_none (upd_none e).2).2) (fc4.old hm)⟩
              have n1 : b ≠ ad3 ((wayOf t a).take j) := fun z => h5 (by rw [z]; exact iv3.fc.new _ hm)
              have n2 : b ≠ l := fun z => h5 (by rw [z]; exact l5)
              rw [upd_ne n1, upd_ne n2]
              exact e
          · rw [iv3.fc.no _ hm] at hu'
            cases hu'
        · intro hu'
          have hm : (wayOf t a).take j ∉ cs := fun hm => by
            rw [iv3.fc.val _ hm] at hu'
            cases hu'
          have el : (upd (upd H8' l (.lst [])) fd (.dK (putK kv3 (Sum.inr (S ((wayOf t a).take j))) (.ref l)))) l = some (.lst []) := by rw [upd_ne lfd.symm, upd_same]
          refine ⟨_, rfl, .inl ⟨rfl, _, SqL.of el⟩, _, rfl, l, _, _, rfl, rfl, el, (sz (m := 1) (by decide)), ?_⟩
          refine ⟨_, rfl, _, _, rfl, rfl, _, _, _, _, by rw [← succ_len]; rfl, iv3.mono D5 (fun b o e h5 hne => ?_) (fun b e => iv3.fr b (upd_none (upd_none (upd_none e).2).2).2) (iv3.fc.add hm hl l5)⟩
          have n2 : b ≠ l := fun z => h5 (by rw [z]; exact l5)
          rw [upd_ne n2, upd_ne hne, upd_ne n2]
          exact e
      · rintro σ H8 ⟨y7, y8, kv3, ad3, rfl, iv3⟩
        have e : cf (wayOf t) (ys.take (i + 1)) = cf (wayOf t) (ys.take i) ++ (List.range (wayOf t a).length).map fun k => (wayOf t a).take k := by rw [es, cf_snoc]
        refine ⟨some (.str a), y7, y8, kvb2, kvl2, kv3, ad3, ?_, ?_⟩
        · rw [e]
          rfl
        · rw [e]
          exact iv3
    · rintro σ H6 ⟨x6, x7, x8, kvb, kvl, kv, ad, rfl, iv⟩
      rw [List.length_map, List.take_length] at iv
      have el : (cf (wayOf t) (ys.take (ys.map V.str).length)).length = (cf (wayOf t) ys).length := by rw [List.length_map, List.take_length]
      rw [el]
      refine ⟨_, rfl, _, rfl, _, rfl, _, rfl, _, rfl, (by show 5 ≤ sizeLine; decide), fun q hq => ?_⟩
      have sq : Same H6 (upd H6 q (.tup [.ref wd, .ref bd, .ref fd, .ref ld, .int ((cf (wayOf t) ys).length : Nat)])) := Same.upd hq
      refine k _ q ys (iv.same.trans sq) (iv.same.free hq) ⟨hg, wd, bd, fd, ld, kvb, upd_same, sq _ _ iv.ewd, sq _ _ iv.ebd, iv.vb, ⟨kv, sq _ _ iv.fc.at_, fun f hf => ?_, fun w hw => iv.fc.no w fun h => hw ((mem_cf hg).mp h)⟩, ⟨kvl, sq _ _ iv.eld, fun a w haw => ?_, fun w hw => iv.nv w fun a ha e => hw a (e ▸ hg.way ha)⟩⟩
      · have hf' := (mem_cf hg).mpr hf
        exact ⟨ad f, iv.fc.val f hf', sq _ _ (iv.fc.lst f hf')⟩
      · have ha : a ∈ ys := hg.mem.mpr (way_leaf haw)
        have := iv.vl a ha
        rw [wayOf_eq hok.nd haw] at this
        exact this
end
end FK
set_option Elab.async false
set_option linter.all false
set_option maxRecDepth 100000
set_option maxHeartbeats 4000000
set_option pp.maxSteps 400
namespace FK
open PySem PySem.Spec PyProof.Rows L2
theorem bit_at (b : Bool) : atI ("01" : Str).cps.toList (b01 b) = some (bitc b) := by cases b <;> decide +kernel
theorem bit_int (b : Bool) : PySem.intText? (S [b]) = some (b01 b) := by cases b <;> decide +kernel
theorem tell_short {t : Tr Str} (ok : TreeOk t) : t.depth ≤ 11 := by
  have := depth_leaves t
  have := ok.le
  omega
section
variable {P : Program} {w : World} {K : PySem.W.Frag} {mg : Str → Option Value} {base : Heap} {c : Cs}
/-! _law_side -/
def spSide : Sp := fun vs H Q _ => ∃ (b q : Addr) (f : List Bool) (st : List Int) (t : Tr Str) (names : List Str), vs = [.ref b, .ref q, .str (S f)] ∧ BookAt H b t names ∧ TupAt H q st ∧ StOk t names st ∧ f ∈ t.forks [] ∧
  ∀ H', Same H H' → Q (.int (b01 (brd (cf (wayOf t) names) st f))) H'
abbrev sSide : Stmt := topS 45
theorem scSide : FnScope ["_law_book_here", "_law_state_here", "_law_fork", "_law_at"] ["_law_book_here", "_law_state_here", "_law_fork"] (defScope sSide) := ⟨rfl, rfl, rfl, by decide +kernel, rfl, by decide +kernel, by decide +kernel⟩
theorem ok_side (T : Txt K mg) : FnB P w K mg base CX0 1 "_law_side" spSide := by
  refine T.lSide.ok scSide (fun vs H Q E h => ?_) (fun f cdv A outer s H vs Q E hr h => ?_)
  · obtain ⟨b, q, f, st, t, names, rfl, _⟩ := h
    rfl
  · obtain ⟨b, q, f, st, t, names, rfl, hb, hq, hst, hf, k⟩ := h
    obtain ⟨wd, bd, fd, ld, kvb, h1, h2, h3, h4, h5, h6⟩ := hb.ex
    obtain ⟨kv, hkv, hfk, _⟩ := h5.ex
    obtain ⟨fa, hva, hfa⟩ := hfk f hf
    have hu := hu_of hr
    refine ⟨_, pss_one (ps_ret (pe_op op_mod (pe_callTy call_int1 (by rfl) T.b.int (by decide +kernel) (pa_cons (pe_callB (cr_sum rfl) (by rfl) T.b.sum (by decide +kernel) (pa_cons
      (pe_lc (own := [("_law_at", 3)]) (g := gName 3) (tt := tYes) (te := tOp (rIxT K) (tVar 1) (tVar 3)) rfl scSide.nd (pi_list (pe_dget hu (pe_ix ix_tup (pv 0) pe_int (fun _ _ => rfl)) (pv 2) (fun _ _ => rfl)))
        (blkOk_by (N := ["_law_book_here", "_law_state_here", "_law_fork", "_law_at"]) (sc := defScope sSide) (by decide +kernel))
        (fun _ _ _ _ _ => pg_name (i := 3) scSide.nd rfl (.inl rfl)) (fun _ _ _ _ _ => pts_nil) (fun _ _ _ _ _ => pe_ix ix_tup (pv 1) (pv 3) (fun _ _ => rfl))) pa_nil)) pa_nil)) pe_int)), ?_⟩
    refine ⟨_, rfl, b, _, 2, _, rfl, rfl, SqT.of h1, atI_nat (j := 2) rfl, _, rfl, fd, _, rfl, by rw [← hva]; exact DGet.k (k := Sum.inr (S f)) hkv, ?_⟩
    refine ⟨fa, rfl, ⟨_, SqL.of hfa⟩, fun D hD => ?_⟩
    refine lc_it (walk_list (xs := (idxF 0 (cf (wayOf t) names) f).map fun (i : Nat) => V.int i)) (fun i H' => Same H H' ∧ H' D = some (.lst ((((idxF 0 (cf (wayOf t) names) f).take i).map fun i => st.getD i 0).map V.int))) ?_ ?_ ?_ ?_
    · exact ⟨Same.upd hD, upd_same⟩
    · rintro i H' _ ⟨s3, _⟩
      exact s3.seq (SqL.of hfa)
    · rintro i x H3 H3' hi ⟨s3, e3⟩ ⟨rfl, hx⟩
      rw [List.getElem?_map] at hx
      obtain ⟨j, hj, rfl⟩ := Option.map_eq_some_iff.mp hx
      have hlt := (idx_lt f _ 0 j (List.mem_of_getElem? hj)).2
      rw [Nat.zero_add, ← hst.len] at hlt
      refine ⟨rfl, _, rfl, _, rfl, q, _, (j : Nat), _, rfl, rfl, SqT.of (s3 _ _ hq), atI_nat (getD_at hlt), _, e3, ?_, s3.at hD, ?_⟩
      · refine sz (m := 132) ?_
        rw [List.length_map, List.length_map, List.length_take]
        have h1 := idx_length f (cf (wayOf t) names) 0
        have := hb.good.cells_le
        rw [cf_length] at h1
        omega
      · rw [upd_same, take_snoc hj]
        simp
    · rintro H3 ⟨s3, e3⟩
      rw [List.length_map, List.take_length] at e3
      refine ⟨D, _, rfl, SqL.of e3, .inl ⟨_, rfl, ?_⟩⟩
      refine ⟨_, _, rfl, rfl, (by show (0 : Int) < 2; decide), ?_⟩
      have k2 := k H3 s3
      rw [← brd_mod] at k2
      rw [idx_sum st f _ 0, List.drop_zero]
      exact k2
/-! _law_teller -/
def spTeller : Sp := fun vs H Q _ => ∃ (b q : Addr) (st : List Int) (t : Tr Str) (names : List Str), vs = [.ref b, .ref q] ∧ BookAt H b t names ∧ TupAt H q st ∧ StOk t names st ∧
  ∀ H', Same H H' → Q (.str (t.tell (brd (cf (wayOf t) names) st) [])) H'
abbrev sTeller : Stmt := topS 46
theorem scTeller : FnScope ["_law_book_here", "_law_state_here", "_law_way", "_law_k"] ["_law_book_here", "_law_state_here"] (defScope sTeller) := ⟨rfl, rfl, rfl, by decide +kernel, rfl, by decide +kernel, by decide +kernel⟩
theorem ok_teller (T : Txt K mg) : FnB P w K mg base CX0 2 "_law_teller" spTeller := by
  have G : FnB P w K mg base CX0 1 "_law_side" spSide := ok_side T
  refine T.lTeller.ok scTeller (fun vs H Q E h => ?_) (fun f cdv A outer s H vs Q E hr h => ?_)
  · obtain ⟨b, q, st, t, names, rfl, _⟩ := h
    rfl
  · obtain ⟨b, q, st, t, names, rfl, hb, hq, hst, k⟩ := h
    obtain ⟨wd, bd, fd, ld, kvb, h1, h2, h3, h4, h5, h6⟩ := hb.ex
    obtain ⟨lv, hlv, hlk, hln⟩ := h6.ex
    have hu := hu_of hr
    refine ⟨_, pss_cons (ps_set (i := 2) scTeller.nd rfl (.inl rfl) pe_str)
      (pss_cons (ps_for PassesOwn.never rfl (pi_range1 (by rfl) T.b.range (pa_cons pe_int pa_nil)) (pg_name (i := 3) scTeller.nd rfl (.inl rfl))
        (pss_cons (ps_if (pt_cmp (pc_din hu (pv 2) (pe_ix ix_tup (pv 0) pe_int (fun _ _ => rfl)))) (pss_one (ps_ret (pe_dget hu (pe_ix ix_tup (pv 0) pe_int (fun _ _ => rfl)) (pv 2) (fun _ _ => rfl)))) pss_nil)
        (pss_one (ps_set (i := 2) scTeller.nd rfl (.inl rfl) (pe_op op_add_str (pv 2) (pe_ix ix_str pe_str (pcall G hr pass0 (pa_cons (pv 0) (pa_cons (pv 1) (pa_cons (pv 2) pa_nil)))) (fun _ _ => rfl)))))))
      (pss_one (ps_ret pe_str))), ?_⟩
    refine ⟨12, rfl, by decide, by decide, for_it walk_range (fun i σ H' => ∃ (v : List Bool) (sub : Tr Str) (x : Option V), σ = [some (.ref b), some (.ref q), some (.str (S v)), x] ∧ Same H H' ∧ SubOf t sub v ∧ sub.tell (brd (cf (wayOf t) names) st) v = t.tell (brd (cf (wayOf t) names) st) [] ∧ v.length = i ∧ i + sub.depth ≤ 11) ?_ ?_ ?_ ?_⟩
    · exact ⟨[], t, none, by rw [S_nil]; rfl, .refl _, ⟨fun _ h => h, fun _ h => h⟩, rfl, rfl, by have := tell_short hb.good.ok; omega⟩
    · intros
      trivial
    · rintro i y σ H3 H3' hi ⟨v, sub, x, rfl, s3, hsub, ht, hlv', hdep⟩ ⟨rfl, hy⟩
      have hb3 := s3 _ _ h1
      refine ⟨_, rfl, _, rfl, b, _, 3, _, rfl, rfl, SqT.of hb3, atI_nat (j := 3) rfl, ld, _, rfl, DGet.k (k := Sum.inr (S v)) (s3 _ _ hlv), _, rfl, ?_⟩
      cases sub with
      | leaf a =>
        have hw : (a, v) ∈ t.ways [] := hsub.ways _ (by simp [Tr.ways])
        rw [hlk a v hw]
        refine if_t rfl ⟨_, rfl, b, _, 3, _, rfl, rfl, SqT.of hb3, atI_nat (j := 3) rfl, _, rfl, ld, _, rfl, by rw [← hlk a v hw]; exact DGet.k (k := Sum.inr (S v)) (s3 _ _ hlv), ?_⟩
        have e : a = t.tell (brd (cf (wayOf t) names) st) [] := ht
        rw [e]
        exact k _ s3
      | node l r =>
        have hf : v ∈ t.forks [] := hsub.forks _ (by simp [Tr.forks])
        have hn : valV lv (Sum.inr (S v)) = none := hln v fun a ha => way_not_fork t [] a v ha hf
        rw [hn]
        refine if_f rfl ?_
        refine ⟨_, rfl, _, rfl, _, rfl, _, rfl, b, q, v, st, t, names, rfl, hb.same s3, s3 _ _ hq, hst, hf, fun H4 s4 => ?_⟩
        refine ⟨_, _, _, rfl, rfl, (by decide +kernel), bit_at _, _, _, rfl, rfl, ?_, ?_⟩
        · rw [← bit_one, S_len, S_len, hlv']
          exact sz' (show i + [brd (cf (wayOf t) names) st v].length ≤ 13 by simp; have hi : i < 12 := hi; omega)
        · rw [← bit_one, S_app]
          have ht2 : (if brd (cf (wayOf t) names) st v then r.tell (brd (cf (wayOf t) names) st) (v ++ [true]) else l.tell (brd (cf (wayOf t) names) st) (v ++ [false])) = t.tell (brd (cf (wayOf t) names) st) [] := ht
          have hdep' : i + (max l.depth r.depth + 1) ≤ 11 := hdep
          cases hbb : brd (cf (wayOf t) names) st v with
          | true =>
            rw [hbb] at ht2
            exact ⟨v ++ [true], r, _, rfl, s3.trans s4, ⟨fun x hx => hsub.ways x (by simp [Tr.ways, hx]), fun x hx => hsub.forks x (by simp [Tr.forks, hx])⟩, ht2, by simp [hlv'], by omega⟩
          | false =>
            rw [hbb] at ht2
            exact ⟨v ++ [false], l, _, rfl, s3.trans s4, ⟨fun x hx => hsub.ways x (by simp [Tr.ways, hx]), fun x hx => hsub.forks x (by simp [Tr.forks, hx])⟩, ht2, by simp [hlv'], by omega⟩
    · rintro σ H3 ⟨v, sub, x, rfl, s3, hsub, ht, hlv', hdep⟩
      exfalso
      have hdep : 12 + sub.depth ≤ 11 := hdep
      omega
/-! _law_needs -/
def spNeeds : Sp := fun vs H Q _ => ∃ (b q : Addr) (a : Str) (st : List Int) (t : Tr Str) (names : List Str), vs = [.ref b, .ref q, .str a] ∧ BookAt H b t names ∧ TupAt H q st ∧ StOk t names st ∧ a ∈ names ∧
  ∀ H' r, Same H H' → H r = none → RowAt H' r (turnsOf (wayOf t) names st a) → Q (.ref r) H'
abbrev sNeeds : Stmt := topS 47
theorem scNeeds : FnScope ["_law_book_here", "_law_state_here", "_law_writer", "_law_way", "_law_found", "_law_level", "_law_at"] ["_law_book_here", "_law_state_here", "_law_writer"] (defScope sNeeds) := ⟨rfl, rfl, rfl, by decide +kernel, rfl, by decide +kernel, by decide +kernel⟩
theorem ok_needs (T : Txt K mg) : FnB P w K mg base CX0 2 "_law_needs" spNeeds := by
  have G : FnB P w K mg base CX0 1 "_law_side" spSide := ok_side T
  refine T.lNeeds.ok scNeeds (fun vs H Q E h => ?_) (fun f cdv A outer s H vs Q E hr h => ?_)
  · obtain ⟨b, q, a, st, t, names, rfl, _⟩ := h
    rfl
  · obtain ⟨b, q, a, st, t, names, rfl, hb, hq, hst, ha, k⟩ := h
    obtain ⟨wd, bd, fd, ld, kvb, h1, h2, h3, h4, h5, h6⟩ := hb.ex
    have hu := hu_of hr
    refine ⟨_, pss_cons (ps_set (i := 3) scNeeds.nd rfl (.inl rfl) (pe_dget hu (pe_ix ix_tup (pv 0) pe_int (fun _ _ => rfl)) (pv 2) (fun _ _ => rfl)))
      (pss_cons (ps_set (i := 4) scNeeds.nd rfl (.inl rfl) (pe_lst pa_nil))
      (pss_cons (ps_for PassesOwn.never rfl (pi_range3 (by rfl) T.b.range (pa_cons (pe_op op_sub (pe_callB call_len_str (by rfl) T.b.len (by decide +kernel) (pa_cons (pv 3) pa_nil)) pe_int) (pa_cons (pe_un un_neg pe_int) (pa_cons (pe_un un_neg pe_int) pa_nil)))) (pg_name (i := 5) scNeeds.nd rfl (.inl rfl))
        (pss_cons (ps_set (i := 6) scNeeds.nd rfl (.inl rfl) (pe_op op_add (pe_dget hu (pe_ix ix_tup (pv 0) pe_int (fun _ _ => rfl)) (pv 2) (fun _ _ => rfl)) (pv 5)))
        (pss_one (ps_if (pt_cmpR op_ne (pcall G hr pass0 (pa_cons (pv 0) (pa_cons (pv 1) (pa_cons (pe_slice sl_str (pv 3) po_none (po_some (pv 5))) pa_nil)))) (pe_callTy call_int_str (by rfl) T.b.int (by decide +kernel) (pa_cons (pe_ix ix_str (pv 3) (pv 5) (fun _ _ => rfl)) pa_nil)) (nomark _))
          (pss_one (ps_expr (pe_bm PySem.F.plainAttrs_list PySem.F.slot_list_append PySem.F.type_list_append mt_append (pv 4) (pa_cons (pe_tup (pa_cons (pv 6) (pa_cons (pe_op op_sub pe_int (pe_ix ix_tup (pv 1) (pv 6) (fun _ _ => rfl))) pa_nil))) pa_nil)))) pss_nil))))
      (pss_one (ps_ret (pv 4))))), ?_⟩
    have hw := hb.good.wlen ha
    refine ⟨_, rfl, b, _, 0, _, rfl, rfl, SqT.of h1, atI_nat (j := 0) rfl, _, rfl, wd, _, rfl, by rw [← val_way hb.good.ok.nd (hb.good.mem.mp ha)]; exact DGet.k (k := Sum.inr a) h2, ?_⟩
    refine ⟨(by show 0 ≤ sizeLine; decide), fun l hl => ?_⟩
    have el : ((S (wayOf t a)).length : Int) = ((wayOf t a).length : Nat) := by rw [S_len]
    refine ⟨_, rfl, _, rfl, sub_len (n := 11) hw, _, _, rfl, rfl, _, rfl, _, rfl, ((wayOf t a).length : Int) - 1, -1, -1, (wayOf t a).length, ?_, ?_, ?_⟩
    · rw [S_len]
    · have := RgC.neg (i := ((wayOf t a).length : Int) - 1) (j := -1) (by omega) (by omega) (by omega) (by omega)
      have e : (((wayOf t a).length : Int) - 1 - -1).toNat = (wayOf t a).length := by omega
      rw [e] at this
      exact this
    refine for_it walk_rangeC (fun i σ H' => ∃ (x5 x6 : Option V) (ps : List Addr), σ = [some (.ref b), some (.ref q), some (.str a), some (.str (S (wayOf t a))), some (.ref l), x5, x6] ∧ Same H H' ∧ H' l = some (.lst (ps.map V.ref)) ∧
      Paired (fun p (x : Nat × Int) => H' p = some (.tup [.int x.1, .int x.2])) ps ((((List.range (wayOf t a).length).reverse.take i).filter fun k => decide (brd (cf (wayOf t) names) st ((wayOf t a).take k) ≠ (wayOf t a).getD k false)).map fun k => (beg (wayOf t) names a + k, 1 - st.getD (beg (wayOf t) names a + k) 0))) ?_ ?_ ?_ ?_
    · exact ⟨none, none, [], rfl, Same.upd hl, upd_same, .nil⟩
    · intros
      trivial
    · rintro i y σ H3 H3' hi ⟨x5, x6, ps, rfl, s3, e3, p3⟩ ⟨rfl, hy⟩
      have ei : ((wayOf t a).length : Int) - 1 + (i : Nat) * (-1) = (((wayOf t a).length - 1 - i : Nat) : Int) := by omega
      have hk : (wayOf t a).length - 1 - i < (wayOf t a).length := by omega
      have es := take_snoc (rev_at hi)
      generalize hkk : (wayOf t a).length - 1 - i = kk at hk es
      have hy : y = .int (kk : Nat) := by
        rw [hy]
        show V.int (((wayOf t a).length : Int) - 1 + (i : Nat) * (-1)) = _
        rw [ei, hkk]
      subst hy
      have hf : (wayOf t a).take kk ∈ t.forks [] := way_fork t [] a _ (hb.good.way ha) kk (by simp) hk
      have hlt : beg (wayOf t) names a + kk < st.length := by rw [hst.len]; exact beg_lt ha hk
      have hadd : ((beg (wayOf t) names a : Nat) : Int) + (kk : Nat) = ((beg (wayOf t) names a + kk : Nat) : Int) := by omega
      refine ⟨_, rfl, b, _, 1, _, rfl, rfl, SqT.of (s3 _ _ h1), atI_nat (j := 1) rfl, _, rfl, bd, _, rfl, by rw [← h4 a ha]; exact DGet.k (k := Sum.inr a) (s3 _ _ h3), _, rfl, _, _, rfl, rfl, ?_⟩
      refine ⟨_, rfl, _, rfl, _, rfl, _, rfl, _, rfl, _, rfl, sub_len (n := 11) hw, ?_⟩
      rw [S_cut]
      refine ⟨b, q, _, st, t, names, rfl, hb.same s3, s3 _ _ hq, hst, hf, fun H4 s4 => ?_⟩
      have e4 := s4 _ _ e3
      have p4 := paired_imp (fun (x : Addr) (y : Nat × Int) (h : H3' x = some (.tup [.int y.1, .int y.2])) => s4 _ _ h) p3
      have s34 := s3.trans s4
      refine ⟨_, rfl, _, rfl, _, _, _, rfl, rfl, sub_len (n := 11) hw, S_at hk, _, b01 (wayOf t a)[kk], rfl, bit_int _, by show 1 ≤ 640; decide, rfl, _, rfl, ?_⟩
      have eb : (decide (V.int (b01 (brd (cf (wayOf t) names) st ((wayOf t a).take kk))) = V.int (b01 (wayOf t a)[kk]))) = decide (brd (cf (wayOf t) names) st ((wayOf t a).take kk) = (wayOf t a)[kk]) := by
        cases brd (cf (wayOf t) names) st ((wayOf t a).take kk) <;> cases (wayOf t a)[kk] <;> decide
      have eg : (wayOf t a).getD kk false = (wayOf t a)[kk] := by rw [List.getD_eq_getElem?_getD, List.getElem?_eq_getElem hk]; rfl
      by_cases e : brd (cf (wayOf t) names) st ((wayOf t a).take kk) = (wayOf t a)[kk]
      · refine if_f (by rw [decide_eq_true e] at eb; exact congrArg (!·) eb) ⟨_, _, ps, rfl, s34, e4, ?_⟩
        rw [es, List.filter_append, List.filter_cons_of_neg (by rw [eg, e]; simp)]
        simpa using p4
      · refine if_t (by rw [decide_eq_false e] at eb; exact congrArg (!·) eb) ?_
        have hat : (st.map V.int)[beg (wayOf t) names a + kk]? = some (.int (st.getD (beg (wayOf t) names a + kk) 0)) := getD_at hlt
        have hatI : atI (st.map V.int) (((beg (wayOf t) names a : Nat) : Int) + (kk : Nat)) = some (.int (st.getD (beg (wayOf t) names a + kk) 0)) := by rw [hadd]; exact atI_nat hat
        refine ⟨_, rfl, .inl ⟨rfl, _, SqL.of e4⟩, _, rfl, _, rfl, _, rfl, q, _, _, _, rfl, rfl, SqT.of (s34 _ _ hq), hatI, _, _, rfl, rfl, (by show 2 ≤ sizeLine; decide), fun tp htp => ?_⟩
        have n2 : l ≠ tp := fun e => by rw [← e, e4] at htp; cases htp
        have etup : (HO.tup [V.int (((beg (wayOf t) names a : Nat) : Int) + (kk : Nat)), V.int (1 - st.getD (beg (wayOf t) names a + kk) 0)]) = .tup [.int ((beg (wayOf t) names a + kk : Nat)), .int (1 - st.getD (beg (wayOf t) names a + kk) 0)] := by rw [hadd]
        have e5 : (upd H4 tp (.tup [V.int (((beg (wayOf t) names a : Nat) : Int) + (kk : Nat)), V.int (1 - st.getD (beg (wayOf t) names a + kk) 0)])) l = some (.lst (ps.map V.ref)) := (upd_ne n2).trans e4
        refine ⟨l, _, _, rfl, rfl, e5, ?_, ?_⟩
        · refine sz (m := 11) ?_
          rw [List.length_map, paired_len p3, List.length_map]
          refine Nat.le_trans (List.length_filter_le _ _) ?_
          rw [List.length_take, List.length_reverse, List.length_range]
          omega
        · refine ⟨_, _, ps ++ [tp], rfl, (s34.upd' htp).at hl, by rw [upd_same]; simp, ?_⟩
          rw [es, List.filter_append, List.filter_cons_of_pos (by rw [eg]; simpa using e), List.filter_nil, List.map_append]
          refine paired_snoc (paired_imp (fun x y h => ?_) p4) ?_
          · rw [upd_ne (ne_of h e4 (fun z => by cases z)), upd_ne (ne_of_none h htp)]
            exact h
          · rw [upd_ne n2.symm, upd_same, etup]
    · rintro σ H3 ⟨x5, x6, ps, rfl, s3, e3, p3⟩
      refine ⟨_, rfl, k H3 l s3 hl ⟨ps, e3, ?_⟩⟩
      rw [List.take_of_length_le (by simp)] at p3
      exact p3
end
end FK
set_option Elab.async false
set_option linter.all false
set_option maxRecDepth 100000
set_option maxHeartbeats 4000000
set_option pp.maxSteps 400
namespace FK
open PySem PySem.Spec PyProof.Rows L2
theorem dp_ints {K : PySem.W.Frag} {H : Hp} : ∀ st : List Int, DpAll K H (st.map V.int) (st.map PyData.int)
  | [] => .nil
  | i :: r => .cons (.int i) (dp_ints r)
theorem can_ints : ∀ st : List Int, PyData.canLayAll0 (st.map PyData.int) = true
  | [] => by simp [PyData.canLayAll0]
  | i :: r => by simp [PyData.canLayAll0, PyData.canLay0, can_ints r]
theorem depth_ints : ∀ st : List Int, PyData.depthAll (st.map PyData.int) = 0
  | [] => by simp [PyData.depthAll]
  | i :: r => by simp [PyData.depthAll, PyData.depth, depth_ints r]
theorem shaped_ints (st : List Int) : SeqAt.shaped (.tuple (st.map PyData.int)) = true := by
  unfold SeqAt.shaped
  simp [PyData.canLay0, PyData.depth, can_ints, depth_ints]
section
variable {P : Program} {w : World} {K : PySem.W.Frag} {mg : Str → Option Value} {base : Heap} {c : Cs}
/-! _law_after -/
def spAfter : Sp := fun vs H Q _ => ∃ (q r : Addr) (st : List Int) (row : List (Nat × Int)), vs = [.ref q, .ref r] ∧ TupAt H q st ∧ RowAt H r row ∧ (∀ x ∈ row, x.1 < st.length) ∧ ∀ H' q', Same H H' → H q' = none → TupAt H' q' (after st row) → Q (.ref q') H'
abbrev sAfter : Stmt := topS 48
theorem scAfter : FnScope ["_law_state_here", "_law_row", "_law_marks", "_law_at", "_law_mark"] ["_law_state_here", "_law_row"] (defScope sAfter) := ⟨rfl, rfl, rfl, by decide +kernel, rfl, by decide +kernel, by decide +kernel⟩
theorem ok_after (T : Txt K mg) : FnB P w K mg base CX0 1 "_law_after" spAfter := by
  refine T.lAfter.ok scAfter (fun vs H Q E h => ?_) (fun f cdv A outer s H vs Q E hr h => ?_)
  · obtain ⟨q, r, st, row, rfl, _⟩ := h
    rfl
  · obtain ⟨q, r, st, row, rfl, hq, ⟨rs, hr1, hr2⟩, hok, k⟩ := h
    refine ⟨_, pss_cons (ps_set (i := 2) scAfter.nd rfl (.inl rfl) (pe_callTy call_list_of (by rfl) T.b.list (by decide +kernel) (pa_cons (pv 0) pa_nil)))
      (pss_cons (ps_for PassesOwn.never rfl (pi_list (pv 1)) (pg_tup (by rfl) (pgs_cons (pg_name (i := 3) scAfter.nd rfl (.inl rfl)) (pgs_cons (pg_name (i := 4) scAfter.nd rfl (.inl rfl)) pgs_nil)))
        (pss_one (ps_asg (pv 4) (pg_sub (pv 2) (pv 3) set_list))))
      (pss_one (ps_ret (pe_callTy call_tuple_of (by rfl) T.b.tuple (by decide +kernel) (pa_cons (pv 2) pa_nil))))), ?_⟩
    refine ⟨_, rfl, q, _, rfl, .inr (SqT.of hq), fun l hl => ?_⟩
    have s2 : Same H (upd H l (.lst (st.map V.int))) := Same.upd hl
    refine ⟨_, rfl, r, rfl, ⟨_, SqL.of (s2 _ _ hr1)⟩, for_it (walk_list (xs := rs.map V.ref)) (fun i σ H' => ∃ a b, σ = [some (.ref q), some (.ref r), some (.ref l), a, b] ∧ Same H H' ∧ H' l = some (.lst ((after st (row.take i)).map V.int))) ?_ ?_ ?_ ?_⟩
    · exact ⟨none, none, rfl, s2, upd_same⟩
    · rintro i σ H' _ ⟨a, b, rfl, s3, e3⟩
      exact SqL.of (s3 _ _ hr1)
    · rintro i x σ H3 H3' hi ⟨a, b, rfl, s3, e3⟩ ⟨rfl, hx⟩
      rw [List.getElem?_map] at hx
      obtain ⟨y, hy, rfl⟩ := Option.map_eq_some_iff.mp hx
      obtain ⟨⟨j, m⟩, hjm, hy2⟩ := paired_get hr2 hy
      have hj : j < st.length := hok _ (List.mem_of_getElem? hjm)
      have es := take_snoc hjm
      have hl' : ((after st (row.take i)).map V.int).length = st.length := by rw [List.length_map, after_length]
      refine ⟨y, _, rfl, SqT.of (s3 _ _ hy2), rfl, _, _, rfl, _, _, rfl, rfl, ?_⟩
      refine ⟨_, rfl, _, rfl, _, rfl, l, _, _, j, rfl, rfl, e3, ixN_n (by rw [hl']; exact hj), ?_⟩
      refine ⟨_, _, rfl, s3.at hl, ?_⟩
      rw [upd_same, es]
      unfold after
      rw [List.foldl_append, List.foldl_cons, List.foldl_nil, List.map_set]
    · rintro σ H3 ⟨a, b, rfl, s3, e3⟩
      refine ⟨_, rfl, l, _, rfl, .inl ⟨SqL.of e3, fun q' hq' => ?_⟩⟩
      refine k _ q' (s3.upd' hq') (s3.free hq') ?_
      show upd _ q' _ q' = _
      rw [upd_same, List.length_map, paired_len hr2, List.take_length]
/-! _law_is_state -/
def spIsState : Sp := fun vs H Q _ => ∃ (q q' : Addr) (st : List Int), vs = [.ref q, .ref q'] ∧ TupAt H q st ∧ TupAt H q' st ∧ Q (.bl true) H
abbrev sIsState : Stmt := topS 50
theorem scIsState : FnScope ["_law_value", "_law_due", "_law_mark"] ["_law_value", "_law_due"] (defScope sIsState) := ⟨rfl, rfl, rfl, by decide +kernel, rfl, by decide +kernel, by decide +kernel⟩
theorem ok_isState (T : Txt K mg) : FnB P w K mg base CX0 2 "_law_is_state" spIsState := by
  have G : FnB P w K mg base CX0 1 "_law_is_integer" spInt := ok_int T
  refine T.lIsState.ok scIsState (fun vs H Q E h => ?_) (fun f cdv A outer s H vs Q E hr h => ?_)
  · obtain ⟨q, q', st, rfl, _⟩ := h
    rfl
  · obtain ⟨q, q', st, rfl, hq, hq', k⟩ := h
    refine ⟨_, pss_cons (ps_if (PW.pt (pw_or (pt_not (pt_val (pisi "tuple" T.b (pv 0) T.b.tuple (by decide +kernel)))) (pw_or1 (pt_cmpR op_ne (pe_callB call_len_seq (by rfl) T.b.len (by decide +kernel) (pa_cons (pv 0) pa_nil)) (pe_callB call_len_seq (by rfl) T.b.len (by decide +kernel) (pa_cons (pv 1) pa_nil)) (nomark _)))))
        (pss_one (ps_ret pe_bl)) pss_nil)
      (pss_cons (ps_for PassesOwn.never rfl (pi_tup (pv 0)) (pg_name (i := 2) scIsState.nd rfl (.inl rfl))
        (pss_one (ps_if (pt_not (pt_val (pcall G hr pass0 (pa_cons (pv 2) pa_nil)))) (pss_one (ps_ret pe_bl)) pss_nil)))
      (pss_one (ps_ret (pe_cmpR (op_eqD hr.units) (pv 0) (pv 1) (nomark _))))), ?_⟩
    refine ⟨_, rfl, _, _, _, _, true, rfl, .ty _, .base (.tup hq), kit_ty (by decide +kernel), _, rfl, if_f rfl ?_⟩
    refine ⟨_, rfl, q, _, rfl, .inr (SqT.of hq), _, rfl, q', _, rfl, .inr (SqT.of hq'), rfl, _, rfl, if_f (by simp) ?_⟩
    refine ⟨_, rfl, q, rfl, ⟨_, SqT.of hq⟩, for_it (walk_tup (xs := st.map V.int)) (fun i σ H' => ∃ x, σ = [some (.ref q), some (.ref q'), x] ∧ H' = H) ⟨none, rfl, rfl⟩ ?_ ?_ ?_⟩
    · rintro i σ H' _ ⟨x, rfl, rfl⟩
      exact SqT.of hq
    · rintro i x σ H3 H3' hi ⟨x0, rfl, rfl⟩ ⟨rfl, hx⟩
      rw [List.getElem?_map] at hx
      obtain ⟨z, hz, rfl⟩ := Option.map_eq_some_iff.mp hx
      exact ⟨_, rfl, z, rfl, _, rfl, if_f rfl ⟨_, rfl, rfl⟩⟩
    · rintro σ H3 ⟨x, rfl, rfl⟩
      refine ⟨_, rfl, _, rfl, _, _, .tup (SqT.of hq) (dp_ints st), .tup (SqT.of hq') (dp_ints st), shaped_ints st, shaped_ints st, ?_⟩
      have e : PyData.eqv (.tuple (st.map PyData.int)) (.tuple (st.map PyData.int)) = true := SeqAt.eqv_refl _ (by simp [PyData.canLay0, can_ints])
      rw [e]
      exact k
/-! _law_last -/
def spLLast : Sp := fun vs H Q _ => ∃ (l : Addr) (whs : List (Option Str)), vs = [.ref l] ∧ H l = some (.lst (whs.map lastV)) ∧ Q (lastV (lastOf none whs)) H
abbrev sLLast : Stmt := topS 55
theorem scLLast : FnScope ["_law_wholes", "_law_last_here", "_law_one"] ["_law_wholes"] (defScope sLLast) := ⟨rfl, rfl, rfl, by decide +kernel, rfl, by decide +kernel, by decide +kernel⟩
theorem lastOf_snoc : ∀ (l : List (Option Str)) (acc : Option Str) (x : Option Str), lastOf acc (l ++ [x]) = match x with | none => lastOf acc l | some a => some a
  | [], acc, none => rfl
  | [], acc, some a => rfl
  | none :: r, acc, x => by
    show lastOf acc (r ++ [x]) = _
    rw [lastOf_snoc r acc x]
    cases x <;> rfl
  | some b :: r, acc, x => by
    show lastOf (some b) (r ++ [x]) = _
    rw [lastOf_snoc r (some b) x]
    cases x <;> rfl
theorem ok_llast (T : Txt K mg) : FnB P w K mg base CX0 1 "_law_last" spLLast := by
  refine T.lLast.ok scLLast (fun vs H Q E h => ?_) (fun f cdv A outer s H vs Q E hr h => ?_)
  · obtain ⟨l, whs, rfl, _⟩ := h
    rfl
  · obtain ⟨l, whs, rfl, hl, k⟩ := h
    refine ⟨_, pss_cons (ps_set (i := 1) scLLast.nd rfl (.inl rfl) pe_non)
      (pss_cons (ps_for PassesOwn.never rfl (pi_list (pv 0)) (pg_name (i := 2) scLLast.nd rfl (.inl rfl))
        (pss_one (ps_if (pt_cmp (pc_notN (pv 2))) (pss_one (ps_set (i := 1) scLLast.nd rfl (.inl rfl) (pv 2))) pss_nil)))
      (pss_one (ps_ret (pv 1)))), ?_⟩
    refine ⟨_, rfl, l, rfl, ⟨_, SqL.of hl⟩, for_it (walk_list (xs := whs.map lastV)) (fun i σ H' => ∃ x, σ = [some (.ref l), some (lastV (lastOf none (whs.take i))), x] ∧ H' = H) ⟨none, rfl, rfl⟩ ?_ ?_ ?_⟩
    · rintro i σ H' _ ⟨x, rfl, rfl⟩
      exact SqL.of hl
    · rintro i x σ H3 H3' hi ⟨x0, rfl, rfl⟩ ⟨rfl, hx⟩
      rw [List.getElem?_map] at hx
      obtain ⟨z, hz, rfl⟩ := Option.map_eq_some_iff.mp hx
      have es := take_snoc hz
      cases z with
      | none =>
        refine ⟨_, rfl, _, rfl, if_f rfl ⟨some .non, ?_, rfl⟩⟩
        rw [es, lastOf_snoc]
        rfl
      | some a =>
        refine ⟨_, rfl, _, rfl, if_t rfl ⟨_, rfl, some (.str a), ?_, rfl⟩⟩
        rw [es, lastOf_snoc]
        rfl
    · rintro σ H3 ⟨x, rfl, rfl⟩
      refine ⟨_, rfl, ?_⟩
      rw [List.length_map, List.take_length]
      exact k
/-! _law_state -/
def spState : Sp := fun vs H Q _ => ∃ (x : Addr) (n : Nat), vs = [.ref x, .int (n : Nat)] ∧ BoxAt H x ∧ n ≤ 200 ∧ ∀ (H' : Hp) (q : Addr) (st : List Int), Same (ItX.dropH H x) H' → BoxAt H' x → H q = none → TupAt H' q st → Marks st → st.length = n → Q (.ref q) H'
abbrev sState : Stmt := topS 49
abbrev nState : List Str := ["_law_box_here", "_law_many_here", "_law_kind", "_law_k"]
theorem scState : FnScope nState ["_law_box_here", "_law_many_here"] (defScope sState) := ⟨rfl, rfl, rfl, by decide +kernel, rfl, by decide +kernel, by decide +kernel⟩
theorem rep_snoc {α : Type} (n : Nat) (x : α) : List.replicate n x ++ [x] = List.replicate (n + 1) x := by rw [← List.replicate_succ']
theorem ok_state (T : Txt K mg) : FnB P w K mg base CX0 3 "_law_state" spState := by
  have G : FnB P w K mg base CX0 2 "_law_take" spTake := ok_take T
  refine T.lState.ok scState (fun vs H Q E h => ?_) (fun f cdv A outer s H vs Q E hr h => ?_)
  · obtain ⟨x, n, rfl, _⟩ := h
    rfl
  · obtain ⟨x, n, rfl, ⟨a, b, c, hx⟩, hn, k⟩ := h
    refine ⟨_, pss_cons (ps_set (i := 2) scState.nd rfl (.inl rfl) (pcall G hr pass0 (pa_cons (pv 0) (pa_cons pe_int pa_nil))))
      (pss_cons (ps_if (pt_cmpR op_eq (pv 2) pe_int (nomark _)) (pss_one (ps_ret (pe_callTy call_tuple_of (by rfl) T.b.tuple (by decide +kernel) (pa_cons
        (pe_lc (own := [("_law_k", 3)]) (g := gName 3) (tt := tYes) rfl scState.nd (pi_range1 (by rfl) T.b.range (pa_cons (pv 1) pa_nil)) (blkOk_by (N := nState) (sc := defScope sState) (by decide +kernel))
          (fun _ _ _ _ _ => pg_name (i := 3) scState.nd rfl (.inl rfl)) (fun _ _ _ _ _ => pts_nil) (fun _ _ _ _ _ => pe_int)) pa_nil)))) pss_nil)
      (pss_cons (ps_if (pt_cmpR op_eq (pv 2) pe_int (nomark _)) (pss_one (ps_ret (pe_callTy call_tuple_of (by rfl) T.b.tuple (by decide +kernel) (pa_cons
        (pe_lc (own := [("_law_k", 3)]) (g := gName 3) (tt := tYes) rfl scState.nd (pi_range1 (by rfl) T.b.range (pa_cons (pv 1) pa_nil)) (blkOk_by (N := nState) (sc := defScope sState) (by decide +kernel))
          (fun _ _ _ _ _ => pg_name (i := 3) scState.nd rfl (.inl rfl)) (fun _ _ _ _ _ => pts_nil) (fun _ _ _ _ _ => pe_int)) pa_nil)))) pss_nil)
      (pss_one (ps_ret (pe_callTy call_tuple_of (by rfl) T.b.tuple (by decide +kernel) (pa_cons
        (pe_lc (own := [("_law_k", 3)]) (g := gName 3) (tt := tYes) rfl scState.nd (pi_range1 (by rfl) T.b.range (pa_cons (pv 1) pa_nil)) (blkOk_by (N := nState) (sc := defScope sState) (by decide +kernel))
          (fun _ _ _ _ _ => pg_name (i := 3) scState.nd rfl (.inl rfl)) (fun _ _ _ _ _ => pts_nil) (fun _ _ _ _ _ => pcall (E := FK.E0) G hr pass0 (pa_cons (pv 0) (pa_cons pe_int pa_nil)))) pa_nil)))))), ?_⟩
    refine ⟨_, rfl, x, 8, a, b, c, rfl, hx, by decide, by decide, fun a b c d hd => ?_⟩
    have R1 : Same (ItX.dropH H x) (upd H x (BX a b c)) := drop_upd
    have fr : ∀ l, upd H x (BX a b c) l = none → H l = none := fun l e => (upd_none e).2
    have hx1 : (upd H x (BX a b c)) x = some (BX a b c) := upd_same
    have rx : ItX.dropH H x x = none := ItX.dropH_same
    generalize upd H x (BX a b c) = H1 at R1 fr hx1 ⊢
    have rfree : ∀ l, H1 l = none → ItX.dropH H x l = none ∧ l ≠ x := fun l e => by
      have ne : l ≠ x := fun z => by rw [z, hx1] at e; cases e
      exact ⟨by rw [ItX.dropH_ne ne]; exact fr l e, ne⟩
    generalize ItX.dropH H x = R at R1 rx k rfree
    have konst : ∀ (m : Int), (m = 0 ∨ m = 1) → ∀ D, H1 D = none → ∀ (Q2 : V → Hp → Prop), (∀ H' q, Same R H' → BoxAt H' x → H1 q = none → TupAt H' q (List.replicate n m) → Q2 (.ref q) H') → ∀ H3, H3 = upd H1 D (.lst (List.replicate n (V.int m))) →
        ∃ p ys, [V.ref D] = [.ref p] ∧ ((SqL K H3 p ys ∧ ∀ l, H3 l = none → Q2 (.ref l) (upd H3 l (.tup ys))) ∨ (SqT K H3 p ys ∧ Q2 (.ref p) H3)) := by
      rintro m hm D hD Q2 k2 H3 rfl
      obtain ⟨rD, Dx⟩ := rfree D hD
      refine ⟨D, _, rfl, .inl ⟨SqL.of upd_same, fun l hl => ?_⟩⟩
      obtain ⟨lD, hl1⟩ := upd_none hl
      obtain ⟨rl, lx⟩ := rfree l hl1
      refine k2 _ l ((R1.at rD).at rl) ⟨a, b, c, by rw [upd_ne lx.symm, upd_ne Dx.symm]; exact hx1⟩ hl1 ?_
      show upd _ l _ l = _
      rw [upd_same, List.map_replicate]
    have marks : ∀ (m : Int), (m = 0 ∨ m = 1) → Marks (List.replicate n m) := fun m hm z hz => by
      rw [(List.mem_replicate.mp hz).2]
      exact hm
    have lcr : ∀ (m : Int) (D : Addr) (H3 : Hp), H3 = upd H1 D (.lst (List.replicate 0 (V.int m))) → H3 D = some (.lst (List.replicate 0 (V.int m))) := fun m D H3 e => by rw [e, upd_same]
    refine ⟨_, rfl, rfl, _, rfl, ?_⟩
    by_cases h0 : (d : Int) = 0
    · refine if_t (decide_eq_true (by rw [h0])) ?_
      refine ⟨_, rfl, n, rfl, by omega, by omega, fun D hD => lc_it walk_range (fun i H' => H' = upd H1 D (.lst (List.replicate i (V.int 0)))) rfl (by intros; trivial) ?_ ?_⟩
      · rintro i y H3 H3' hi rfl ⟨rfl, rfl⟩
        have hi : i < n := hi
        refine ⟨rfl, _, upd_same, ?_, by rw [upd_upd, rep_snoc]⟩
        rw [List.length_replicate]
        exact sz (m := 200) (by omega)
      · intro H3 e
        exact konst 0 (.inl rfl) D hD _ (fun H' q r1 r2 r3 r4 => k H' q _ r1 r2 (fr q r3) r4 (marks 0 (.inl rfl)) (by simp)) H3 e
    · refine if_f (decide_eq_false fun z => h0 (by injection z)) ⟨_, rfl, rfl, _, rfl, ?_⟩
      by_cases h1 : (d : Int) = 1
      · refine if_t (decide_eq_true (by rw [h1])) ?_
        refine ⟨_, rfl, n, rfl, by omega, by omega, fun D hD => lc_it walk_range (fun i H' => H' = upd H1 D (.lst (List.replicate i (V.int 1)))) rfl (by intros; trivial) ?_ ?_⟩
        · rintro i y H3 H3' hi rfl ⟨rfl, rfl⟩
          have hi : i < n := hi
          refine ⟨rfl, _, upd_same, ?_, by rw [upd_upd, rep_snoc]⟩
          rw [List.length_replicate]
          exact sz (m := 200) (by omega)
        · intro H3 e
          exact konst 1 (.inr rfl) D hD _ (fun H' q r1 r2 r3 r4 => k H' q _ r1 r2 (fr q r3) r4 (marks 1 (.inr rfl)) (by simp)) H3 e
      · refine if_f (decide_eq_false fun z => h1 (by injection z)) ?_
        refine ⟨_, rfl, n, rfl, by omega, by omega, fun D hD => ?_⟩
        obtain ⟨rD, Dx⟩ := rfree D hD
        refine lc_it walk_range (fun i H' => ∃ (a b c : Int) (st : List Int), st.length = i ∧ Marks st ∧ H' = upd (upd H1 D (.lst (st.map V.int))) x (BX a b c)) ?_ (by intros; trivial) ?_ ?_
        · refine ⟨a, b, c, [], rfl, fun m h => by simp at h, ?_⟩
          exact (upd_self (show (upd H1 D (.lst ([] : List V))) x = some (BX a b c) from (upd_ne Dx.symm).trans hx1)).symm
        · rintro i y H3 H3' hi ⟨a, b, c, st, hs, hm, rfl⟩ ⟨rfl, rfl⟩
          have hi : i < n := hi
          refine ⟨rfl, _, rfl, x, 2, a, b, c, rfl, upd_same, by decide, by decide, fun a b c e he => ?_⟩
          rw [upd_upd]
          have eD : (upd (upd H1 D (.lst (st.map V.int))) x (BX a b c)) D = some (.lst (st.map V.int)) := by rw [upd_ne Dx, upd_same]
          refine ⟨_, eD, ?_, a, b, c, st ++ [(e : Int)], by simp [hs], ?_, ?_⟩
          · rw [List.length_map, hs]
            exact sz (m := 200) (by omega)
          · intro z hz
            rcases List.mem_append.mp hz with hz | hz
            · exact hm z hz
            · have : z = (e : Int) := by simpa using hz
              omega
          · funext bb
            by_cases e1 : bb = D
            · rw [e1, upd_same, upd_ne Dx, upd_same]
              simp
            · rw [upd_ne e1]
              by_cases e2 : bb = x
              · rw [e2, upd_same, upd_same]
              · rw [upd_ne e2, upd_ne e1, upd_ne e2, upd_ne e1]
        · rintro H3 ⟨a, b, c, st, hs, hm, rfl⟩
          have eD : (upd (upd H1 D (.lst (st.map V.int))) x (BX a b c)) D = some (.lst (st.map V.int)) := by rw [upd_ne Dx, upd_same]
          refine ⟨D, _, rfl, .inl ⟨SqL.of eD, fun l hl => ?_⟩⟩
          obtain ⟨lx, hl1⟩ := upd_none hl
          obtain ⟨lD, hl2⟩ := upd_none hl1
          obtain ⟨rl, _⟩ := rfree l hl2
          refine k _ l st (((R1.at rD).at rx).at rl) ⟨a, b, c, by rw [upd_ne lx.symm, upd_same]⟩ (fr l hl2) ?_ hm (by rw [hs]; simp)
          show upd _ l _ l = _
          rw [upd_same]
end
end FK
set_option Elab.async false
set_option linter.all false
set_option maxRecDepth 100000
set_option maxHeartbeats 4000000
set_option pp.maxSteps 400
namespace FK
open PySem PySem.Spec PyProof.Rows L2
/-- how H1 stands to H beside the box at x -/
structure Bx (H H1 : Hp) (x : Addr) : Prop where
  same : Same (ItX.dropH H x) H1
  box : BoxAt H1 x
  fr : ∀ l, H1 l = none → H l = none
theorem Bx.refl {H : Hp} {x : Addr} (h : BoxAt H x) : Bx H H x := ⟨fun b o e => by
  have ne : b ≠ x := fun z => by rw [z, ItX.dropH_same] at e; cases e
  rw [ItX.dropH_ne ne] at e
  exact e, h, fun _ e => e⟩
theorem Bx.take {H H1 : Hp} {x : Addr} (b : Bx H H1 x) (a1 b1 c1 : Int) : Bx H (upd H1 x (BX a1 b1 c1)) x := ⟨b.same.at ItX.dropH_same, ⟨_, _, _, upd_same⟩, fun l e => b.fr l (upd_none e).2⟩
theorem Bx.new {H H1 : Hp} {x l : Addr} {o : HO} (b : Bx H H1 x) (hl : H1 l = none) : Bx H (upd H1 l o) x := by
  obtain ⟨a, b1, c, e⟩ := b.box
  exact ⟨b.same.upd' hl, ⟨a, b1, c, (upd_ne (ne_of_none e hl)).trans e⟩, fun k e => b.fr k (upd_none e).2⟩
theorem Bx.put {H H1 : Hp} {x l : Addr} {o : HO} (b : Bx H H1 x) (hl : H l = none) (hx : l ≠ x) : Bx H (upd H1 l o) x := by
  obtain ⟨a, b1, c, e⟩ := b.box
  refine ⟨b.same.at (by rw [ItX.dropH_ne hx]; exact hl), ⟨a, b1, c, (upd_ne hx.symm).trans e⟩, fun k e => b.fr k (upd_none e).2⟩
theorem Bx.same' {H H1 H2 : Hp} {x : Addr} (b : Bx H H1 x) (s : Same H1 H2) : Bx H H2 x := by
  obtain ⟨a, b1, c, e⟩ := b.box
  exact ⟨b.same.trans s, ⟨a, b1, c, s _ _ e⟩, fun k e => b.fr k (s.free e)⟩
theorem Bx.at {H H1 : Hp} {x p : Addr} {o : HO} (b : Bx H H1 x) (h : H p = some o) (hx : p ≠ x) : H1 p = some o := b.same _ _ (drop_at h hx)
section
variable {P : Program} {w : World} {K : PySem.W.Frag} {mg : Str → Option Value} {base : Heap} {c : Cs}
/-! _law_done -/
def spDone : Sp := fun vs H Q _ => ∃ (x : Addr) (m : Nat), vs = [.ref x, .int (m : Nat)] ∧ BoxAt H x ∧ m ≤ 200 ∧ ∀ (H' : Hp) (d : Option Nat), Bx H H' x → (∀ k, d = some k → k ≤ m) → Q (doneV d) H'
abbrev sDone : Stmt := topS 53
theorem scDone : FnScope ["_law_box_here", "_law_most", "_law_kind", "_law_some"] ["_law_box_here", "_law_most"] (defScope sDone) := ⟨rfl, rfl, rfl, by decide +kernel, rfl, by decide +kernel, by decide +kernel⟩
theorem ok_done (T : Txt K mg) : FnB P w K mg base CX0 3 "_law_done" spDone := by
  have G : FnB P w K mg base CX0 2 "_law_take" spTake := ok_take T
  refine T.lDone.ok scDone (fun vs H Q E h => ?_) (fun f cdv A outer s H vs Q E hr h => ?_)
  · obtain ⟨x, m, rfl, _⟩ := h
    rfl
  · obtain ⟨x, m, rfl, hb, hm, k⟩ := h
    obtain ⟨a, b, c, hx⟩ := id hb
    refine ⟨_, pss_cons (ps_set (i := 2) scDone.nd rfl (.inl rfl) (pcall G hr pass0 (pa_cons (pv 0) (pa_cons pe_int pa_nil))))
      (pss_cons (ps_set (i := 3) scDone.nd rfl (.inl rfl) (pcall G hr pass0 (pa_cons (pv 0) (pa_cons (pe_op op_add (pv 1) pe_int) pa_nil))))
      (pss_cons (ps_if (pt_cmpR op_eq (pv 2) pe_int (nomark _)) (pss_one (ps_ret pe_non)) pss_nil)
      (pss_one (ps_ret (pe_ix ix_list (pe_lst (pa_cons (pv 1) (pa_cons (pe_callB (call_max2 rfl) (by rfl) T.b.max (by decide +kernel) (pa_cons pe_int (pa_cons (pe_op op_sub (pv 1) pe_int) pa_nil))) (pa_cons pe_int (pa_cons (pv 3) pa_nil))))) (pe_op op_sub (pv 2) pe_int) (fun _ _ => rfl)))))), ?_⟩
    refine ⟨_, rfl, x, 5, a, b, c, rfl, hx, by decide, by decide, fun a b c d hd => ?_⟩
    have b1 := (Bx.refl hb).take a b c
    refine ⟨_, rfl, _, rfl, _, _, rfl, rfl, x, _, a, b, c, rfl, upd_same, by omega, by omega, fun a b c e he => ?_⟩
    have b2 := b1.take a b c
    generalize upd (upd H x _) x (BX a b c) = H2 at b2 ⊢
    refine ⟨_, rfl, rfl, _, rfl, ?_⟩
    by_cases h0 : (d : Int) = 0
    · refine if_t (decide_eq_true (by rw [h0])) (k H2 none b2 fun k z => nomatch z)
    · refine if_f (decide_eq_false fun z => h0 (by injection z)) ?_
      refine ⟨_, rfl, _, rfl, _, _, rfl, rfl, _, _, rfl, _, rfl, (by show 4 ≤ sizeLine; decide), fun l hl => ?_⟩
      have b3 : Bx H (upd H2 l (.lst [.int (m : Nat), .int (if (m : Int) - 1 > 0 then (m : Int) - 1 else 0), .int 0, .int (e : Nat)])) x := b2.new hl
      have el : (upd H2 l (.lst [.int (m : Nat), .int (if (m : Int) - 1 > 0 then (m : Int) - 1 else 0), .int 0, .int (e : Nat)])) l = some (.lst [.int (m : Nat), .int (if (m : Int) - 1 > 0 then (m : Int) - 1 else 0), .int 0, .int (e : Nat)]) := upd_same
      have emax : (if (m : Int) - 1 > 0 then (m : Int) - 1 else 0) = ((m - 1 : Nat) : Int) := by
        by_cases hm1 : (m : Int) - 1 > 0
        · rw [if_pos hm1]; omega
        · rw [if_neg hm1]; omega
      have pick : ∀ (j : Nat), j < 4 → ∃ r : Nat, ([V.int (m : Nat), .int (if (m : Int) - 1 > 0 then (m : Int) - 1 else 0), .int 0, .int (e : Nat)] : List V)[j]? = some (.int (r : Nat)) ∧ r ≤ m := fun j hj => by
        match j, hj with
        | 0, _ => exact ⟨m, rfl, Nat.le_refl _⟩
        | 1, _ => exact ⟨m - 1, by rw [emax]; rfl, by omega⟩
        | 2, _ => exact ⟨0, rfl, by omega⟩
        | 3, _ => exact ⟨e, rfl, by omega⟩
      obtain ⟨r, er, hr2⟩ := pick (d - 1) (by omega)
      have ed : (d : Int) - 1 = ((d - 1 : Nat) : Int) := by omega
      refine ⟨_, rfl, _, _, rfl, rfl, l, _, _, .int (r : Nat), rfl, rfl, SqL.of el, ?_, k _ (some r) b3 fun k z => by cases z; exact hr2⟩
      rw [ed]
      exact atI_nat er
/-! _law_stranger -/
def spStranger : Sp := fun vs H Q _ => ∃ (x nl : Addr) (ns : List Str), vs = [.ref x, .ref nl] ∧ BoxAt H x ∧ H nl = some (.lst (ns.map V.str)) ∧ 1 ≤ ns.length ∧ ns.length ≤ 12 ∧ (∀ s ∈ ns, NameOk s) ∧
  ∀ (H' : Hp) (z : Str), Bx H H' x → NameOk z → z ∉ ns → Q (.str z) H'
abbrev sStranger : Stmt := topS 52
abbrev nStranger : List Str := ["_law_box_here", "_law_names_here", "_law_near", "_law_kind", "_law_word_here", "_law_one"]
theorem scStranger : FnScope nStranger ["_law_box_here", "_law_names_here"] (defScope sStranger) := ⟨rfl, rfl, rfl, by decide +kernel, rfl, by decide +kernel, by decide +kernel⟩
theorem cut_name {z : Str} (h : NameOk z) (h1 : 1 < z.length) : NameOk (cutS z none (some (-1))) := by
  have e : HT.sIx z.length z.length (some (-1)) = z.length - 1 := by
    show (if (-1 : Int) < 0 then ((-1 : Int) + (z.length : Int)).toNat else min (-1 : Int).toNat z.length) = _
    rw [if_pos (by decide)]
    omega
  have ez : z.cps.toList.length = z.length := by simp [PySem.Str.length]
  have el : (cutS z none (some (-1))).cps.toList = z.cps.toList.take (z.length - 1) := by
    unfold cutS
    rw [HT.sIx_none, e]
    simp
  have ek : (cutS z none (some (-1))).length = z.length - 1 := by
    have : (cutS z none (some (-1))).cps.toList.length = (cutS z none (some (-1))).length := by simp [PySem.Str.length]
    rw [← this, el, List.length_take, ez]
    omega
  have := h.2.1
  refine ⟨by omega, by omega, fun c hc => ?_⟩
  rw [el] at hc
  exact h.2.2 c (List.mem_of_mem_take hc)
theorem nl_box {H : Hp} {x nl : Addr} {ns : List Str} (hb : BoxAt H x) (hnl : H nl = some (.lst (ns.map V.str))) (h1 : 1 ≤ ns.length) : nl ≠ x := fun e => by
  obtain ⟨a, b, c, hx⟩ := hb
  rw [e, hx] at hnl
  cases ns with
  | nil => simp at h1
  | cons s r =>
    have e2 := Option.some.inj hnl
    injection e2 with e2
    simp at e2
theorem ok_stranger (T : Txt K mg) : FnB P w K mg base CX0 4 "_law_stranger" spStranger := by
  have G : FnB P w K mg base CX0 2 "_law_take" spTake := ok_take T
  have G2 : FnB P w K mg base CX0 3 "_law_word" spWord := ok_word T
  refine T.lStranger.ok scStranger (fun vs H Q E h => ?_) (fun f cdv A outer s H vs Q E hr h => ?_)
  · obtain ⟨x, nl, ns, rfl, _⟩ := h
    rfl
  · obtain ⟨x, nl, ns, rfl, hb, hnl, h1, h12, hno, k⟩ := h
    obtain ⟨a, b, c, hx⟩ := id hb
    have nx := nl_box hb hnl h1
    refine ⟨_, pss_cons (ps_set (i := 2) scStranger.nd rfl (.inl rfl) (pe_ix ix_list (pv 1) (pcall G (hr.mono (by decide)) pass0 (pa_cons (pv 0) (pa_cons (pe_callB call_len_seq (by rfl) T.b.len (by decide +kernel) (pa_cons (pv 1) pa_nil)) pa_nil))) (fun _ _ => rfl)))
      (pss_cons (ps_set (i := 3) scStranger.nd rfl (.inl rfl) (pcall G (hr.mono (by decide)) pass0 (pa_cons (pv 0) (pa_cons pe_int pa_nil))))
      (pss_cons (ps_set (i := 4) scStranger.nd rfl (.inl rfl) (pcall G2 hr pass0 (pa_cons (pv 0) (pa_cons (pe_op op_add pe_int (pcall G (hr.mono (by decide)) pass0 (pa_cons (pv 0) (pa_cons pe_int pa_nil)))) pa_nil))))
      (pss_cons (ps_cut (ps_if (PW.pt (pw_and (pt_cmpR op_eq (pv 3) pe_int (nomark _)) (pw_and1 (pt_cmpR op_gt (pe_callB call_len_str (by rfl) T.b.len (by decide +kernel) (pa_cons (pv 2) pa_nil)) pe_int (nomark _)))))
          (pss_one (ps_set (i := 4) scStranger.nd rfl (.inl rfl) (pe_slice sl_str (pv 2) po_none (po_some (pe_un un_neg pe_int))))) pss_nil))
      (pss_cons (ps_cut (ps_if (PW.pt (pw_and (pt_cmpR op_eq (pv 3) pe_int (nomark _)) (pw_and1 (pt_cmpR op_lt (pe_callB call_len_str (by rfl) T.b.len (by decide +kernel) (pa_cons (pv 2) pa_nil)) pe_int (nomark _)))))
          (pss_one (ps_set (i := 4) scStranger.nd rfl (.inl rfl) (pe_op op_add_str (pv 2) (pcall G2 hr pass0 (pa_cons (pv 0) (pa_cons pe_int pa_nil)))))) pss_nil))
      (pss_cons (ps_cut (ps_if (pt_cmpR op_in_seq (pv 4) (pv 1) (by rfl))
          (pss_one (ps_set (i := 4) scStranger.nd rfl (.inl rfl) (pe_ix ix_list (pe_lc (own := [("_law_one", 5)]) (g := gName 5) (tt := tTest (tOp (rIn K true) (tVar 5) (tVar 1))) (te := tVar 5) rfl scStranger.nd (pi_str pe_str)
              (blkOk_by (N := nStranger) (sc := defScope sStranger) (by decide +kernel)) (fun _ _ _ _ _ => pg_name (i := 5) scStranger.nd rfl (.inl rfl))
              (fun _ _ _ _ _ => pts_one (pt_cmpR op_notIn_seq (pv 5) (pv 1) (by rfl))) (fun _ _ _ _ _ => pv 5)) pe_int (fun _ _ => rfl)))) pss_nil))
      (pss_one (ps_ret (pv 4)))))))), ?_⟩
    refine ⟨_, rfl, _, rfl, _, rfl, nl, _, rfl, .inl (SqL.of hnl), x, _, a, b, c, rfl, hx, ?_, ?_, fun a b c d hd => ?_⟩
    · rw [List.length_map]; omega
    · rw [List.length_map]; omega
    rw [List.length_map] at hd
    have hd : d < ns.length := by omega
    have b1 := (Bx.refl hb).take a b c
    have hx1 : upd H x (BX a b c) x = some (BX a b c) := upd_same
    generalize upd H x (BX a b c) = H1 at b1 hx1 ⊢
    have hat : atI (ns.map V.str) (d : Int) = some (.str ns[d]) := atI_nat (by rw [List.getElem?_map, List.getElem?_eq_getElem hd]; rfl)
    have hnear := hno ns[d] (List.getElem_mem hd)
    refine ⟨nl, _, _, _, rfl, rfl, SqL.of (b1.at hnl nx), hat, ?_⟩
    generalize ns[d] = near at hnear
    refine ⟨_, rfl, x, 3, a, b, c, rfl, hx1, by decide, by decide, fun a b c kd hkd => ?_⟩
    have b2 := b1.take a b c
    have hx2 : upd H1 x (BX a b c) x = some (BX a b c) := upd_same
    generalize upd H1 x (BX a b c) = H2 at b2 hx2 ⊢
    refine ⟨_, rfl, _, rfl, x, 8, a, b, c, rfl, hx2, by decide, by decide, fun a b c d2 hd2 => ⟨_, _, rfl, rfl, ?_⟩⟩
    refine ⟨x, d2 + 1, a, b, c, one_more x d2, upd_same, by omega, fun a b c z hz hzc => ?_⟩
    rw [upd_upd]
    have b3 := b2.take a b c
    have hzn : NameOk z := .of hz (by omega) (by omega) hzc
    generalize upd H2 x (BX a b c) = H3 at b3 ⊢
    have nlen := hnear.2.1
    refine ⟨fun σ' H' => ∃ z, σ' = [some (.ref x), some (.ref nl), some (.str near), some (.int (kd : Nat)), some (.str z), none] ∧ H' = H3 ∧ NameOk z, ?_, ?_⟩
    · refine ⟨_, rfl, rfl, _, rfl, ?_⟩
      by_cases h0 : (kd : Int) = 0
      · refine if_t (decide_eq_true (by rw [h0])) ⟨_, rfl, near, rfl, sz' (show near.length ≤ 8 from nlen), _, _, rfl, rfl, _, rfl, ?_⟩
        by_cases hl : (1 : Int) < (near.length : Nat)
        · refine if_t (decide_eq_true hl) ⟨_, rfl, _, rfl, _, rfl, near, rfl, sz' (show near.length ≤ 8 from nlen), _, rfl, rfl, cut_name hnear (by omega)⟩
        · exact if_f (decide_eq_false hl) ⟨z, rfl, rfl, hzn⟩
      · exact if_f (decide_eq_false fun q => h0 (by injection q)) ⟨z, rfl, rfl, hzn⟩
    rintro σ' H' ⟨z, rfl, rfl, hzn⟩
    refine ⟨fun σ' H' => ∃ z, σ' = [some (.ref x), some (.ref nl), some (.str near), some (.int (kd : Nat)), some (.str z), none] ∧ Bx H H' x ∧ NameOk z, ?_, ?_⟩
    · refine ⟨_, rfl, rfl, _, rfl, ?_⟩
      by_cases h0 : (kd : Int) = 1
      · refine if_t (decide_eq_true (by rw [h0])) ⟨_, rfl, near, rfl, sz' (show near.length ≤ 8 from nlen), _, _, rfl, rfl, _, rfl, ?_⟩
        by_cases hl : ((near.length : Nat) : Int) < 8
        · obtain ⟨a3, b3', c3, hx3⟩ := b3.box
          refine if_t (decide_eq_true hl) ⟨_, rfl, _, rfl, x, 1, _, _, _, rfl, hx3, by decide, fun a b c y hy hyc => ⟨_, _, rfl, rfl, sz' (show near.length + y.length ≤ 9 by omega), _, rfl, b3.take a b c, ?_⟩⟩
          refine .of (n := near.length + 1) (by rw [PySem.Str.length_append, hy]) (by omega) (by omega) fun ch hch => ?_
          rw [PySem.Str.cps_append, Array.toList_append] at hch
          rcases List.mem_append.mp hch with hch | hch
          · exact hnear.2.2 ch hch
          · exact hyc ch hch
        · exact if_f (decide_eq_false hl) ⟨z, rfl, b3, hzn⟩
      · exact if_f (decide_eq_false fun q => h0 (by injection q)) ⟨z, rfl, b3, hzn⟩
    rintro σ' H' ⟨z, rfl, b4, hzn⟩
    have hnl4 := b4.at hnl nx
    refine ⟨fun σ' H' => ∃ z y, σ' = [some (.ref x), some (.ref nl), some (.str near), some (.int (kd : Nat)), some (.str z), y] ∧ Bx H H' x ∧ NameOk z ∧ z ∉ ns, ?_, ?_⟩
    · refine ⟨_, rfl, _, rfl, nl, _, rfl, .inl (SqL.of hnl4), rfl, flat_strs _, _, rfl, ?_⟩
      have einV : (if false = true then !inV (V.str z) (ns.map V.str) else inV (V.str z) (ns.map V.str)) = decide (z ∈ ns) := inV_str z ns
      by_cases hm : z ∈ ns
      · refine if_t (by rw [einV]; exact decide_eq_true hm) ?_
        refine ⟨_, rfl, fun D hD => ?_⟩
        have Dn : D ≠ nl := fun e => by rw [e, hnl4] at hD; cases hD
        have D0 : H D = none := b4.fr D hD
        have Dx : D ≠ x := fun e => by rw [e] at D0; rw [D0] at hx; cases hx
        refine lc_it walk_str (fun i H' => Bx H H' x ∧ H' D = some (.lst (((lets.take i).filter fun s => decide (s ∉ ns)).map V.str))) ?_ ?_ ?_ ?_
        · exact ⟨b4.new hD, upd_same⟩
        · intros
          trivial
        · rintro i x' H5 H5' hi ⟨b5, eD⟩ ⟨rfl, ch, hch, rfl⟩
          have hch2 : lets[i]? = some ⟨#[ch]⟩ := by
            unfold lets
            rw [List.getElem?_map, Array.getElem?_toList]
            have hch' : abc.cps[i]? = some ch := hch
            rw [hch']
            rfl
          have es := take_snoc hch2
          refine ⟨rfl, _, rfl, _, rfl, nl, _, rfl, .inl (SqL.of (b5.at hnl nx)), rfl, flat_strs _, _, rfl, ?_⟩
          have einV2 : (if true = true then !inV (V.str ⟨#[ch]⟩) (ns.map V.str) else inV (V.str ⟨#[ch]⟩) (ns.map V.str)) = !decide ((⟨#[ch]⟩ : Str) ∈ ns) := congrArg (!·) (inV_str _ ns)
          by_cases hm2 : (⟨#[ch]⟩ : Str) ∈ ns
          · refine if_f (by rw [einV2, decide_eq_true hm2]; rfl) ⟨b5, ?_⟩
            rw [eD, es, List.filter_append, List.filter_cons_of_neg (by simpa using hm2)]
            simp
          · refine if_t (by rw [einV2, decide_eq_false hm2]; rfl) ⟨_, rfl, _, eD, ?_, b5.put D0 Dx, ?_⟩
            · refine sz (m := 26) ?_
              rw [List.length_map]
              refine Nat.le_trans (List.length_filter_le _ _) ?_
              rw [List.length_take, lets_len]
              omega
            · rw [upd_same, es, List.filter_append, List.filter_cons_of_pos (by simpa using hm2)]
              simp
        · rintro H5 ⟨b5, eD⟩
          have el26 : lets.take abc.cps.size = lets := List.take_of_length_le (by rw [lets_len]; decide +kernel)
          have eD : H5 D = some (.lst (((lets.take abc.cps.size).filter fun s => decide (s ∉ ns)).map V.str)) := eD
          rw [el26] at eD
          obtain ⟨s, r, e1, e2, e3⟩ := free_let (ns := ns) (by omega)
          rw [e1] at eD
          exact ⟨D, _, 0, .str s, rfl, rfl, SqL.of eD, atI_nat (j := 0) rfl, s, none, rfl, b5, lets_ok e2, e3⟩
      · exact if_f (by rw [einV]; exact decide_eq_false hm) ⟨z, none, rfl, b4, hzn, hm⟩
    rintro σ' H' ⟨z, y, rfl, b5, hzn, hm⟩
    exact ⟨_, rfl, k H' z b5 hzn hm⟩
end
end FK
set_option Elab.async false
set_option linter.all false
set_option maxRecDepth 100000
set_option maxHeartbeats 4000000
set_option pp.maxSteps 400
namespace FK
open PySem PySem.Spec PyProof.Rows L2
theorem cutV_from (xs : List V) (k : Nat) : cutV xs (some (k : Int)) none = xs.drop k := by
  unfold cutV
  rw [HT.sIx_none, HT.sIx_nat, List.take_of_length_le (by rw [List.length_drop]; exact Nat.le_refl _)]
  by_cases h : k ≤ xs.length
  · rw [Nat.min_eq_left h]
  · rw [Nat.min_eq_right (by omega), List.drop_eq_nil_of_le (Nat.le_refl _), List.drop_eq_nil_of_le (by omega)]
/-- t + u, told by what the sum holds -/
theorem cat_any {K : PySem.W.Frag} {H : Hp} {a b : Addr} {xs ys : List V} {Q : VK} (ha : H a = some (.tup xs)) (hb : H b = some (.tup ys)) (hl : xs.length + ys.length ≤ 1000) (k : ∀ H' r, Same H H' → H' r = some (.tup (xs ++ ys)) → Q (.ref r) H') : rCatA K (.ref a) (.ref b) H Q := by
  refine ⟨a, b, xs, ys, rfl, rfl, SqT.of ha, SqT.of hb, sz' hl, fun h => ?_, fun _ h => ?_, fun _ _ p hp => k _ p (Same.upd hp) upd_same⟩
  · subst h
    exact k H b (.refl _) hb
  · subst h
    exact k H a (.refl _) (by rw [List.append_nil]; exact ha)
section
variable {P : Program} {w : World} {K : PySem.W.Frag} {mg : Str → Option Value} {base : Heap} {c : Cs}
def spBadState : Sp := fun vs H Q _ => ∃ (x q : Addr) (st : List Int), vs = [.ref x, .ref q] ∧ BoxAt H x ∧ TupAt H q st ∧ st.length ≤ 200 ∧ ∀ (H' : Hp) (q' : Addr), Bx H H' x → BadAt H' q' st.length → Q (.ref q') H'
abbrev sBadState : Stmt := topS 51
abbrev nBadState : List Str := ["_law_box_here", "_law_state_here", "_law_kind", "_law_at", "_law_odd"]
theorem scBadState : FnScope nBadState ["_law_box_here", "_law_state_here"] (defScope sBadState) := ⟨rfl, rfl, rfl, by decide +kernel, rfl, by decide +kernel, by decide +kernel⟩
theorem bad_len {xs : List V} {n : Nat} (h : xs.length ≠ n) : goodB xs n = false := by
  unfold goodB
  rw [decide_eq_false h]
  rfl
theorem bad_mark {xs : List V} {n : Nat} {v : V} (h : v ∈ xs) (hv : belowV v 2 = false) : goodB xs n = false := by
  unfold goodB
  have : (xs.all fun x => belowV x 2) = false := by
    rw [List.all_eq_false]
    exact ⟨v, h, by rw [hv]; decide⟩
  rw [this, Bool.and_false]
theorem odd_marks (d : Nat) (h : d < 5) : ∃ v, ([V.int 2, .int (-1), .non, .bl true, .bl false] : List V)[d]? = some v ∧ PlainV v ∧ belowV v 2 = false := by
  match d, h with
  | 0, _ => exact ⟨_, rfl, .int _, rfl⟩
  | 1, _ => exact ⟨_, rfl, .int _, rfl⟩
  | 2, _ => exact ⟨_, rfl, .non, rfl⟩
  | 3, _ => exact ⟨_, rfl, .bl _, rfl⟩
  | 4, _ => exact ⟨_, rfl, .bl _, rfl⟩
theorem ok_badState (T : Txt K mg) : FnB P w K mg base CX0 3 "_law_bad_state" spBadState := by
  have G : FnB P w K mg base CX0 2 "_law_take" spTake := ok_take T
  refine T.lBadState.ok scBadState (fun vs H Q E h => ?_) (fun f cdv A outer s H vs Q E hr h => ?_)
  · obtain ⟨x, q, st, rfl, _⟩ := h
    rfl
  · obtain ⟨x, q, st, rfl, hb, hq, hn, k⟩ := h
    obtain ⟨a, b, c, hx⟩ := id hb
    have qx : q ≠ x := fun e => by rw [e] at hq; have hq : H x = _ := hq; rw [hx] at hq; cases hq
    refine ⟨_, pss_cons (ps_set (i := 2) scBadState.nd rfl (.inl rfl) (pcall G hr pass0 (pa_cons (pv 0) (pa_cons pe_int pa_nil))))
      (pss_cons (ps_set (i := 3) scBadState.nd rfl (.inl rfl) (pcall G hr pass0 (pa_cons (pv 0) (pa_cons (pe_callB (call_max2 rfl) (by rfl) T.b.max (by decide +kernel) (pa_cons pe_int (pa_cons (pe_callB call_len_seq (by rfl) T.b.len (by decide +kernel) (pa_cons (pv 1) pa_nil)) pa_nil))) pa_nil))))
      (pss_cons (ps_set (i := 4) scBadState.nd rfl (.inl rfl) (pcall G hr pass0 (pa_cons (pv 0) (pa_cons pe_int pa_nil))))
      (pss_cons (ps_cut (ps_if (PW.pt (pw_or (pt_cmpR op_eq (pv 2) pe_int (nomark _)) (pw_or1 (PW.pt (pw_and (pt_cmpR op_gt (pv 2) pe_int (nomark _)) (pw_and1 (pt_cmpR op_eq (pe_callB call_len_seq (by rfl) T.b.len (by decide +kernel) (pa_cons (pv 1) pa_nil)) pe_int (nomark _))))))))
        (pss_one (ps_ret (pe_callTy call_list_of (by rfl) T.b.list (by decide +kernel) (pa_cons (pv 1) pa_nil)))) pss_nil))
      (pss_cons (ps_cut (ps_if (PW.pt (pw_or (pt_cmpR op_eq (pv 2) pe_int (nomark _)) (pw_or1 (pt_cmpR op_eq (pe_callB call_len_seq (by rfl) T.b.len (by decide +kernel) (pa_cons (pv 1) pa_nil)) pe_int (nomark _)))))
        (pss_one (ps_ret (pe_op op_catA (pv 1) (pe_tup (pa_cons (pcall G hr pass0 (pa_cons (pv 0) (pa_cons pe_int pa_nil))) pa_nil))))) pss_nil))
      (pss_cons (ps_if (pt_cmpR op_eq (pv 2) pe_int (nomark _)) (pss_one (ps_ret (pe_slice sl_tup (pv 1) (po_some pe_int) po_none))) pss_nil)
      (pss_one (ps_ret (pe_op op_catA (pe_op op_catA (pe_slice sl_tup (pv 1) po_none (po_some (pv 3)))
          (pe_tup (pa_cons (pe_ix ix_list (pe_lst (pa_cons pe_int (pa_cons (pe_un un_neg pe_int) (pa_cons pe_non (pa_cons pe_bl (pa_cons pe_bl pa_nil)))))) (pv 4) (fun _ _ => rfl)) pa_nil)))
        (pe_slice sl_tup (pv 1) (po_some (pe_op op_add (pv 3) pe_int)) po_none))))))))), ?_⟩
    refine ⟨_, rfl, x, 6, a, b, c, rfl, hx, by decide, by decide, fun a b c kd hkd => ?_⟩
    have b1 := (Bx.refl hb).take a b c
    have hx1 : upd H x (BX a b c) x = some (BX a b c) := upd_same
    generalize upd H x (BX a b c) = H1 at b1 hx1 ⊢
    have hq1 := b1.at hq qx
    refine ⟨_, rfl, _, rfl, q, _, rfl, .inr (SqT.of hq1), _, _, rfl, x, _, a, b, c, rfl, hx1, ?_, ?_, fun a b c at_ hat => ?_⟩
    · show (0 : Int) < (if ((st.map V.int).length : Int) > 1 then ((st.map V.int).length : Int) else 1)
      by_cases h : ((st.map V.int).length : Int) > 1
      · rw [if_pos h]; omega
      · rw [if_neg h]; omega
    · show (if ((st.map V.int).length : Int) > 1 then ((st.map V.int).length : Int) else 1) < 1000000
      rw [List.length_map]
      by_cases h : (st.length : Int) > 1
      · rw [if_pos h]; omega
      · rw [if_neg h]; omega
    have hat2 : 1 ≤ st.length → at_ < st.length := fun h => by
      have hat : (at_ : Int) < (if ((st.map V.int).length : Int) > 1 then ((st.map V.int).length : Int) else 1) := hat
      rw [List.length_map] at hat
      by_cases h2 : (st.length : Int) > 1
      · rw [if_pos h2] at hat; omega
      · rw [if_neg h2] at hat; omega
    have b2 := b1.take a b c
    have hx2 : upd H1 x (BX a b c) x = some (BX a b c) := upd_same
    generalize upd H1 x (BX a b c) = H2 at b2 hx2 ⊢
    refine ⟨_, rfl, x, 5, a, b, c, rfl, hx2, by decide, by decide, fun a b c od hod => ?_⟩
    have b3 := b2.take a b c
    have hx3 : upd H2 x (BX a b c) x = some (BX a b c) := upd_same
    generalize upd H2 x (BX a b c) = H3 at b3 hx3 ⊢
    have hq3 : H3 q = some (.tup (st.map V.int)) := b3.at hq qx
    have rlist : ∀ l, H3 l = none → Q (.ref l) (upd H3 l (.lst (st.map V.int))) := fun l hl => k _ l (b3.new hl) (.inl ⟨_, upd_same⟩)
    refine ⟨fun σ' H' => σ' = [some (.ref x), some (.ref q), some (.int (kd : Nat)), some (.int (at_ : Nat)), some (.int (od : Nat))] ∧ H' = H3 ∧ kd ≠ 0 ∧ ¬(2 < kd ∧ st.length = 0), ?_, ?_⟩
    · refine ⟨_, rfl, rfl, _, rfl, ?_⟩
      by_cases h0 : (kd : Int) = 0
      · refine if_t (decide_eq_true (by rw [h0])) (if_t rfl ⟨_, rfl, q, _, rfl, .inr (SqT.of hq3), rlist⟩)
      · refine if_f (decide_eq_false fun z => h0 (by injection z)) ⟨_, rfl, _, _, rfl, rfl, _, rfl, ?_⟩
        by_cases h2 : (2 : Int) < (kd : Nat)
        · refine if_t (decide_eq_true h2) ⟨_, rfl, q, _, rfl, .inr (SqT.of hq3), rfl, _, rfl, ?_⟩
          by_cases hn0 : st.length = 0
          · refine if_t (decide_eq_true (by rw [List.length_map, hn0]; rfl)) ⟨_, rfl, q, _, rfl, .inr (SqT.of hq3), rlist⟩
          · refine if_f (decide_eq_false fun z => hn0 (by rw [List.length_map] at z; injection z with z; omega)) ⟨rfl, rfl, by omega, fun z => hn0 z.2⟩
        · refine if_f (decide_eq_false h2) ⟨rfl, rfl, by omega, fun z => h2 (by omega)⟩
    rintro σ' H' ⟨rfl, rfl, hk0, hk2⟩
    refine ⟨fun σ' H4 => σ' = [some (.ref x), some (.ref q), some (.int (kd : Nat)), some (.int (at_ : Nat)), some (.int (od : Nat))] ∧ H4 = H' ∧ kd ≠ 1 ∧ st.length ≠ 0, ?_, ?_⟩
    · refine ⟨_, rfl, rfl, _, rfl, ?_⟩
      by_cases h1 : (kd : Int) = 1
      · refine if_t (decide_eq_true (by rw [h1])) (if_t rfl ?_)
        refine ⟨_, rfl, _, rfl, x, 2, a, b, c, rfl, hx3, by decide, by decide, fun a b c e he => ⟨(by show 1 ≤ sizeLine; decide), fun p hp => ?_⟩⟩
        have b4 := (b3.take a b c).new (o := .tup [.int (e : Nat)]) hp
        have hq4 := b4.at hq qx
        refine cat_any hq4 upd_same (by rw [List.length_map]; show st.length + 1 ≤ 1000; omega) fun H5 r s5 hr5 => k H5 r (b4.same' s5) (.inr ⟨_, hr5, ?_, ?_⟩)
        · intro y hy
          rcases List.mem_append.mp hy with hy | hy
          · exact plain_ints y hy
          · have : y = .int (e : Nat) := by simpa using hy
            rw [this]
            exact .int _
        · refine bad_len ?_
          rw [List.length_append, List.length_map]
          show st.length + 1 ≠ st.length
          omega
      · refine if_f (decide_eq_false fun z => h1 (by injection z)) ⟨_, rfl, q, _, rfl, .inr (SqT.of hq3), rfl, _, rfl, ?_⟩
        by_cases hn0 : st.length = 0
        · refine if_t (decide_eq_true (by rw [List.length_map, hn0]; rfl)) ?_
          refine ⟨_, rfl, _, rfl, x, 2, a, b, c, rfl, hx3, by decide, by decide, fun a b c e he => ⟨(by show 1 ≤ sizeLine; decide), fun p hp => ?_⟩⟩
          have b4 := (b3.take a b c).new (o := .tup [.int (e : Nat)]) hp
          have hq4 := b4.at hq qx
          refine cat_any hq4 upd_same (by rw [List.length_map]; show st.length + 1 ≤ 1000; omega) fun H5 r s5 hr5 => k H5 r (b4.same' s5) (.inr ⟨_, hr5, ?_, ?_⟩)
          · intro y hy
            rcases List.mem_append.mp hy with hy | hy
            · exact plain_ints y hy
            · have : y = .int (e : Nat) := by simpa using hy
              rw [this]
              exact .int _
          · refine bad_len ?_
            rw [List.length_append, List.length_map]
            show st.length + 1 ≠ st.length
            omega
        · exact if_f (decide_eq_false fun z => hn0 (by rw [List.length_map] at z; injection z with z; omega)) ⟨rfl, rfl, by omega, hn0⟩
    rintro σ' H4 ⟨rfl, rfl, hk1, hn0⟩
    have nl : (st.map V.int).length = st.length := List.length_map ..
    refine ⟨_, rfl, rfl, _, rfl, ?_⟩
    by_cases h2 : (kd : Int) = 2
    · refine if_t (decide_eq_true (by rw [h2])) ?_
      refine ⟨_, rfl, _, rfl, q, _, rfl, SqT.of hq3, ?_, fun p hp => ?_⟩
      · rintro ⟨z, _⟩
        rw [show (1 : Int) = ((1 : Nat) : Int) from rfl, HT.sIx_nat, nl] at z
        omega
      · refine k _ p (b3.new hp) (.inr ⟨_, upd_same, ?_, ?_⟩)
        · intro y hy
          rw [show (1 : Int) = ((1 : Nat) : Int) from rfl, cutV_from] at hy
          exact plain_ints y (List.mem_of_mem_drop hy)
        · refine bad_len ?_
          rw [show (1 : Int) = ((1 : Nat) : Int) from rfl, cutV_from, List.length_drop, nl]
          omega
    · refine if_f (decide_eq_false fun z => h2 (by injection z)) ?_
      have hat3 := hat2 (by omega)
      refine ⟨_, rfl, _, rfl, _, rfl, q, _, rfl, SqT.of hq3, ?_, fun p1 hp1 => ?_⟩
      · rintro ⟨_, z⟩
        rw [HT.sIx_nat, nl] at z
        omega
      rw [cutV_take]
      have b4 := b3.new (o := .tup ((st.map V.int).take at_)) hp1
      have e4 : upd H4 p1 (.tup ((st.map V.int).take at_)) p1 = some (.tup ((st.map V.int).take at_)) := upd_same
      generalize upd H4 p1 (.tup ((st.map V.int).take at_)) = H5 at b4 e4 ⊢
      obtain ⟨v, ev, pv1, bv⟩ := odd_marks od (by omega)
      refine ⟨_, rfl, (by show 5 ≤ sizeLine; decide), fun l hl => ?_⟩
      refine ⟨_, rfl, l, _, _, v, rfl, rfl, SqL.of upd_same, atI_nat ev, (by show 1 ≤ sizeLine; decide), fun p2 hp2 => ?_⟩
      have b5 := (b4.new (o := .lst [V.int 2, .int (-1), .non, .bl true, .bl false]) hl).new (o := .tup [v]) hp2
      have s5 : Same H5 (upd (upd H5 l (.lst [V.int 2, .int (-1), .non, .bl true, .bl false])) p2 (.tup [v])) := (Same.upd hl).upd' hp2
      have e5 := s5 _ _ e4
      have e6 : (upd (upd H5 l (.lst [V.int 2, .int (-1), .non, .bl true, .bl false])) p2 (.tup [v])) p2 = some (.tup [v]) := upd_same
      have tl : ((st.map V.int).take at_).length = at_ := by rw [List.length_take, nl]; omega
      refine cat_any e5 e6 (by rw [tl]; show at_ + 1 ≤ 1000; omega) fun H6 r s6 hr6 => ?_
      have b6 := b5.same' s6
      have hq6 := b6.at hq qx
      have eat : (at_ : Int) + 1 = ((at_ + 1 : Nat) : Int) := by omega
      refine ⟨_, rfl, _, rfl, _, _, rfl, rfl, _, rfl, q, _, rfl, SqT.of hq6, ?_, fun p3 hp3 => ?_⟩
      · rintro ⟨z, _⟩
        rw [eat, HT.sIx_nat, nl] at z
        omega
      have b7 := b6.new (o := .tup (cutV (st.map V.int) (some ((at_ : Int) + 1)) none)) hp3
      have ecut : cutV (st.map V.int) (some ((at_ : Int) + 1)) none = (st.map V.int).drop (at_ + 1) := by rw [eat, cutV_from]
      refine cat_any ((Same.upd hp3) _ _ hr6) upd_same ?_ fun H8 r8 s8 hr8 => k H8 r8 (b7.same' s8) (.inr ⟨_, hr8, ?_, ?_⟩)
      · show (((st.map V.int).take at_ ++ [v]).length + (cutV (st.map V.int) (some ((at_ : Int) + 1)) none).length) ≤ 1000
        rw [ecut, List.length_append, tl, List.length_drop, nl]
        show at_ + 1 + _ ≤ 1000
        omega
      · intro y hy
        rcases List.mem_append.mp hy with hy | hy
        · rcases List.mem_append.mp hy with hy | hy
          · exact plain_ints y (List.mem_of_mem_take hy)
          · have : y = v := by simpa using hy
            rw [this]
            exact pv1
        · have hy : y ∈ cutV (st.map V.int) (some ((at_ : Int) + 1)) none := hy
          rw [ecut] at hy
          exact plain_ints y (List.mem_of_mem_drop hy)
      · exact bad_mark (v := v) (by simp) bv
end
end FK
set_option Elab.async false
set_option linter.all false
set_option maxRecDepth 100000
set_option maxHeartbeats 4000000
set_option pp.maxSteps 400
namespace FK
open PySem PySem.Spec PyProof.Rows L2
structure AP (R : Hp) (x el wl sl : Addr) : Prop where
  x0 : R x = none
  e0 : R el = none
  w0 : R wl = none
  s0 : R sl = none
  ex : el ≠ x
  wx : wl ≠ x
  sx : sl ≠ x
  ew : el ≠ wl
  es : el ≠ sl
  ws : wl ≠ sl
structure ST (R H : Hp) (x el wl sl : Addr) (es : List Addr) (evs : List (Ev Str)) (whs : List (Option Str)) (qs : List Addr) (sts : List (List Int)) : Prop where
  same : Same R H
  box : BoxAt H x
  e1 : H el = some (.lst (es.map V.ref))
  e2 : Paired (EvAt H) es evs
  w1 : H wl = some (.lst (whs.map lastV))
  s1 : H sl = some (.lst (qs.map V.ref))
  s2 : Paired (TupAt H) qs sts
section
variable {R H H' : Hp} {x el wl sl : Addr} {es : List Addr} {evs : List (Ev Str)} {whs : List (Option Str)} {qs : List Addr} {sts : List (List Int)}
theorem ST.same' (h : ST R H x el wl sl es evs whs qs sts) (s : Same H H') : ST R H' x el wl sl es evs whs qs sts := by
  obtain ⟨a, b, c, e⟩ := h.box
  exact ⟨h.same.trans s, ⟨a, b, c, s _ _ e⟩, s _ _ h.e1, paired_imp (fun _ _ z => s _ _ z) h.e2, s _ _ h.w1, s _ _ h.s1, paired_imp (fun _ _ z => s _ _ z) h.s2⟩
theorem ST.bx (h : ST R H x el wl sl es evs whs qs sts) (A : AP R x el wl sl) (b : Bx H H' x) : ST R H' x el wl sl es evs whs qs sts := by
  obtain ⟨a, b1, c, e⟩ := h.box
  have t : ∀ {p : Addr} {xs : List V}, H p = some (.tup xs) → H' p = some (.tup xs) := fun {p xs} z => b.at z (ne_of z e (fun q => by cases q))
  refine ⟨fun p o z => b.at (h.same _ _ z) (ne_of_none z A.x0), b.box, b.at h.e1 A.ex, paired_imp (fun _ _ z => t z) h.e2, b.at h.w1 A.wx, b.at h.s1 A.sx, paired_imp (fun _ _ z => t z) h.s2⟩
theorem ST.lst (h : ST R H x el wl sl es evs whs qs sts) {l : Addr} {ys : List V} {o : HO} (hl : H l = some (.lst ys)) (r : R l = none) (lx : l ≠ x) :
    Same R (upd H l o) ∧ BoxAt (upd H l o) x ∧ Paired (EvAt (upd H l o)) es evs ∧ Paired (TupAt (upd H l o)) qs sts := by
  obtain ⟨a, b, c, e⟩ := h.box
  have t : ∀ {p : Addr} {xs : List V}, H p = some (.tup xs) → upd H l o p = some (.tup xs) := fun {p xs} z => by rw [upd_ne (ne_of z hl (fun q => by cases q))]; exact z
  exact ⟨h.same.at r, ⟨a, b, c, (upd_ne lx.symm).trans e⟩, paired_imp (fun _ _ z => t z) h.e2, paired_imp (fun _ _ z => t z) h.s2⟩
theorem ST.ev (h : ST R H x el wl sl es evs whs qs sts) (A : AP R x el wl sl) {tp : Addr} {e : Ev Str} (ht : EvAt H tp e) : ST R (upd H el (.lst (es.map V.ref ++ [.ref tp]))) x el wl sl (es ++ [tp]) (evs ++ [e]) whs qs sts := by
  obtain ⟨h1, h2, h3, h4⟩ := h.lst (o := .lst (es.map V.ref ++ [.ref tp])) h.e1 A.e0 A.ex
  refine ⟨h1, h2, by rw [upd_same]; simp, paired_snoc h3 ?_, (upd_ne A.ew.symm).trans h.w1, (upd_ne A.es.symm).trans h.s1, h4⟩
  show upd H el _ tp = _
  rw [upd_ne (ne_of ht h.e1 (fun q => by cases q))]
  exact ht
theorem ST.wh (h : ST R H x el wl sl es evs whs qs sts) (A : AP R x el wl sl) (wh : Option Str) : ST R (upd H wl (.lst (whs.map lastV ++ [lastV wh]))) x el wl sl es evs (whs ++ [wh]) qs sts := by
  obtain ⟨h1, h2, h3, h4⟩ := h.lst (o := .lst (whs.map lastV ++ [lastV wh])) h.w1 A.w0 A.wx
  exact ⟨h1, h2, (upd_ne A.ew).trans h.e1, h3, by rw [upd_same]; simp, (upd_ne A.ws.symm).trans h.s1, h4⟩
theorem ST.st (h : ST R H x el wl sl es evs whs qs sts) (A : AP R x el wl sl) {q : Addr} {st : List Int} (hq : TupAt H q st) : ST R (upd H sl (.lst (qs.map V.ref ++ [.ref q]))) x el wl sl es evs whs (qs ++ [q]) (sts ++ [st]) := by
  obtain ⟨h1, h2, h3, h4⟩ := h.lst (o := .lst (qs.map V.ref ++ [.ref q])) h.s1 A.s0 A.sx
  refine ⟨h1, h2, (upd_ne A.es).trans h.e1, h3, (upd_ne A.ws).trans h.w1, by rw [upd_same]; simp, paired_snoc h4 ?_⟩
  show upd H sl _ q = _
  rw [upd_ne (ne_of hq h.s1 (fun z => by cases z))]
  exact hq
end
theorem TupAt.put {H : Hp} {q l : Addr} {st : List Int} {ys : List V} {o : HO} (h : TupAt H q st) (hl : H l = some (.lst ys)) : TupAt (upd H l o) q st := by
  show upd H l o q = _
  rw [upd_ne (ne_of h hl (fun z => by cases z))]
  exact h
theorem TupAt.bx {H H' : Hp} {q x : Addr} {st : List Int} (h : TupAt H q st) (hx : BoxAt H x) (b : Bx H H' x) : TupAt H' q st := by
  obtain ⟨a, b1, c, e⟩ := hx
  exact b.at h (ne_of h e (fun z => by cases z))
theorem RowAt.put {H : Hp} {r l : Addr} {row : List (Nat × Int)} {ys : List V} {o : HO} (h : RowAt H r row) (hl : H l = some (.lst ys)) (ne : r ≠ l) : RowAt (upd H l o) r row := by
  obtain ⟨ps, h1, h2⟩ := h
  refine ⟨ps, (upd_ne ne).trans h1, paired_imp (fun a b z => ?_) h2⟩
  rw [upd_ne (ne_of z hl (fun q => by cases q))]
  exact z
theorem RowAt.bx {H H' : Hp} {r x : Addr} {row : List (Nat × Int)} (h : RowAt H r row) (hx : BoxAt H x) (ne : r ≠ x) (b : Bx H H' x) : RowAt H' r row := by
  obtain ⟨ps, h1, h2⟩ := h
  obtain ⟨a, b1, c, e⟩ := hx
  exact ⟨ps, b.at h1 ne, paired_imp (fun u v z => b.at z (ne_of z e (fun q => by cases q))) h2⟩
theorem turns_le {t : Tr Str} {names : List Str} (g : Good t names) {st : List Int} {a : Str} (ha : a ∈ names) : (turnsOf (wayOf t) names st a).length ≤ 11 := by
  have := List.length_filter_le (fun k => decide (brd (cf (wayOf t) names) st ((wayOf t a).take k) ≠ (wayOf t a).getD k false)) (List.range (wayOf t a).length).reverse
  rw [List.length_reverse, List.length_range] at this
  have := g.wlen ha
  unfold turnsOf wrong
  rw [List.length_map]
  omega
section
variable {P : Program} {w : World} {K : PySem.W.Frag} {mg : Str → Option Value} {base : Heap} {c : Cs}
def spEvents : Sp := fun vs H Q _ => ∃ (x b q : Addr) (n : Nat) (R : Hp) (st : List Int) (t : Tr Str) (names : List Str), vs = [.ref x, .ref b, .ref q, .int (n : Nat)] ∧ R x = none ∧ Same R H ∧ BoxAt H x ∧ BookAt R b t names ∧ TupAt R q st ∧ StOk t names st ∧ n ≤ 40 ∧
  ∀ (H' R' : Hp) (p el wl sl : Addr) (evs : List (Ev Str)) (whs : List (Option Str)) (sts : List (List Int)) (qs : List Addr), Same R R' → R' x = none → Same R' H' → BoxAt H' x → R' p = some (.tup [.ref el, .ref wl, .ref sl]) → EvsAt R' el evs → R' wl = some (.lst (whs.map lastV)) →
    R' sl = some (.lst (qs.map V.ref)) → Paired (TupAt R') qs sts → Chain (wayOf t) names evs whs sts → evs.length = n → sts[0]? = some st → (∀ e ∈ evs, e.1 ∈ names) → Q (.ref p) H'
abbrev sEvents : Stmt := topS 54
abbrev nEvents : List Str := ["_law_box_here", "_law_book_here", "_law_state_here", "_law_many_here", "_law_names_here", "_law_events_here", "_law_wholes", "_law_states", "_law_k", "_law_writer", "_law_row", "_law_done_here"]
theorem scEvents : FnScope nEvents ["_law_box_here", "_law_book_here", "_law_state_here", "_law_many_here"] (defScope sEvents) := ⟨rfl, rfl, rfl, by decide +kernel, rfl, by decide +kernel, by decide +kernel⟩
theorem ok_events (T : Txt K mg) : FnB P w K mg base CX0 4 "_law_events" spEvents := by
  have G : FnB P w K mg base CX0 2 "_law_take" spTake := ok_take T
  have G2 : FnB P w K mg base CX0 2 "_law_teller" spTeller := ok_teller T
  have G3 : FnB P w K mg base CX0 2 "_law_needs" spNeeds := ok_needs T
  have G4 : FnB P w K mg base CX0 3 "_law_done" spDone := ok_done T
  have G5 : FnB P w K mg base CX0 1 "_law_after" spAfter := ok_after T
  refine T.lEvents.ok scEvents (fun vs H Q E h => ?_) (fun f cdv A outer s H vs Q E hr h => ?_)
  · obtain ⟨x, b, q, n, R, st, t, names, rfl, _⟩ := h
    rfl
  · obtain ⟨x, b, q, n, R, st, t, names, rfl, hRx, hRH, hbx, hbk, hq, hst, hn, k⟩ := h
    have hu := hu_of hr
    obtain ⟨wd, bd, fd, ld, kvb, h1, h2, h3, h4, h5, h6⟩ := hbk.ex
    have hg := hbk.good
    refine ⟨_, pss_cons (ps_set (i := 4) scEvents.nd rfl (.inl rfl) (pe_callB (call_sortedD rfl) (by rfl) T.b.sorted (by decide +kernel) (pa_cons (pe_ix ix_tup (pv 1) pe_int (fun _ _ => rfl)) pa_nil)))
      (pss_cons (ps_set (i := 5) scEvents.nd rfl (.inl rfl) (pe_lst pa_nil))
      (pss_cons (ps_set (i := 6) scEvents.nd rfl (.inl rfl) (pe_lst pa_nil))
      (pss_cons (ps_set (i := 7) scEvents.nd rfl (.inl rfl) (pe_lst (pa_cons (pv 2) pa_nil)))
      (pss_cons (ps_for PassesOwn.never rfl (pi_range1 (by rfl) T.b.range (pa_cons (pv 3) pa_nil)) (pg_name (i := 8) scEvents.nd rfl (.inl rfl))
        (pss_cons (ps_set (i := 9) scEvents.nd rfl (.inl rfl) (pe_ix ix_list (pv 4) (pcall G (hr.mono (by decide)) pass0 (pa_cons (pv 0) (pa_cons (pe_callB call_len_seq (by rfl) T.b.len (by decide +kernel) (pa_cons (pv 4) pa_nil)) pa_nil))) (fun _ _ => rfl)))
        (pss_cons (ps_cut (ps_if (pt_cmpR op_eq (pcall G (hr.mono (by decide)) pass0 (pa_cons (pv 0) (pa_cons pe_int pa_nil))) pe_int (nomark _)) (pss_one (ps_set (i := 9) scEvents.nd rfl (.inl rfl) (pcall G2 (hr.mono (by decide)) pass0 (pa_cons (pv 1) (pa_cons (pv 2) pa_nil))))) pss_nil))
        (pss_cons (ps_set (i := 10) scEvents.nd rfl (.inl rfl) (pcall G3 (hr.mono (by decide)) pass0 (pa_cons (pv 1) (pa_cons (pv 2) (pa_cons (pv 9) pa_nil)))))
        (pss_cons (ps_set (i := 11) scEvents.nd rfl (.inl rfl) (pcall G4 hr pass0 (pa_cons (pv 0) (pa_cons (pe_callB call_len_seq (by rfl) T.b.len (by decide +kernel) (pa_cons (pv 10) pa_nil)) pa_nil))))
        (pss_cons (ps_expr (pe_bm PySem.F.plainAttrs_list PySem.F.slot_list_append PySem.F.type_list_append mt_append (pv 5) (pa_cons (pe_tup (pa_cons (pv 9) (pa_cons (pv 11) pa_nil))) pa_nil)))
        (pss_cons (ps_cut (ps_if (PW.pt (pw_or (pt_cmp (pc_isN (pv 11))) (pw_or1 (pt_cmpR op_eq (pv 11) (pe_callB call_len_seq (by rfl) T.b.len (by decide +kernel) (pa_cons (pv 10) pa_nil)) (nomark _)))))
          (pss_one (ps_expr (pe_bm PySem.F.plainAttrs_list PySem.F.slot_list_append PySem.F.type_list_append mt_append (pv 6) (pa_cons (pv 9) pa_nil))))
          (pss_cons (ps_expr (pe_bm PySem.F.plainAttrs_list PySem.F.slot_list_append PySem.F.type_list_append mt_append (pv 6) (pa_cons pe_non pa_nil)))
            (pss_one (ps_set (i := 10) scEvents.nd rfl (.inl rfl) (pe_slice sl_list (pv 10) po_none (po_some (pv 11))))))))
        (pss_cons (ps_set (i := 2) scEvents.nd rfl (.inl rfl) (pcall G5 (hr.mono (by decide)) pass0 (pa_cons (pv 2) (pa_cons (pv 10) pa_nil))))
        (pss_one (ps_expr (pe_bm PySem.F.plainAttrs_list PySem.F.slot_list_append PySem.F.type_list_append mt_append (pv 7) (pa_cons (pv 2) pa_nil))))))))))))
      (pss_one (ps_ret (pe_tup (pa_cons (pv 5) (pa_cons (pv 6) (pa_cons (pv 7) pa_nil)))))))))), ?_⟩
    refine ⟨_, rfl, b, _, 0, _, rfl, rfl, SqT.of (hRH _ _ h1), atI_nat (j := 0) rfl, wd, kvW (t.ways []), t.leaves, rfl, .of (hRH _ _ h2), by rw [kvW_keys, ways_fst], by have := hg.ok.le; omega, fun ys nl hperm hsrt hnl => ?_⟩
    have ey : ys = names := sorted_same hperm hg.nm.perm hsrt hg.nm.srt
    subst ey
    obtain ⟨a0, b0, c0, hx0⟩ := id hbx
    have nlx : nl ≠ x := fun e => by rw [e, hx0] at hnl; cases hnl
    have RR1 : Same R (upd R nl (.lst (ys.map V.str))) := Same.upd (hRH.free hnl)
    have R1H : Same (upd R nl (.lst (ys.map V.str))) (upd H nl (.lst (ys.map V.str))) := fun p o e => by
      by_cases h : p = nl
      · rw [h, upd_same] at e ⊢
        exact e
      · rw [upd_ne h] at e ⊢
        exact hRH _ _ e
    have r1x : upd R nl (.lst (ys.map V.str)) x = none := (upd_ne nlx.symm).trans hRx
    have r1nl : upd R nl (.lst (ys.map V.str)) nl = some (.lst (ys.map V.str)) := upd_same
    have hx1 : upd H nl (.lst (ys.map V.str)) x = some (BX a0 b0 c0) := (upd_ne nlx.symm).trans hx0
    generalize upd R nl (.lst (ys.map V.str)) = R1 at RR1 R1H r1x r1nl
    generalize upd H nl (.lst (ys.map V.str)) = H1 at R1H hx1 ⊢
    have hbk1 : BookAt R1 b t ys := hbk.same RR1
    have hq1 : TupAt R1 q st := RR1 _ _ hq
    refine ⟨(by show 0 ≤ sizeLine; decide), fun el hel => ⟨(by show 0 ≤ sizeLine; decide), fun wl hwl => ⟨_, rfl, (by show 1 ≤ sizeLine; decide), fun sl hsl => ?_⟩⟩⟩
    obtain ⟨we, hwl1⟩ := upd_none hwl
    obtain ⟨sw, hsl1⟩ := upd_none hsl
    obtain ⟨se, hsl2⟩ := upd_none hsl1
    have nx : ∀ {l : Addr}, H1 l = none → l ≠ x := fun {l} e z => by rw [z, hx1] at e; cases e
    have A : AP R1 x el wl sl := ⟨r1x, R1H.free hel, R1H.free hwl1, R1H.free hsl2, nx hel, nx hwl1, nx hsl2, we.symm, se.symm, sw.symm⟩
    have S0 : ST R1 (upd (upd (upd H1 el (.lst [])) wl (.lst [])) sl (.lst [.ref q])) x el wl sl [] [] [] [q] [st] := by
      have s4 : Same H1 (upd (upd (upd H1 el (.lst [])) wl (.lst [])) sl (.lst [.ref q])) := ((Same.upd hel).upd' hwl).upd' hsl
      exact ⟨R1H.trans s4, ⟨_, _, _, s4 _ _ hx1⟩, by rw [upd_ne A.es, upd_ne A.ew, upd_same]; rfl, .nil, by rw [upd_ne A.ws, upd_same]; rfl, upd_same, .cons (s4 _ _ (R1H _ _ hq1)) .nil⟩
    generalize upd (upd (upd H1 el (.lst [])) wl (.lst [])) sl (.lst [.ref q]) = H4 at S0 ⊢
    refine ⟨_, rfl, n, rfl, by omega, by omega, for_it walk_range (fun i σ H' => ∃ (qi : Addr) (sti : List Int) (x8 x9 x10 x11 : Option V) (es : List Addr) (evs : List (Ev Str)) (whs : List (Option Str)) (qs : List Addr) (sts : List (List Int)),
      σ = [some (.ref x), some (.ref b), some (.ref qi), some (.int (n : Nat)), some (.ref nl), some (.ref el), some (.ref wl), some (.ref sl), x8, x9, x10, x11] ∧ ST R1 H' x el wl sl es evs whs qs sts ∧ TupAt H' qi sti ∧ StOk t ys sti ∧
      Chain (wayOf t) ys evs whs sts ∧ evs.length = i ∧ sts[i]? = some sti ∧ sts[0]? = some st ∧ ∀ e ∈ evs, e.1 ∈ ys) ?_ ?_ ?_ ?_⟩
    · exact ⟨q, st, none, none, none, none, [], [], [], [q], [st], rfl, S0, S0.same _ _ hq1, hst, .nil st, rfl, rfl, rfl, fun e h => by simp at h⟩
    · intros
      trivial
    · rintro i y σ H5 H5' hi ⟨qi, sti, x8, x9, x10, x11, es, evs, whs, qs, sts, rfl, S5, hqi, hsti, ch, hlen, hcur, hfirst, hmem⟩ ⟨rfl, rfl⟩
      have hi : i < n := hi
      have les := paired_len S5.e2
      have lqs := paired_len S5.s2
      obtain ⟨lwh, lst⟩ := ch.len
      obtain ⟨a, b', c, hx5⟩ := S5.box
      have hnl5 := S5.same _ _ r1nl
      have hpos := hg.pos
      have h12 := hg.len
      -- the writer drawn
      refine ⟨_, rfl, _, rfl, _, rfl, nl, _, rfl, .inl (SqL.of hnl5), x, _, a, b', c, rfl, hx5, ?_, ?_, fun a b' c d hd => ?_⟩
      · rw [List.length_map]; omega
      · rw [List.length_map]; omega
      rw [List.length_map] at hd
      have hd : d < ys.length := by omega
      have bx6 : Bx H5' (upd H5' x (BX a b' c)) x := (Bx.refl S5.box).take a b' c
      have S6 := S5.bx A bx6
      have hqi6 := hqi.bx S5.box bx6
      have hx6 : upd H5' x (BX a b' c) x = some (BX a b' c) := upd_same
      generalize upd H5' x (BX a b' c) = H6 at S6 hqi6 hx6 ⊢
      have hat : atI (ys.map V.str) (d : Int) = some (.str ys[d]) := atI_nat (by rw [List.getElem?_map, List.getElem?_eq_getElem hd]; rfl)
      have hym := List.getElem_mem hd
      refine ⟨nl, _, _, _, rfl, rfl, SqL.of (S6.same _ _ r1nl), hat, ?_⟩
      generalize ys[d] = w0 at hym
      refine ⟨fun σ' H' => ∃ (u : Str) (yk : V), σ' = [some (.ref x), some (.ref b), some (.ref qi), some (.int (n : Nat)), some (.ref nl), some (.ref el), some (.ref wl), some (.ref sl), some yk, some (.str u), x10, x11] ∧ ST R1 H' x el wl sl es evs whs qs sts ∧ TupAt H' qi sti ∧ u ∈ ys, ?_, ?_⟩
      · refine ⟨_, rfl, x, 6, _, _, _, rfl, hx6, by decide, by decide, fun a b' c e he => ⟨rfl, _, rfl, ?_⟩⟩
        have bx7 : Bx H6 (upd H6 x (BX a b' c)) x := (Bx.refl S6.box).take a b' c
        have S7 := S6.bx A bx7
        have hqi7 := hqi6.bx S6.box bx7
        generalize upd H6 x (BX a b' c) = H7 at S7 hqi7 ⊢
        by_cases h0 : (e : Int) = 0
        · refine if_t (decide_eq_true (by rw [h0])) ⟨_, rfl, _, rfl, b, qi, sti, t, ys, rfl, hbk1.same S7.same, hqi7, hsti, fun H8 s8 => ?_⟩
          exact ⟨_, _, rfl, S7.same' s8, s8 _ _ hqi7, hg.mem.mpr (tell_mem _ t [])⟩
        · exact if_f (decide_eq_false fun z => h0 (by injection z)) ⟨w0, _, rfl, S7, hqi7, hym⟩
      rintro σ' H' ⟨u, yk, rfl, S7, hqi7, hu'⟩
      -- the row
      refine ⟨_, rfl, _, rfl, _, rfl, b, qi, u, sti, t, ys, rfl, hbk1.same S7.same, hqi7, hsti, hu', fun H8 r s8 hr8 hrow => ?_⟩
      have S8 := S7.same' s8
      have hqi8 : TupAt H8 qi sti := s8 _ _ hqi7
      obtain ⟨a7, b7, c7, hx7⟩ := S7.box
      have rx : r ≠ x := fun e => by rw [e, hx7] at hr8; cases hr8
      have rel : r ≠ el := fun e => by rw [e, S7.e1] at hr8; cases hr8
      have rwl : r ≠ wl := fun e => by rw [e, S7.w1] at hr8; cases hr8
      have tlen := turns_le hg (st := sti) hu'
      obtain ⟨rs, hrs1, hrs2⟩ := id hrow
      have lrs := paired_len hrs2
      refine ⟨_, rfl, _, rfl, r, _, rfl, .inl (SqL.of hrs1), x, (turnsOf (wayOf t) ys sti u).length, ?_, S8.box, by omega, fun H9 d b9 hd9 => ?_⟩
      · rw [List.length_map, lrs]
        rfl
      have S9 := S8.bx A b9
      have hqi9 := hqi8.bx S8.box b9
      have hrow9 := hrow.bx S8.box rx b9
      -- events.append
      refine ⟨_, rfl, .inl ⟨rfl, _, SqL.of S9.e1⟩, _, rfl, _, rfl, (by show 2 ≤ sizeLine; decide), fun tp htp => ?_⟩
      have S9b := S9.same' (Same.upd (o := .tup [.str u, doneV d]) htp)
      have hqi9b : TupAt (upd H9 tp (.tup [.str u, doneV d])) qi sti := (Same.upd htp) _ _ hqi9
      have hrow9b := RowAt.same hrow9 (Same.upd (o := .tup [.str u, doneV d]) htp)
      have hev : EvAt (upd H9 tp (.tup [.str u, doneV d])) tp (u, d) := upd_same
      refine ⟨el, _, _, rfl, rfl, S9b.e1, sz (m := 64) (by rw [List.length_map]; omega), ?_⟩
      have S10 := S9b.ev A hev
      have hqi10 := hqi9b.put (o := .lst (es.map V.ref ++ [.ref tp])) S9b.e1
      have hrow10 := hrow9b.put (o := .lst (es.map V.ref ++ [.ref tp])) S9b.e1 rel
      generalize upd (upd H9 tp (.tup [.str u, doneV d])) el (.lst (es.map V.ref ++ [.ref tp])) = H10 at S10 hqi10 hrow10 ⊢
      obtain ⟨rs2, hrs3, hrs4⟩ := id hrow10
      refine ⟨fun σ' H' => ∃ (row : List (Nat × Int)) (r2 : Addr) (wh : Option Str), σ' = [some (.ref x), some (.ref b), some (.ref qi), some (.int (n : Nat)), some (.ref nl), some (.ref el), some (.ref wl), some (.ref sl), some yk, some (.str u), some (.ref r2), some (doneV d)] ∧
        ST R1 H' x el wl sl (es ++ [tp]) (evs ++ [(u, d)]) (whs ++ [wh]) qs sts ∧ TupAt H' qi sti ∧ RowAt H' r2 row ∧
        ((wh = some u ∧ row = turnsOf (wayOf t) ys sti u ∧ (d = none ∨ d = some (turnsOf (wayOf t) ys sti u).length)) ∨ (∃ k, wh = none ∧ d = some k ∧ k < (turnsOf (wayOf t) ys sti u).length ∧ row = (turnsOf (wayOf t) ys sti u).take k)), ?_, ?_⟩
      · have wsz : (whs.map lastV).length < sizeLine := sz (m := 64) (by rw [List.length_map]; omega)
        have whole : ∀ (hw : d = none ∨ d = some (turnsOf (wayOf t) ys sti u).length), ST R1 (upd H10 wl (.lst (whs.map lastV ++ [.str u]))) x el wl sl (es ++ [tp]) (evs ++ [(u, d)]) (whs ++ [some u]) qs sts ∧ TupAt (upd H10 wl (.lst (whs.map lastV ++ [.str u]))) qi sti ∧ RowAt (upd H10 wl (.lst (whs.map lastV ++ [.str u]))) r (turnsOf (wayOf t) ys sti u) :=
          fun hw => ⟨S10.wh A (some u), hqi10.put S10.w1, hrow10.put S10.w1 rwl⟩
        refine ⟨_, rfl, _, rfl, ?_⟩
        cases d with
        | none =>
          refine if_t rfl (if_t rfl ⟨_, rfl, .inl ⟨rfl, _, SqL.of S10.w1⟩, _, rfl, wl, _, _, rfl, rfl, S10.w1, wsz, ?_⟩)
          obtain ⟨f1, f2, f3⟩ := whole (.inl rfl)
          exact ⟨_, r, some u, rfl, f1, f2, f3, .inl ⟨rfl, rfl, .inl rfl⟩⟩
        | some dk =>
          refine if_f rfl ⟨_, rfl, _, rfl, r, _, rfl, .inl (SqL.of hrs3), rfl, _, rfl, ?_⟩
          have lrs2 := paired_len hrs4
          have hle := hd9 dk rfl
          by_cases hl : dk = (turnsOf (wayOf t) ys sti u).length
          · refine if_t (decide_eq_true (by rw [List.length_map, lrs2, hl]; rfl)) ⟨_, rfl, .inl ⟨rfl, _, SqL.of S10.w1⟩, _, rfl, wl, _, _, rfl, rfl, S10.w1, wsz, ?_⟩
            obtain ⟨f1, f2, f3⟩ := whole (.inr (by rw [hl]))
            exact ⟨_, r, some u, rfl, f1, f2, f3, .inl ⟨rfl, rfl, .inr (by rw [hl])⟩⟩
          · refine if_f (decide_eq_false fun z => hl (by rw [List.length_map, lrs2] at z; have z : V.int (dk : Nat) = _ := z; injection z with z; omega)) ?_
            refine ⟨_, rfl, .inl ⟨rfl, _, SqL.of S10.w1⟩, wl, _, _, rfl, rfl, S10.w1, wsz, ?_⟩
            have S11 := S10.wh A none
            have hqi11 := hqi10.put (o := .lst (whs.map lastV ++ [.non])) S10.w1
            obtain ⟨rs5, hrs5, hrs6⟩ := hrow10.put (o := .lst (whs.map lastV ++ [.non])) S10.w1 rwl
            have S11 : ST R1 (upd H10 wl (.lst (whs.map lastV ++ [.non]))) x el wl sl (es ++ [tp]) (evs ++ [(u, some dk)]) (whs ++ [none]) qs sts := S11
            generalize upd H10 wl (.lst (whs.map lastV ++ [.non])) = H11 at S11 hqi11 hrs5 hrs6 ⊢
            refine ⟨_, rfl, _, rfl, _, rfl, r, _, rfl, SqL.of hrs5, fun r2 hr2 => ?_⟩
            refine ⟨(turnsOf (wayOf t) ys sti u).take dk, r2, none, rfl, S11.same' (Same.upd hr2), (Same.upd hr2) _ _ hqi11, ⟨rs5.take dk, ?_, paired_take dk (paired_imp (fun p y h => (Same.upd hr2) _ _ h) hrs6)⟩, .inr ⟨dk, rfl, rfl, by omega, rfl⟩⟩
            rw [upd_same, cutV_take, List.map_take]
      rintro σ' H' ⟨row, r2, wh, rfl, S11, hqi11, hrow11, hdisj⟩
      have hsub : ∀ z ∈ row, z ∈ turnsOf (wayOf t) ys sti u := fun z hz => by
        rcases hdisj with ⟨_, e, _⟩ | ⟨k, _, _, _, e⟩
        · rw [e] at hz; exact hz
        · rw [e] at hz; exact List.mem_of_mem_take hz
      -- the state after it
      refine ⟨_, rfl, _, rfl, qi, r2, sti, row, rfl, hqi11, hrow11, fun z hz => ?_, fun H12 q2 s12 hq2 ht2 => ?_⟩
      · rw [hsti.len]
        exact turns_lt hu' z (hsub z hz)
      have S12 := S11.same' s12
      refine ⟨_, rfl, .inl ⟨rfl, _, SqL.of S12.s1⟩, _, rfl, sl, _, _, rfl, rfl, S12.s1, sz (m := 64) (by rw [List.length_map]; omega), ?_⟩
      have S13 := S12.st A ht2
      have ch2 : Chain (wayOf t) ys (evs ++ [(u, d)]) (whs ++ [wh]) (sts ++ [after sti row]) := ch.snoc (by rw [hlen]; exact hcur) hu' hdisj rfl
      refine ⟨q2, after sti row, _, _, _, _, _, _, _, _, _, rfl, S13, ht2.put S12.s1, hsti.after hsub, ch2, by simp [hlen], ?_, ?_, ?_⟩
      · rw [List.getElem?_append_right (by omega), show i + 1 - sts.length = 0 by omega]
        rfl
      · rw [List.getElem?_append_left (by omega)]
        exact hfirst
      · intro e he
        rcases List.mem_append.mp he with he | he
        · exact hmem e he
        · have : e = (u, d) := by simpa using he
          rw [this]
          exact hu'
    · rintro σ H5 ⟨qi, sti, x8, x9, x10, x11, es, evs, whs, qs, sts, rfl, S5, hqi, hsti, ch, hlen, hcur, hfirst, hmem⟩
      refine ⟨_, rfl, _, rfl, _, rfl, (by show 3 ≤ sizeLine; decide), fun p hp => ?_⟩
      have S6 := S5.same' (Same.upd (o := .tup [.ref el, .ref wl, .ref sl]) hp)
      have ep : upd H5 p (.tup [.ref el, .ref wl, .ref sl]) p = some (.tup [.ref el, .ref wl, .ref sl]) := upd_same
      have hb6 := S6.box
      generalize upd H5 p (.tup [.ref el, .ref wl, .ref sl]) = H6 at S6 ep hb6 ⊢
      obtain ⟨a6, b6, c6, hx6⟩ := id hb6
      have dt : ∀ {p : Addr} {xs : List V}, H6 p = some (.tup xs) → ItX.dropH H6 x p = some (.tup xs) := fun {p xs} z => drop_at z (ne_of z hx6 (fun q => by cases q))
      refine k H6 (ItX.dropH H6 x) p el wl sl evs whs sts qs (RR1.trans (drop_same S6.same r1x)) ItX.dropH_same (Bx.refl hb6).same hb6 (dt ep) ⟨es, drop_at S6.e1 A.ex, paired_imp (fun _ _ z => dt z) S6.e2⟩ (drop_at S6.w1 A.wx) (drop_at S6.s1 A.sx) (paired_imp (fun _ _ z => dt z) S6.s2) ch (by simpa using hlen) hfirst hmem
end
end FK
set_option Elab.async false
set_option linter.all false
set_option maxRecDepth 100000
set_option maxHeartbeats 4000000
set_option pp.maxSteps 400
/-! Calls within an except suite; isinstance of the error that is held, with or without fields. -/
namespace FK
open PySem PySem.Spec PyProof.Rows L2
/-- a def that may be called whatever is handled -/
structure FnW (P : Program) (w : World) (K : PySem.W.Frag) (mg : Str → Option Value) (base : Heap) (CX : CXT) (k : Nat) (f : Addr) (fd : FuncData) (ps : List Str) (sp : Sp) : Prop where
  len : ∀ vs H Q E, sp vs H Q E → vs.length = ps.length
  run : ∀ (A : Around) (outer : List Env) (s : Shared) (H : Hp) (args : Args) (us : List Value) (vs : List V) (Q : VK) (E : XK), L2H.RoomH k A → Env0 P w K mg base A outer s H → BindsTo s fd args (ps.zip us) → Vals vs us → sp vs H Q E →
    codeAny (model P w) A (.call (.ref f) args) (CR CX outer P w H s Q E) s
def cxW (CX : CXT) (P : Program) (w : World) (K : PySem.W.Frag) (mg : Str → Option Value) (base : Heap) (N : List Str) (qual : Str) (scope : Scope) (f : Addr) (cd : Value) (A : Around) (outer : List Env) (s : Shared) (H : Hp) (E : XK) : L2.Cx :=
  { cxOf CX P w K mg base N qual scope f cd A outer s H E with calm := false }
section
variable {CX : CXT} {P : Program} {w : World} {K : PySem.W.Frag} {mg : Str → Option Value} {base : Heap} {N ps : List Str} {k : Nat} {f : Addr} {qual : Str} {scope : Scope} {cdv : Value} {sp : Sp}
theorem inv_startW {A : Around} {outer : List Env} {s s1 : Shared} {H : Hp} {E : XK} {us : List Value} {vs : List V} (S : FnScope N ps scope) (e0 : Env0 P w K mg base A outer s H) (hl : vs.length = ps.length) (r : Vals vs us)
    (x : InCallC s s.heap.objs.size (bindL (envOfC qual scope s.heap.objs.size f cdv).kindOf (ps.zip us) fun _ => none) (cellsFrom (s.heap.objs.size + 1) scope.names []) (bindC (envOfC qual scope s.heap.objs.size f cdv).kindOf (ps.zip us) fun _ => none) s1) :
    Inv (cxW CX P w K mg base N qual scope f cdv A outer s H E) [] (L2.start N vs) H s1 := by
  have e1 : Env0 P w K mg base { A with handled := none } outer s H := { e0 with frames := e0.frames }
  have I : Inv (cxOf CX P w K mg base N qual scope f cdv { A with handled := none } outer s H E) [] (L2.start N vs) H s1 := inv_start S rfl e1 hl r x
  exact { I with ok := { I.ok with hd := fun z => Bool.noConfusion z, frames := I.ok.frames } }
theorem fn_ofW {name : Str} {params : Arguments} {body : List Stmt} {dV kV doc pm ct oc : Value} {an od : Option Addr} {osl : Array (Option Value)}
    (lk : K.lookup f = some ⟨oc, od, .func (PySem.W.fnOf name qual params body scope dV kV doc pm an cdv ct), osl⟩) (hcd : PySem.W.codeIn K cdv qual = true) (S : FnScope N ps scope) (len : ∀ vs H Q E, sp vs H Q E → vs.length = ps.length)
    (hbody : ∀ (A : Around) (outer : List Env) (s : Shared) (H : Hp) (vs : List V) (Q : VK) (E : XK), L2H.RoomH k (A.deeper (envOfC qual scope s.heap.objs.size f cdv)) → sp vs H Q E →
      ∃ t, PSs (cxW CX P w K mg base N qual scope f cdv A outer s H E) body t ∧ t { nx := fun _ H' => Q .non H', rt := Q } (L2.start N vs) H) :
    FnW P w K mg base CX (k + 1) f (PySem.W.fnOf name qual params body scope dV kV doc pm an cdv ct) ps sp := by
  refine ⟨len, fun A outer s H args us vs Q E hr e0 hb r hsp => ?_⟩
  have hl := len _ _ _ _ hsp
  have KX : K.In s.heap := e0.mod.kin.keeps fun b o e => (e0.bs b o e).1
  have lim : s.heap.NoLimit := e0.mod.nolimit.keeps fun b o e => (e0.bs b o e).1
  refine codeAny_call_function hr.depth (KX _ _ lk) rfl S.co S.gen rfl (PySem.W.codeRec_of KX hcd) (hb _ _ _ _ ?_)
  refine wpAny_newFunctionEnv_cells S.kind (fun ⟨n, v⟩ hy => ?_) fun env he s1 x => ?_
  · rcases S.par n (List.of_mem_zip hy).1 with q | q
    · exact .inl q
    · exact .inr ⟨q, PySem.W.cellsFrom_some _ _ _ (.inl q)⟩
  subst he
  refine ⟨lim.keeps x.toInCall.keep, codeAny_func ?_⟩
  obtain ⟨t, ht, hq⟩ := hbody A outer s H vs Q E (hr.deeper _) hsp
  refine wpAny_mono (ht.run [] s1 (L2.start N vs) H _ (inv_startW S e0 hl r x) hq) (fun fl s' hs => ?_) fun e s' hs => hs
  have fin : ∀ {σ' : L2.St} {H' : Hp} {v : V} {u : Value}, Inv (cxW CX P w K mg base N qual scope f cdv A outer s H E) [] σ' H' s' → RelV v u → Q v H' → CE outer P w H s Q u s' :=
    fun {σ' H' v u} J rv q => ⟨v, H', J.os, J.bare, J.base, J.hok, rv, q⟩
  cases fl with
  | ret u =>
    obtain ⟨v, σ', H', J, rv, q⟩ := hs
    exact fin J rv q
  | next =>
    obtain ⟨σ', H', J, q⟩ := hs
    exact fin (v := V.non) (u := Value.none) J rfl q
  | brk =>
    obtain ⟨_, _, _, q⟩ := hs
    exact False.elim q
  | cont =>
    obtain ⟨_, _, _, q⟩ := hs
    exact False.elim q
/-- the def x keeps sp, whatever is handled -/
def FnBW (P : Program) (w : World) (K : PySem.W.Frag) (mg : Str → Option Value) (base : Heap) (CX : CXT) (k : Nat) (x : Str) (sp : Sp) : Prop :=
  ∃ (f : Addr) (fd : FuncData) (ps : List Str), mg x = some (.ref f) ∧ PySem.W.keepIn K (.ref f) = true ∧ FnW P w K mg base CX k f fd ps sp ∧ Binds K fd ps []
theorem DefAt.okW {x : Str} {st : Stmt} (D : DefAt K mg x st ps) (S : FnScope N ps (defScope st)) (len : ∀ vs H Q E, sp vs H Q E → vs.length = ps.length)
    (hbody : ∀ (f : Addr) (cdv : Value) (A : Around) (outer : List Env) (s : Shared) (H : Hp) (vs : List V) (Q : VK) (E : XK), L2H.RoomH k (A.deeper (envOfC x (defScope st) s.heap.objs.size f cdv)) → sp vs H Q E →
      ∃ t, PSs (cxW CX P w K mg base N x (defScope st) f cdv A outer s H E) (defBody st) t ∧ t { nx := fun _ H' => Q .non H', rt := Q } (L2.start N vs) H) : FnBW P w K mg base CX (k + 1) x sp := by
  obtain ⟨f, fd, h1, h2, h3⟩ := D.ex
  obtain ⟨oc, od, kV, doc, pm, an, cdv, ct, osl, rfl, lk, hcd⟩ := h2.ex
  exact ⟨f, _, ps, h1, h2.kp, fn_ofW lk hcd S len fun A outer s H vs Q E hr h => hbody f cdv A outer s H vs Q E hr h, h3⟩
end
section
variable {X : L2.Cx} {CX : CXT} {k : Nat} {sp : Sp} {E : XK} {x : Str} {p pos : Pos} {e : Expr} {es : List Expr} {t : TA}
theorem pcallW (G : FnBW X.prog X.w X.K X.mg X.base CX k x sp) (hr : L2H.RoomH k X.A) (hx : Passes CX X E) (ha : PA X (e :: es) t) (hg : Gl X x := by rfl)
    (hdb : (x == ("__debug__" : Str)) = false := by decide) (he : starEach (e :: es) X.env = (false, eval e X.env) :: starEach es X.env := by rfl) (hpl : (backTo pos (starEach es X.env)).any (·.1) = false := by rfl) :
    PE X (.Call (.Name x p) (e :: es) [] pos) (tCall sp [] E t) := by
  obtain ⟨f, fd, ps, hm, hk, F, hb⟩ := G
  refine ⟨fun pins s σ H Q I h => ?_⟩
  refine wpAny_Call_Name_kw (ld_glob I hg hm ?_ hdb)
  refine PySem.W.callWith_K (h₀ := X.base) I.ok.mod.kin hk (thn (ha.run pos pins s σ H _ I h) fun us s1 hq1 => ⟨hq1.choose_spec.choose_spec.1.kIn, ?_⟩) he hpl
  obtain ⟨vs, H1, I1, r, q⟩ := hq1
  have q : sp (vs ++ []) H1 Q E := q
  rw [List.append_nil] at q
  have hl : us.length = ps.length := by rw [← r.length]; exact F.len _ _ _ _ q
  have b := hb s1 us I1.kIn (by rw [List.append_nil]; exact hl)
  rw [List.append_nil] at b
  refine wpAny_call (codeAny_mono (F.run X.A X.stack s1 H1 ⟨us, []⟩ us vs Q E hr I1.env0 b r q) fun r s' hq => ?_)
  cases r with
  | error er => exact hx pins σ H1 s1 er s' I1 hq
  | ok fl =>
    cases fl with
    | ret u => exact I1.after hq
    | next => exact False.elim hq
    | brk => exact False.elim hq
    | cont => exact False.elim hq
/-- isinstance(e, c), e the error that the suite holds, its class told by the reading -/
def rIsD (K : PySem.W.Frag) (a : Addr) (cls : Value) (d : Option Addr) : List V → Hp → VK → Prop := fun xs H Q => ∃ (D : Addr) (c : V) (cv : Value) (b : Bool), xs = [.ref a, c] ∧ cls = .ref D ∧ ExcC K D ∧ (∀ u, RelV c u → u = cv) ∧ PySem.W.kitOne K (.ref D) cv = some b ∧
  (∀ dd, d = some dd → ∃ fs, H dd = some (.xd fs)) ∧ Q (.bl b) H
theorem call_isD {a : Addr} {oe : Obj} {cls : Value} {d : Option Addr} {pn : List (Addr × Obj)} (hz : Zc cls d oe) (hf : ∃ vs, oe.data = .fields vs) : CallR (X.suite a ((a, oe) :: pn)) (.builtin "isinstance") (rIsD X.K a cls d) := by
  intro pins s σ H xs us Q I r h
  obtain ⟨D, c, cv, b, rfl, rfl, C, hcv, e, hd, q⟩ := h
  cases r with
  | cons rx rr =>
    obtain ⟨u, rfl, rt⟩ := vals1 rr
    cases rx
    have ec := hcv _ rt
    subst ec
    obtain ⟨hget, _⟩ := I.pin (a, oe) (List.mem_append.mpr (.inl List.mem_cons_self))
    obtain ⟨vs, hv⟩ := hf
    have hcl : (PySem.W.clsIn X.K D).isSome = true := by
      obtain ⟨cd, hc, _⟩ := PySem.W.any_some C.hd
      rw [hc]
      rfl
    have J : ∃ od, PySem.W.InstAt s.heap a oe D od := by
      cases d with
      | none => exact ⟨none, hget, hz.1, by unfold PySem.W.notCls; rw [hv] <;> rfl, by rw [hz.2]; trivial⟩
      | some dd =>
        obtain ⟨fs, ex⟩ := hd dd rfl
        have hx : ObjOk X.prog X.w H s.heap dd (.xd fs) := I.hok dd _ ex
        obtain ⟨mA, hns, hr⟩ := hx
        obtain ⟨od, ho, hl⟩ := lookIn_ns hns
        exact ⟨some od, hget, hz.1, by unfold PySem.W.notCls; rw [hv] <;> rfl, by rw [hz.2]; exact ho⟩
    obtain ⟨od, J⟩ := J
    exact PySem.W.kia_one (PySem.W.kitx_exc (od := od) hcl C.hg C.hk C.hs C.ha C.hn C.ht C.hm) I.kIn J e (fun z => nomatch z) fun tk => ⟨.bl b, H, I.kept (t' := tk) fun _ _ z => z, rfl, q⟩
end
section
variable {P : Program} {w : World} {K : PySem.W.Frag} {mg : Str → Option Value} {base : Heap}
theorem ok_intW (T : Txt K mg) : FnBW P w K mg base CX0 1 "_law_is_integer" spInt := by
  refine T.lInt.okW scInt (fun vs H Q E h => ?_) (fun f cdv A outer s H vs Q E hr h => ?_)
  · obtain ⟨i, rfl, _⟩ := h
    rfl
  · obtain ⟨i, rfl, k⟩ := h
    refine ⟨_, pss_one (ps_ret (pe_and (pisi "int" T.b (pv 0) T.b.int (by decide +kernel)) (pe_one (pe_not (pisi "bool" T.b (pv 0) T.b.bool (by decide +kernel)))))), ?_⟩
    refine ⟨_, rfl, _, _, _, _, true, rfl, .ty _, .base (.int _), kit_ty (by decide +kernel), true, rfl, ?_⟩
    exact ⟨_, rfl, _, _, _, _, false, rfl, .ty _, .base (.int _), kit_ty (by decide +kernel), false, rfl, k⟩
end
end FK
set_option Elab.async false
set_option linter.all false
set_option maxRecDepth 100000
set_option maxHeartbeats 4000000
set_option pp.maxSteps 400
namespace FK
open PySem PySem.Spec PyProof.Rows L2
structure AskTxt (K : PySem.W.Frag) (mg : Str → Option Value) (c : Cs) : Prop where
  gErr : mg "ForkError" = some (.ref c.err)
  gTurns : mg "TooManyTurns" = some (.ref c.eTurns)
  exS : PySem.W.exmOne K (.ref c.eState) (.ref c.err) = some true
  exW : PySem.W.exmOne K (.ref c.eWriter) (.ref c.err) = some true
  exE : PySem.W.exmOne K (.ref c.eEvent) (.ref c.err) = some true
  cS : ExcC K c.eState
  cW : ExcC K c.eWriter
  cE : ExcC K c.eEvent
  sV : PySem.W.kitOne K (.ref c.eState) (.type "ValueError") = some true
  sS : PySem.W.kitOne K (.ref c.eState) (.ref c.eState) = some true
  sW : PySem.W.kitOne K (.ref c.eState) (.ref c.eWriter) = some false
  sE : PySem.W.kitOne K (.ref c.eState) (.ref c.eEvent) = some false
  sT : PySem.W.kitOne K (.ref c.eState) (.ref c.eTurns) = some false
  wV : PySem.W.kitOne K (.ref c.eWriter) (.type "ValueError") = some true
  wS : PySem.W.kitOne K (.ref c.eWriter) (.ref c.eState) = some false
  wW : PySem.W.kitOne K (.ref c.eWriter) (.ref c.eWriter) = some true
  wE : PySem.W.kitOne K (.ref c.eWriter) (.ref c.eEvent) = some false
  wT : PySem.W.kitOne K (.ref c.eWriter) (.ref c.eTurns) = some false
  eV : PySem.W.kitOne K (.ref c.eEvent) (.type "ValueError") = some true
  eS : PySem.W.kitOne K (.ref c.eEvent) (.ref c.eState) = some false
  eW : PySem.W.kitOne K (.ref c.eEvent) (.ref c.eWriter) = some false
  eE : PySem.W.kitOne K (.ref c.eEvent) (.ref c.eEvent) = some true
  eT : PySem.W.kitOne K (.ref c.eEvent) (.ref c.eTurns) = some false
  xW : XfC K c.eWriter
  xE : XfC K c.eEvent
theorem pgC {X : L2.Cx} {x : Str} {C : Addr} {pos : Pos} (hm : X.mg x = some (.ref C)) (hg : Gl X x := by rfl) (hd : (x == ("__debug__" : Str)) = false := by decide) : PE X (.Name x pos) (tC (.ref C)) := pe_glob hg hm rfl hd
theorem call_isDK {X : L2.Cx} {K : PySem.W.Frag} {a : Addr} {oe : Obj} {cls : Value} {d : Option Addr} {pn : List (Addr × Obj)} (hK : X.K = K) (hz : Zc cls d oe) (hf : ∃ vs, oe.data = .fields vs) : CallR (X.suite a ((a, oe) :: pn)) (.builtin "isinstance") (rIsD K a cls d) := by
  subst hK
  exact call_isD hz hf
theorem op_eqDK {X : L2.Cx} {K : PySem.W.Frag} (hK : X.K = K) (hu : X.A.units + 64 < cLine) : OpR X (compareOp .Eq) (rEqD K) := by
  subst hK
  exact op_eqD hu
theorem pcallS {X : L2.Cx} {CX : CXT} {k : Nat} {sp : Sp} {E : L2.St → XK} {x : Str} {p pos : Pos} {e : Expr} {es : List Expr} {t : TA} (G : FnB X.prog X.w X.K X.mg X.base CX k x sp) (hr : Room k X.A) (hx : ∀ σ, PassesAt CX X σ (E σ)) (ha : PA X (e :: es) t) (hg : Gl X x := by rfl)
    (hdb : (x == ("__debug__" : Str)) = false := by decide) (he : starEach (e :: es) X.env = (false, eval e X.env) :: starEach es X.env := by rfl) (hpl : (backTo pos (starEach es X.env)).any (·.1) = false := by rfl) :
    PE X (.Call (.Name x p) (e :: es) [] pos) (tCallS sp E t) := by
  obtain ⟨f, fd, ps, h1, h2, h3, h4⟩ := G
  exact pe_callS h3 hr hg h1 h2 h4 hx ha hdb he hpl
theorem dp_bls {K : PySem.W.Frag} {H : Hp} : ∀ bs : List Bool, DpAll K H (bs.map V.bl) (bs.map PyData.bool)
  | [] => .nil
  | b :: r => .cons (.bl b) (dp_bls r)
theorem four_eq (a b c d a' b' c' d' : Bool) : PyData.eqv (.list ([a, b, c, d].map PyData.bool)) (.list ([a', b', c', d'].map PyData.bool)) = decide ([a, b, c, d] = [a', b', c', d']) := by
  cases a <;> cases b <;> cases c <;> cases d <;> cases a' <;> cases b' <;> cases c' <;> cases d' <;> decide +kernel
theorem four_shaped (a b c d : Bool) : SeqAt.shaped (.list ([a, b, c, d].map PyData.bool)) = true := by cases a <;> cases b <;> cases c <;> cases d <;> decide +kernel
abbrev sAsked : Stmt := topS 56
abbrev nAsked : List Str := ["_law_plan", "_law_state_here", "_law_events_here", "_law_whole", "e", "_law_kinds"]
theorem scAsked : FnScope nAsked ["_law_plan", "_law_state_here", "_law_events_here", "_law_whole"] (defScope sAsked) := ⟨rfl, rfl, rfl, by decide +kernel, rfl, by decide +kernel, by decide +kernel⟩
theorem roomH_mark {k : Nat} {A : Around} {h : Option Value} (r : L2H.RoomH k A) : L2H.RoomH k (A.mark h) := ⟨r.dp, r.un⟩
def suiteOf (s : Stmt) : List Stmt := match defBody s with
  | .Try _ [.ExceptHandler _ _ b _] _ _ _ :: _ => b
  | _ => []
section
variable {P : Program} {w : World} {K : PySem.W.Frag} {mg : Str → Option Value} {base : Heap} {c : Cs}
theorem suite_ps (T : Txt K mg) (R : ErrTxt P K mg c) (A0 : AskTxt K mg c) {f : Addr} {cdv : Value} {A : Around} {outer : List Env} {s : Shared} {H0 : Hp} {E : XK} (hr : Room 8 (A.deeper (envOfC "_law_asked" (defScope sAsked) s.heap.objs.size f cdv))) :
    ∃ ts : Addr → Value → Option Addr → TS, (∀ (a : Addr) (oe : Obj) (cls : Value) (d : Option Addr) (pn : List (Addr × Obj)), Zc cls d oe → (∃ vs, oe.data = .fields vs) →
        PSs ((cxOf CX0 P w K mg base nAsked "_law_asked" (defScope sAsked) f cdv A outer s H0 E).nox.suite a ((a, oe) :: pn)) (suiteOf sAsked) (ts a cls d)) ∧
      (∀ (a : Addr) (D : Ends) (H : Hp) (v0 v1 v2 v3 y : Option V), (∀ H' r, Same H H' → H' r = some (.tup [.str "state", .int 0]) → D.rt (.ref r) H') → ts a (.ref c.eState) none D [v0, v1, v2, v3, some (.ref a), y] H) ∧
      (∀ (a d : Addr) (z : Str) (D : Ends) (H : Hp) (v0 v1 v2 v3 y : Option V), H d = some (.xd [("writer", .str z)]) → (∀ H' r, Same H H' → H' r = some (.tup [.str "writer", .str z]) → D.rt (.ref r) H') → ts a (.ref c.eWriter) (some d) D [v0, v1, v2, v3, some (.ref a), y] H) ∧
      (∀ (a d : Addr) (j : Nat) (D : Ends) (H : Hp) (v0 v1 v2 v3 y : Option V), H d = some (.xd [("index", .int (j : Nat))]) → (∀ H' r, Same H H' → H' r = some (.tup [.str "event", .int (j : Nat)]) → D.rt (.ref r) H') → ts a (.ref c.eEvent) (some d) D [v0, v1, v2, v3, some (.ref a), y] H) := by
  have GI : FnBW P w K mg base CX0 1 "_law_is_integer" spInt := ok_intW T
  have hrH : L2H.RoomH 1 (A.deeper (envOfC "_law_asked" (defScope sAsked) s.heap.objs.size f cdv)) := L2H.roomH_of (hr.mono (by decide))
  refine ⟨fun a cls d => _, fun a oe cls d pn hz hf =>
    pss_cons (ps_if (pt_not (pt_val (pe_callB (call_isDK (K := K) rfl hz hf) (by rfl) T.b.isinstance (by decide +kernel) (pa_cons (pv 4) (pa_cons (pty (T := "ValueError") T.b.valueError (by decide +kernel)) pa_nil))))) (pss_one (ps_ret (pe_tup (pa_cons pe_str (pa_cons pe_int pa_nil))))) pss_nil)
    (pss_cons (ps_set (i := 5) scAsked.nd rfl (.inl rfl) (pe_lst (pa_cons (pe_callB (call_isDK (K := K) rfl hz hf) (by rfl) T.b.isinstance (by decide +kernel) (pa_cons (pv 4) (pa_cons (pgC R.eState.g) pa_nil))) (pa_cons (pe_callB (call_isDK (K := K) rfl hz hf) (by rfl) T.b.isinstance (by decide +kernel) (pa_cons (pv 4) (pa_cons (pgC R.eWriter.g) pa_nil))) pa_nil))))
    (pss_cons (ps_set (i := 5) scAsked.nd rfl (.inl rfl) (pe_op op_cat (pv 5) (pe_lst (pa_cons (pe_callB (call_isDK (K := K) rfl hz hf) (by rfl) T.b.isinstance (by decide +kernel) (pa_cons (pv 4) (pa_cons (pgC R.eEvent.g) pa_nil))) (pa_cons (pe_callB (call_isDK (K := K) rfl hz hf) (by rfl) T.b.isinstance (by decide +kernel) (pa_cons (pv 4) (pa_cons (pgC A0.gTurns) pa_nil))) pa_nil)))))
    (pss_cons (ps_if (pt_cmpR (op_eqDK (K := K) rfl hr.units) (pv 5) (pe_lst (pa_cons pe_bl (pa_cons pe_bl (pa_cons pe_bl (pa_cons pe_bl pa_nil))))) (nomark _)) (pss_one (ps_ret (pe_tup (pa_cons pe_str (pa_cons pe_int pa_nil))))) pss_nil)
    (pss_cons (ps_if (pt_cmpR (op_eqDK (K := K) rfl hr.units) (pv 5) (pe_lst (pa_cons pe_bl (pa_cons pe_bl (pa_cons pe_bl (pa_cons pe_bl pa_nil))))) (nomark _)) (pss_one (ps_ret (pe_tup (pa_cons pe_str (pa_cons (pe_xf A0.xW R.noW hz hf (pv 4)) pa_nil))))) pss_nil)
    (pss_one (ps_if (PW.pt (pw_and (pt_cmpR (op_eqDK (K := K) rfl hr.units) (pv 5) (pe_lst (pa_cons pe_bl (pa_cons pe_bl (pa_cons pe_bl (pa_cons pe_bl pa_nil))))) (nomark _)) (pw_and1 (pt_val (pcallW (E := FK.E0) GI (roomH_mark hrH) pass0 (pa_cons (pe_xf A0.xE R.noI hz hf (pv 4)) pa_nil))))))
      (pss_one (ps_ret (pe_tup (pa_cons pe_str (pa_cons (pe_xf A0.xE R.noI hz hf (pv 4)) pa_nil))))) pss_nil)))))), ?_, ?_, ?_⟩
  · intro a D H v0 v1 v2 v3 y k
    refine ⟨_, rfl, c.eState, _, _, true, rfl, rfl, A0.cS, fun u h => h, A0.sV, (fun dd z => nomatch z), _, rfl, if_f rfl ?_⟩
    refine ⟨_, rfl, c.eState, _, _, true, rfl, rfl, A0.cS, fun u h => h, A0.sS, (fun dd z => nomatch z), _, rfl, c.eState, _, _, false, rfl, rfl, A0.cS, fun u h => h, A0.sW, (fun dd z => nomatch z), (by show 2 ≤ sizeLine; decide), fun l1 hl1 => ?_⟩
    have s1 : Same H (upd H l1 (.lst [.bl true, .bl false])) := Same.upd hl1
    refine ⟨_, rfl, _, rfl, c.eState, _, _, false, rfl, rfl, A0.cS, fun u h => h, A0.sE, (fun dd z => nomatch z), _, rfl, c.eState, _, _, false, rfl, rfl, A0.cS, fun u h => h, A0.sT, (fun dd z => nomatch z), (by show 2 ≤ sizeLine; decide), fun l2 hl2 => ?_⟩
    have s2 := s1.upd' (o := .lst [.bl false, .bl false]) hl2
    have n12 : l1 ≠ l2 := fun e => by rw [← e, upd_same] at hl2; cases hl2
    refine ⟨l1, l2, _, _, rfl, rfl, (upd_ne n12).trans upd_same, upd_same, (by show 2 + 2 ≤ sizeLine; decide), fun l3 hl3 => ?_⟩
    have s3 := s2.upd' (o := .lst ([.bl true, .bl false] ++ [.bl false, .bl false])) hl3
    have e3 : (upd (upd (upd H l1 (.lst [.bl true, .bl false])) l2 (.lst [.bl false, .bl false])) l3 (.lst ([.bl true, .bl false] ++ [.bl false, .bl false]))) l3 = some (.lst ([true, false, false, false].map V.bl)) := upd_same
    generalize upd (upd (upd H l1 (.lst [.bl true, .bl false])) l2 (.lst [.bl false, .bl false])) l3 (.lst ([.bl true, .bl false] ++ [.bl false, .bl false])) = H3 at s3 e3 ⊢
    refine ⟨_, rfl, (by show 4 ≤ sizeLine; decide), fun m1 hm1 => ?_⟩
    have t1 := s3.upd' (o := .lst ([true, false, false, false].map V.bl)) hm1
    have f1 := (Same.upd (o := .lst ([true, false, false, false].map V.bl)) hm1) _ _ e3
    refine ⟨_, _, .lst (SqL.of f1) (dp_bls [true, false, false, false]), .lst (SqL.of upd_same) (dp_bls [true, false, false, false]), four_shaped .., four_shaped .., _, rfl, if_t (by rw [four_eq]; decide) ?_⟩
    exact ⟨(by show 2 ≤ sizeLine; decide), fun r hr => k _ r (t1.upd' hr) upd_same⟩
  · intro a d z D H v0 v1 v2 v3 y hd k
    refine ⟨_, rfl, c.eWriter, _, _, true, rfl, rfl, A0.cW, fun u h => h, A0.wV, (fun dd q => by cases q; exact ⟨_, hd⟩), _, rfl, if_f rfl ?_⟩
    refine ⟨_, rfl, c.eWriter, _, _, false, rfl, rfl, A0.cW, fun u h => h, A0.wS, (fun dd q => by cases q; exact ⟨_, hd⟩), _, rfl, c.eWriter, _, _, true, rfl, rfl, A0.cW, fun u h => h, A0.wW, (fun dd q => by cases q; exact ⟨_, hd⟩), (by show 2 ≤ sizeLine; decide), fun l1 hl1 => ?_⟩
    have s1 : Same H (upd H l1 (.lst [.bl false, .bl true])) := Same.upd hl1
    refine ⟨_, rfl, _, rfl, c.eWriter, _, _, false, rfl, rfl, A0.cW, fun u h => h, A0.wE, (fun dd q => by cases q; exact ⟨_, s1 _ _ hd⟩), _, rfl, c.eWriter, _, _, false, rfl, rfl, A0.cW, fun u h => h, A0.wT, (fun dd q => by cases q; exact ⟨_, s1 _ _ hd⟩), (by show 2 ≤ sizeLine; decide), fun l2 hl2 => ?_⟩
    have s2 := s1.upd' (o := .lst [.bl false, .bl false]) hl2
    have n12 : l1 ≠ l2 := fun e => by rw [← e, upd_same] at hl2; cases hl2
    refine ⟨l1, l2, _, _, rfl, rfl, (upd_ne n12).trans upd_same, upd_same, (by show 2 + 2 ≤ sizeLine; decide), fun l3 hl3 => ?_⟩
    have s3 := s2.upd' (o := .lst ([.bl false, .bl true] ++ [.bl false, .bl false])) hl3
    have e3 : (upd (upd (upd H l1 (.lst [.bl false, .bl true])) l2 (.lst [.bl false, .bl false])) l3 (.lst ([.bl false, .bl true] ++ [.bl false, .bl false]))) l3 = some (.lst ([false, true, false, false].map V.bl)) := upd_same
    generalize upd (upd (upd H l1 (.lst [.bl false, .bl true])) l2 (.lst [.bl false, .bl false])) l3 (.lst ([.bl false, .bl true] ++ [.bl false, .bl false])) = H3 at s3 e3 ⊢
    refine ⟨_, rfl, (by show 4 ≤ sizeLine; decide), fun m1 hm1 => ?_⟩
    have t1 := s3.upd' (o := .lst ([true, false, false, false].map V.bl)) hm1
    have f1 := (Same.upd (o := .lst ([true, false, false, false].map V.bl)) hm1) _ _ e3
    refine ⟨_, _, .lst (SqL.of f1) (dp_bls [false, true, false, false]), .lst (SqL.of upd_same) (dp_bls [true, false, false, false]), four_shaped .., four_shaped .., _, rfl, if_f (by rw [four_eq]; decide) ?_⟩
    refine ⟨_, rfl, (by show 4 ≤ sizeLine; decide), fun m2 hm2 => ?_⟩
    have t2 := t1.upd' (o := .lst ([false, true, false, false].map V.bl)) hm2
    have f2 := (Same.upd (o := .lst ([false, true, false, false].map V.bl)) hm2) _ _ f1
    refine ⟨_, _, .lst (SqL.of f2) (dp_bls [false, true, false, false]), .lst (SqL.of upd_same) (dp_bls [false, true, false, false]), four_shaped .., four_shaped .., _, rfl, if_t (by rw [four_eq]; decide) ?_⟩
    exact ⟨_, rfl, rfl, rfl, d, _, _, rfl, t2 _ _ hd, rfl, (by show 2 ≤ sizeLine; decide), fun r hr => k _ r (t2.upd' hr) upd_same⟩
  · intro a d j D H v0 v1 v2 v3 y hd k
    refine ⟨_, rfl, c.eEvent, _, _, true, rfl, rfl, A0.cE, fun u h => h, A0.eV, (fun dd q => by cases q; exact ⟨_, hd⟩), _, rfl, if_f rfl ?_⟩
    refine ⟨_, rfl, c.eEvent, _, _, false, rfl, rfl, A0.cE, fun u h => h, A0.eS, (fun dd q => by cases q; exact ⟨_, hd⟩), _, rfl, c.eEvent, _, _, false, rfl, rfl, A0.cE, fun u h => h, A0.eW, (fun dd q => by cases q; exact ⟨_, hd⟩), (by show 2 ≤ sizeLine; decide), fun l1 hl1 => ?_⟩
    have s1 : Same H (upd H l1 (.lst [.bl false, .bl false])) := Same.upd hl1
    refine ⟨_, rfl, _, rfl, c.eEvent, _, _, true, rfl, rfl, A0.cE, fun u h => h, A0.eE, (fun dd q => by cases q; exact ⟨_, s1 _ _ hd⟩), _, rfl, c.eEvent, _, _, false, rfl, rfl, A0.cE, fun u h => h, A0.eT, (fun dd q => by cases q; exact ⟨_, s1 _ _ hd⟩), (by show 2 ≤ sizeLine; decide), fun l2 hl2 => ?_⟩
    have s2 := s1.upd' (o := .lst [.bl true, .bl false]) hl2
    have n12 : l1 ≠ l2 := fun e => by rw [← e, upd_same] at hl2; cases hl2
    refine ⟨l1, l2, _, _, rfl, rfl, (upd_ne n12).trans upd_same, upd_same, (by show 2 + 2 ≤ sizeLine; decide), fun l3 hl3 => ?_⟩
    have s3 := s2.upd' (o := .lst ([.bl false, .bl false] ++ [.bl true, .bl false])) hl3
    have e3 : (upd (upd (upd H l1 (.lst [.bl false, .bl false])) l2 (.lst [.bl true, .bl false])) l3 (.lst ([.bl false, .bl false] ++ [.bl true, .bl false]))) l3 = some (.lst ([false, false, true, false].map V.bl)) := upd_same
    generalize upd (upd (upd H l1 (.lst [.bl false, .bl false])) l2 (.lst [.bl true, .bl false])) l3 (.lst ([.bl false, .bl false] ++ [.bl true, .bl false])) = H3 at s3 e3 ⊢
    refine ⟨_, rfl, (by show 4 ≤ sizeLine; decide), fun m1 hm1 => ?_⟩
    have t1 := s3.upd' (o := .lst ([true, false, false, false].map V.bl)) hm1
    have f1 := (Same.upd (o := .lst ([true, false, false, false].map V.bl)) hm1) _ _ e3
    refine ⟨_, _, .lst (SqL.of f1) (dp_bls [false, false, true, false]), .lst (SqL.of upd_same) (dp_bls [true, false, false, false]), four_shaped .., four_shaped .., _, rfl, if_f (by rw [four_eq]; decide) ?_⟩
    refine ⟨_, rfl, (by show 4 ≤ sizeLine; decide), fun m2 hm2 => ?_⟩
    have t2 := t1.upd' (o := .lst ([false, true, false, false].map V.bl)) hm2
    have f2 := (Same.upd (o := .lst ([false, true, false, false].map V.bl)) hm2) _ _ f1
    refine ⟨_, _, .lst (SqL.of f2) (dp_bls [false, false, true, false]), .lst (SqL.of upd_same) (dp_bls [false, true, false, false]), four_shaped .., four_shaped .., _, rfl, if_f (by rw [four_eq]; decide) ?_⟩
    refine ⟨_, rfl, (by show 4 ≤ sizeLine; decide), fun m3 hm3 => ?_⟩
    have t3 := t2.upd' (o := .lst ([false, false, true, false].map V.bl)) hm3
    have f3 := (Same.upd (o := .lst ([false, false, true, false].map V.bl)) hm3) _ _ f2
    refine ⟨_, _, .lst (SqL.of f3) (dp_bls [false, false, true, false]), .lst (SqL.of upd_same) (dp_bls [false, false, true, false]), four_shaped .., four_shaped .., _, rfl, if_t (by rw [four_eq]; decide) ?_⟩
    refine ⟨_, rfl, rfl, rfl, d, _, _, rfl, t3 _ _ hd, rfl, _, rfl, _, rfl, if_t rfl ?_⟩
    exact ⟨_, rfl, rfl, rfl, d, _, _, rfl, t3 _ _ hd, rfl, (by show 2 ≤ sizeLine; decide), fun r hr => k _ r (t3.upd' hr) upd_same⟩
end
end FK
set_option Elab.async false
set_option linter.all false
set_option maxRecDepth 100000
set_option maxHeartbeats 4000000
set_option pp.maxSteps 400
namespace FK
open PySem PySem.Spec PyProof.Rows L2
def AnsErr (H : Hp) (Q : VK) : Err Str → Prop
  | .unknown a => ∀ H' r, Same H H' → H' r = some (.tup [.str "writer", .str a]) → Q (.ref r) H'
  | .event j => ∀ H' r, Same H H' → H' r = some (.tup [.str "event", .int (j : Nat)]) → Q (.ref r) H'
def AnsP {β : Type} (H : Hp) (Q : VK) (r : Except (Err Str) β) (ok : β → Prop) : Prop := match r with
  | .ok x => ok x
  | .error x => AnsErr H Q x
section
variable {P : Program} {w : World} {K : PySem.W.Frag} {mg : Str → Option Value} {base : Heap} {c : Cs}
def spAsked (c : Cs) : Sp := fun vs H Q _ => ∃ (p q el : Addr) (wh : Bool) (evs : List (Ev Str)) (t : Tr Str) (names : List Str), vs = [.ref p, .ref q, .ref el, .bl wh] ∧ PlanAt c.fork H p t names ∧
  ((BadAt H q (cellsOf (wayOf t) names).length ∧ ∀ H' r, Same H H' → H' r = some (.tup [.str "state", .int 0]) → Q (.ref r) H') ∨
    ∃ st, TupAt H q st ∧ StOk t names st ∧ EvsAt H el evs ∧ (∀ e ∈ evs, NameOk e.1) ∧ evs.length ≤ 63 ∧
      ((wh = true ∧ AnsP H Q (lastM (wayOf t) names none st evs 0) fun acc => ∀ H' r, Same H H' → H' r = some (.tup [.str "found", lastV acc]) → Q (.ref r) H') ∨
       (wh = false ∧ AnsP H Q (runM (wayOf t) names st evs 0) fun en => ∀ H' r q', Same H H' → TupAt H' q' en → StOk t names en → H' r = some (.tup [.str "found", .ref q']) → Q (.ref r) H')))
theorem resP_of {β : Type} {H : Hp} {Q : VK} {E : XK} {r : Except (Err Str) β} {ok ok' : β → Prop} (h : AnsP H Q r ok) (f : ∀ x, ok x → ok' x)
    (hw : ∀ z, AnsErr H Q (.unknown z) → ErrP c H E (.unknown z)) (he : ∀ j, AnsErr H Q (.event j) → ErrP c H E (.event j)) : ResP c H E r ok' := by
  cases r with
  | ok x => exact f x h
  | error x =>
    cases x with
    | unknown z => exact hw z h
    | event j => exact he j h
theorem ok_asked (T : Txt K mg) (R : ErrTxt P K mg c) (L : PlanTxt P K mg c) (A0 : AskTxt K mg c) : FnB P w K mg base CX0 9 "_law_asked" (spAsked c) := by
  have GL : FnB P w K mg base (L2.CX P w) 8 "last_whole" (spLast c) := ok_last T R L
  have GR : FnB P w K mg base (L2.CX P w) 8 "run" (spRun c) := ok_run T R L
  refine T.lAsked.ok scAsked (fun vs H Q E h => ?_) (fun f cdv A outer s H vs Q E hr h => ?_)
  · obtain ⟨p, q, el, wh, evs, t, names, rfl, _⟩ := h
    rfl
  · obtain ⟨p, q, el, wh, evs, t, names, rfl, hp, k⟩ := h
    obtain ⟨ts, hps, hS, hW, hE⟩ := suite_ps (P := P) (w := w) (base := base) (cdv := cdv) (A := A) (outer := outer) (s := s) (H0 := H) (E := E) T R A0 hr
    refine ⟨_, pss_cons (ps_try_as (i := 4) (ts := ts) (Wout := fun _ _ _ _ => False) rfl rfl scAsked.nd rfl rfl ⟨rfl, by decide, .inl A0.gErr⟩ takes0
        (fun W pn xe tk _ => pss_cons (ps_if (pt_val (pv 3)) (pss_one (ps_ret (pe_tup (pa_cons pe_str (pa_cons (pcallS (E := fun σ => WE W σ) GL hr (fun σ => passAt tk σ) (pa_cons (pv 0) (pa_cons (pv 1) (pa_cons (pv 2) pa_nil)))) pa_nil))))) pss_nil)
          (pss_one (ps_ret (pe_tup (pa_cons pe_str (pa_cons (pcallS (E := fun σ => WE W σ) GR hr (fun σ => passAt tk σ) (pa_cons (pv 0) (pa_cons (pv 1) (pa_cons (pv 2) pa_nil)))) pa_nil))))))
        (fun a oe cls d pn hz hf => hps a oe cls d pn hz hf))
      (pss_one (ps_ret (pe_tup (pa_cons pe_str (pa_cons pe_int pa_nil))))), ?_⟩
    cases wh with
    | true =>
      refine ⟨_, rfl, _, rfl, if_t rfl ⟨_, rfl, _, rfl, _, rfl, p, q, el, evs, t, names, rfl, hp, ?_⟩⟩
      rcases k with ⟨hb, k⟩ | ⟨st, hq, hst, hev, hnm, hlen, k⟩
      · exact .inl ⟨hb, fun H' s' => ⟨true, A0.exS, fun _ a ha => hS a _ H' _ _ _ _ _ fun H2 r s2 e2 => k H2 r (s'.trans s2) e2, fun z => nomatch z⟩⟩
      · rcases k with ⟨_, k⟩ | ⟨z, _⟩
        · refine .inr ⟨st, hq, hst, hev, hnm, hlen, resP_of k (fun acc k H' s' => ?_) (fun z k H' d s' hd e => ?_) (fun j k H' d s' hd e => ?_)⟩
          · exact ⟨(by show 2 ≤ sizeLine; decide), fun r hr => k _ r (s'.upd' hr) upd_same⟩
          · exact ⟨true, A0.exW, fun _ a ha => hW a d z _ H' _ _ _ _ _ e fun H2 r s2 e2 => k H2 r (s'.trans s2) e2, fun z => nomatch z⟩
          · exact ⟨true, A0.exE, fun _ a ha => hE a d j _ H' _ _ _ _ _ e fun H2 r s2 e2 => k H2 r (s'.trans s2) e2, fun z => nomatch z⟩
        · cases z
    | false =>
      refine ⟨_, rfl, _, rfl, if_f rfl ⟨_, rfl, _, rfl, _, rfl, p, q, el, evs, t, names, rfl, hp, ?_⟩⟩
      rcases k with ⟨hb, k⟩ | ⟨st, hq, hst, hev, hnm, hlen, k⟩
      · exact .inl ⟨hb, fun H' s' => ⟨true, A0.exS, fun _ a ha => hS a _ H' _ _ _ _ _ fun H2 r s2 e2 => k H2 r (s'.trans s2) e2, fun z => nomatch z⟩⟩
      · rcases k with ⟨z, _⟩ | ⟨_, k⟩
        · cases z
        · refine .inr ⟨st, hq, hst, hev, hnm, hlen, resP_of k (fun en k H' q' s' hq' hst' => ?_) (fun z k H' d s' hd e => ?_) (fun j k H' d s' hd e => ?_)⟩
          · exact ⟨(by show 2 ≤ sizeLine; decide), fun r hr => k _ r q' (s'.upd' hr) ((Same.upd hr) _ _ hq') hst' upd_same⟩
          · exact ⟨true, A0.exW, fun _ a ha => hW a d z _ H' _ _ _ _ _ e fun H2 r s2 e2 => k H2 r (s'.trans s2) e2, fun z => nomatch z⟩
          · exact ⟨true, A0.exE, fun _ a ha => hE a d j _ H' _ _ _ _ _ e fun H2 r s2 e2 => k H2 r (s'.trans s2) e2, fun z => nomatch z⟩
end
end FK
set_option Elab.async false
set_option linter.all false
set_option maxRecDepth 100000
set_option maxHeartbeats 4000000
set_option pp.maxSteps 400
namespace FK
open PySem PySem.Spec PyProof.Rows L2
def evD (e : Ev Str) : PyData := .tuple [.str e.1, match e.2 with | none => .none | some d => .int (d : Nat)]
theorem dp_ev {K : PySem.W.Frag} {H : Hp} {p : Addr} {e : Ev Str} (h : EvAt H p e) : Dp K H (.ref p) (evD e) := by
  obtain ⟨a, d⟩ := e
  cases d with
  | none => exact .tup (SqT.of h) (.cons (.str _) (.cons .non .nil))
  | some d => exact .tup (SqT.of h) (.cons (.str _) (.cons (.int _) .nil))
theorem dp_evs {K : PySem.W.Frag} {H : Hp} : ∀ {es : List Addr} {evs : List (Ev Str)}, Paired (EvAt H) es evs → DpAll K H (es.map V.ref) (evs.map evD)
  | _, _, .nil => .nil
  | _, _, .cons h t => .cons (dp_ev h) (dp_evs t)
theorem NameOk.str {z : Str} (h : NameOk z) : PyData.strOk z = true := by
  unfold PyData.strOk
  rw [Array.all_eq_true']
  intro c hc
  have : ∀ c ∈ abc.cps.toList, c < 0x110000 := by decide +kernel
  exact decide_eq_true (this c (h.2.2 c (Array.mem_toList_iff.mpr hc)))
theorem can_ev {e : Ev Str} (h : NameOk e.1) : PyData.canLay0 (evD e) = true := by
  obtain ⟨a, d⟩ := e
  have h1 := NameOk.str h
  cases d <;> simp [evD, PyData.canLay0, PyData.canLayAll0, h1]
theorem can_evs : ∀ {evs : List (Ev Str)}, (∀ e ∈ evs, NameOk e.1) → PyData.canLayAll0 (evs.map evD) = true
  | [], _ => by simp [PyData.canLayAll0]
  | e :: r, h => by
    simp only [List.map_cons, PyData.canLayAll0, can_ev (h e (by simp)), can_evs fun x hx => h x (List.mem_cons_of_mem _ hx), Bool.and_self]
theorem depth_ev (e : Ev Str) : PyData.depth (evD e) = 1 := by
  obtain ⟨a, d⟩ := e
  cases d <;> simp [evD, PyData.depth, PyData.depthAll]
theorem depth_evs : ∀ evs : List (Ev Str), PyData.depthAll (evs.map evD) ≤ 1
  | [] => by simp [PyData.depthAll]
  | e :: r => by
    have := depth_evs r
    simp only [List.map_cons, PyData.depthAll, depth_ev]
    omega
theorem shaped_evs {evs : List (Ev Str)} (h : ∀ e ∈ evs, NameOk e.1) : SeqAt.shaped (.list (evs.map evD)) = true := by
  unfold SeqAt.shaped
  have := depth_evs evs
  simp only [PyData.canLay0, can_evs h, PyData.depth, Bool.true_and]
  exact decide_eq_true (by omega)
theorem refl_evs {evs : List (Ev Str)} (h : ∀ e ∈ evs, NameOk e.1) : PyData.eqv (.list (evs.map evD)) (.list (evs.map evD)) = true := SeqAt.eqv_refl _ (by simp only [PyData.canLay0, can_evs h])
theorem atI_end {α : Type} {xs : List α} {n : Nat} {x : α} (hl : xs.length = n + 1) (h : xs[n]? = some x) : atI xs (-1) = some x := by
  unfold atI ixN
  rw [if_neg (by decide), if_pos (by omega)]
  have e : ((-1 : Int) + (xs.length : Int)).toNat = n := by omega
  show xs[((-1 : Int) + (xs.length : Int)).toNat]? = some x
  rw [e]
  exact h
theorem px0 {X : L2.Cx} {P : Program} {w : World} (hP : X.prog = P := by rfl) (hw : X.w = w := by rfl) : Passes (L2.CX P w) X (fun _ _ _ => False) := by
  subst hP hw
  exact passes_call takes0 fun _ _ _ _ h => h
section
variable {P : Program} {w : World} {K : PySem.W.Frag} {mg : Str → Option Value} {base : Heap} {c : Cs}
def spRight (c : Cs) : Sp := fun vs H Q _ => ∃ (p b sl el wl : Addr) (t : Tr Str) (names : List Str) (qs : List Addr) (sts : List (List Int)) (evs : List (Ev Str)) (whs : List (Option Str)) (st : List Int), vs = [.ref p, .ref b, .ref sl, .ref el, .ref wl] ∧ PlanAt c.fork H p t names ∧ BookAt H b t names ∧
  H sl = some (.lst (qs.map V.ref)) ∧ Paired (TupAt H) qs sts ∧ EvsAt H el evs ∧ H wl = some (.lst (whs.map lastV)) ∧ Chain (wayOf t) names evs whs sts ∧ sts[0]? = some st ∧ StOk t names st ∧ (∀ e ∈ evs, e.1 ∈ names) ∧ evs.length ≤ 60 ∧ ∀ H', Same H H' → Q (.bl true) H'
abbrev sRight : Stmt := topS 57
abbrev nRight : List Str := ["_law_plan", "_law_book_here", "_law_states", "_law_events_here", "_law_wholes", "_law_given", "_law_found", "_law_last_here", "_law_named"]
theorem scRight : FnScope nRight ["_law_plan", "_law_book_here", "_law_states", "_law_events_here", "_law_wholes"] (defScope sRight) := ⟨rfl, rfl, rfl, by decide +kernel, rfl, by decide +kernel, by decide +kernel⟩
theorem ok_right (T : Txt K mg) (R : ErrTxt P K mg c) (L : PlanTxt P K mg c) (A0 : AskTxt K mg c) : FnB P w K mg base CX0 10 "_law_right" (spRight c) := by
  have GA : FnB P w K mg base CX0 9 "_law_asked" (spAsked c) := ok_asked T R L A0
  have GI : FnB P w K mg base CX0 2 "_law_is_state" spIsState := ok_isState T
  have GL : FnB P w K mg base CX0 1 "_law_last" spLLast := ok_llast T
  have GT : FnM P w K mg base (L2.CX P w) 4 c.fork "told" (spTold c) := ok_told T R L
  have GE : FnB P w K mg base CX0 2 "_law_teller" spTeller := ok_teller T
  refine T.lRight.ok scRight (fun vs H Q E h => ?_) (fun f cdv A outer s H vs Q E hr h => ?_)
  · obtain ⟨p, b, sl, el, wl, t, names, qs, sts, evs, whs, st, rfl, _⟩ := h
    rfl
  · obtain ⟨p, b, sl, el, wl, t, names, qs, sts, evs, whs, st, rfl, hp, hb, hsl, hqs, hev, hwl, ch, h0, hst, hmem, hlen, k⟩ := h
    obtain ⟨dx, nl, cl, sl', wd, fd, ld, vt, zw, ps, p1, _⟩ := hp.ex
    have hg := hp.good
    refine ⟨_, pss_cons (ps_set (i := 5) scRight.nd rfl (.inl rfl) (pe_callTy call_list_of (by rfl) T.b.list (by decide +kernel) (pa_cons (pv 3) pa_nil)))
      (pss_cons (ps_set (i := 6) scRight.nd rfl (.inl rfl) (pcall GA hr pass0 (pa_cons (pv 0) (pa_cons (pe_ix ix_list (pv 2) pe_int (fun _ _ => rfl)) (pa_cons (pv 5) (pa_cons pe_bl pa_nil))))))
      (pss_cons (ps_if (PW.pt (pw_or (pt_cmpR op_ne (pe_ix ix_tup (pv 6) pe_int (fun _ _ => rfl)) pe_str (nomark _)) (pw_or1 (pt_not (pt_val (pcall GI (hr.mono (by decide)) pass0 (pa_cons (pe_ix ix_tup (pv 6) pe_int (fun _ _ => rfl)) (pa_cons (pe_ix ix_list (pv 2) (pe_un un_neg pe_int) (fun _ _ => rfl)) pa_nil))))))))
        (pss_one (ps_ret pe_bl)) pss_nil)
      (pss_cons (ps_set (i := 7) scRight.nd rfl (.inl rfl) (pcall GL (hr.mono (by decide)) pass0 (pa_cons (pv 4) pa_nil)))
      (pss_cons (ps_set (i := 8) scRight.nd rfl (.inl rfl) (pcall GA hr pass0 (pa_cons (pv 0) (pa_cons (pe_ix ix_list (pv 2) pe_int (fun _ _ => rfl)) (pa_cons (pv 5) (pa_cons pe_bl pa_nil))))))
      (pss_cons (ps_if (PW.pt (pw_or (pt_cmpR op_ne (pe_ix ix_tup (pv 8) pe_int (fun _ _ => rfl)) pe_str (nomark _)) (pw_or1 (pt_cmpR (op_neD hr.units) (pv 5) (pv 3) (nomark _))))) (pss_one (ps_ret pe_bl)) pss_nil)
      (pss_cons (ps_if (pt_cmp (pc_isN (pv 7)))
        (pss_one (ps_ret (pe_and (pe_cmp (pc_isN (pe_ix ix_tup (pv 8) pe_int (fun _ _ => rfl))) rfl) (pe_one (pe_cmpR op_eq (pmeth GT L.cls (hr.mono (by decide)) px0 (pv 0) (pa_cons (pe_ix ix_tup (pv 6) pe_int (fun _ _ => rfl)) pa_nil)) (pcall GE (hr.mono (by decide)) pass0 (pa_cons (pv 1) (pa_cons (pe_ix ix_list (pv 2) pe_int (fun _ _ => rfl)) pa_nil))) (nomark _)))))) pss_nil)
      (pss_one (ps_ret (pe_and (pisi "str" T.b (pe_ix ix_tup (pv 8) pe_int (fun _ _ => rfl)) T.b.str (by decide +kernel)) (pe_and (pe_cmpR op_eq (pe_ix ix_tup (pv 8) pe_int (fun _ _ => rfl)) (pv 7) (nomark _))
        (pe_one (pe_cmpR op_eq (pmeth GT L.cls (hr.mono (by decide)) px0 (pv 0) (pa_cons (pe_ix ix_tup (pv 6) pe_int (fun _ _ => rfl)) pa_nil)) (pv 7) (nomark _))))))))))))), ?_⟩
    obtain ⟨es, he1, he2⟩ := id hev
    obtain ⟨en, hen, hrun⟩ := ch.run 0 h0
    have hlast := ch.last none 0 h0
    have hnm : ∀ e ∈ evs, NameOk e.1 := fun e he => hg.name (hmem e he)
    obtain ⟨hme, hle, htell⟩ := ch.told (fun a ha => hg.way ha) none hst.marks hst.len h0 hen (fun a z => nomatch z)
    have hsten : StOk t names en := ⟨hme, hle⟩
    obtain ⟨lwh, lst⟩ := ch.len
    have lq := paired_len hqs
    obtain ⟨q0, s0', hq0, hs0, ht0⟩ := paired_at (i := 0) hqs (by omega)
    rw [h0] at hs0
    cases hs0
    obtain ⟨q1, s1', hq1, hs1, ht1⟩ := paired_at (i := evs.length) hqs (by omega)
    rw [hen] at hs1
    cases hs1
    have ix0 : ∀ {H' : Hp}, Same H H' → SqL K H' sl (qs.map V.ref) := fun {H'} s' => SqL.of (s' _ _ hsl)
    have at0 : atI (qs.map V.ref) 0 = some (.ref q0) := atI_nat (j := 0) (by rw [List.getElem?_map, hq0]; rfl)
    have atL : atI (qs.map V.ref) (-1) = some (.ref q1) := atI_end (n := evs.length) (by rw [List.length_map, lq, lst]) (by rw [List.getElem?_map, hq1]; rfl)
    -- given
    refine ⟨_, rfl, el, _, rfl, .inl (SqL.of he1), fun g hg0 => ?_⟩
    have s1 : Same H (upd H g (.lst (es.map V.ref))) := Same.upd hg0
    have eg : upd H g (.lst (es.map V.ref)) g = some (.lst (es.map V.ref)) := upd_same
    generalize upd H g (.lst (es.map V.ref)) = H1 at s1 eg ⊢
    -- found
    refine ⟨_, rfl, _, rfl, sl, _, 0, _, rfl, rfl, ix0 s1, at0, _, rfl, p, q0, g, false, evs, t, names, rfl, hp.same s1, .inr ⟨st, s1 _ _ ht0, hst, ⟨es, eg, paired_imp (fun _ _ h => s1 _ _ h) he2⟩, hnm, by omega, .inr ⟨rfl, ?_⟩⟩⟩
    rw [hrun]
    intro H2 r q2 s2 hq2 hst2 hr2
    have s12 := s1.trans s2
    refine ⟨_, rfl, r, _, 0, _, rfl, rfl, SqT.of hr2, atI_nat (j := 0) rfl, rfl, _, rfl, if_f (by decide +kernel) ?_⟩
    refine ⟨_, rfl, r, _, 1, _, rfl, rfl, SqT.of hr2, atI_nat (j := 1) rfl, _, rfl, _, rfl, sl, _, _, _, rfl, rfl, ix0 s12, atL, q2, q1, en, rfl, hq2, s12 _ _ ht1, _, rfl, if_f rfl ?_⟩
    -- last
    refine ⟨_, rfl, wl, whs, rfl, s12 _ _ hwl, ?_⟩
    -- named
    refine ⟨_, rfl, _, rfl, sl, _, 0, _, rfl, rfl, ix0 s12, at0, _, rfl, p, q0, g, true, evs, t, names, rfl, hp.same s12, .inr ⟨st, s12 _ _ ht0, hst, ⟨es, s2 _ _ eg, paired_imp (fun _ _ h => s12 _ _ h) he2⟩, hnm, by omega, .inl ⟨rfl, ?_⟩⟩⟩
    rw [hlast]
    intro H3 r3 s3 hr3
    have s13 := s12.trans s3
    refine ⟨_, rfl, r3, _, 0, _, rfl, rfl, SqT.of hr3, atI_nat (j := 0) rfl, rfl, _, rfl, if_f (by decide +kernel) ?_⟩
    have he3 := paired_imp (fun (x : Addr) (y : Ev Str) (h : EvAt H x y) => s13 _ _ h) he2
    refine ⟨_, rfl, _, rfl, _, _, .lst (SqL.of (s3 _ _ (s2 _ _ eg))) (dp_evs he3), .lst (SqL.of (s13 _ _ he1)) (dp_evs he3), shaped_evs hnm, shaped_evs hnm, _, rfl, if_f (by rw [refl_evs hnm]; rfl) ?_⟩
    have hrr := s3 _ _ hr2
    have hqq : TupAt H3 q2 en := s3 _ _ hq2
    cases hla : lastOf none whs with
    | none =>
      rw [hla] at hr3 htell
      refine ⟨_, rfl, _, rfl, if_t rfl ?_⟩
      refine ⟨_, rfl, r3, _, 1, _, rfl, rfl, SqT.of hr3, atI_nat (j := 1) rfl, true, rfl, ?_⟩
      refine ⟨_, rfl, p, dx, _, rfl, s13 _ _ p1, rfl, _, rfl, r, _, 1, _, rfl, rfl, SqT.of hrr, atI_nat (j := 1) rfl, p, q2, en, t, names, rfl, hp.same s13, hqq, hsten, fun H4 s4 => ?_⟩
      have s14 := s13.trans s4
      refine ⟨_, rfl, _, rfl, sl, _, 0, _, rfl, rfl, ix0 s14, at0, b, q0, st, t, names, rfl, hb.same s14, s14 _ _ ht0, hst, fun H5 s5 => ⟨rfl, ?_⟩⟩
      have e : t.tell (brd (cf (wayOf t) names) en) [] = t.tell (brd (cf (wayOf t) names) st) [] := htell
      rw [e, decide_eq_true rfl]
      exact k H5 (s14.trans s5)
    | some a =>
      rw [hla] at hr3 htell
      refine ⟨_, rfl, _, rfl, if_f rfl ?_⟩
      refine ⟨_, rfl, r3, _, 1, _, rfl, rfl, SqT.of hr3, atI_nat (j := 1) rfl, _, _, _, _, true, rfl, .ty _, .base (.str _), kit_ty (by decide +kernel), true, rfl, ?_⟩
      refine ⟨_, rfl, r3, _, 1, _, rfl, rfl, SqT.of hr3, atI_nat (j := 1) rfl, _, rfl, rfl, true, by rw [decide_eq_true rfl], ?_⟩
      refine ⟨_, rfl, p, dx, _, rfl, s13 _ _ p1, rfl, _, rfl, r, _, 1, _, rfl, rfl, SqT.of hrr, atI_nat (j := 1) rfl, p, q2, en, t, names, rfl, hp.same s13, hqq, hsten, fun H4 s4 => ?_⟩
      have s14 := s13.trans s4
      refine ⟨_, rfl, rfl, ?_⟩
      have e : t.tell (brd (cf (wayOf t) names) en) [] = a := htell
      rw [e]
      show Q (.bl (decide (V.str a = V.str a))) H4
      rw [decide_eq_true rfl]
      exact k H4 s14
end
end FK
set_option Elab.async false
set_option linter.all false
set_option maxRecDepth 100000
set_option maxHeartbeats 4000000
set_option pp.maxSteps 400
namespace FK
open PySem PySem.Spec PyProof.Rows L2
structure Rx (R H : Hp) (x : Addr) : Prop where
  same : Same R H
  box : BoxAt H x
theorem Rx.take {R H : Hp} {x : Addr} (r : Rx R H x) (h0 : R x = none) (a b c : Int) : Rx R (upd H x (BX a b c)) x := ⟨r.same.at h0, ⟨_, _, _, upd_same⟩⟩
theorem Rx.same' {R H H' : Hp} {x : Addr} (r : Rx R H x) (s : Same H H') : Rx R H' x := by
  obtain ⟨a, b, c, e⟩ := r.box
  exact ⟨r.same.trans s, ⟨a, b, c, s _ _ e⟩⟩
theorem Rx.bx {R H H' : Hp} {x : Addr} (r : Rx R H x) (h0 : R x = none) (b : Bx H H' x) : Rx R H' x := ⟨fun p o z => b.at (r.same _ _ z) (ne_of_none z h0), b.box⟩
theorem BadAt.same {H H' : Hp} {q : Addr} {n : Nat} (h : BadAt H q n) (s : Same H H') : BadAt H' q n := by
  rcases h with ⟨xs, h⟩ | ⟨xs, h, h2, h3⟩
  · exact .inl ⟨xs, s _ _ h⟩
  · exact .inr ⟨xs, s _ _ h, h2, h3⟩
def dueV : Err Str → List V
  | .unknown a => [.str "writer", .str a]
  | .event j => [.str "event", .int (j : Nat)]
def dueD : Err Str → PyData
  | .unknown a => .tuple [.str "writer", .str a]
  | .event j => .tuple [.str "event", .int (j : Nat)]
theorem dp_due {K : PySem.W.Frag} {H : Hp} {p : Addr} {x : Err Str} (h : H p = some (.tup (dueV x))) : Dp K H (.ref p) (dueD x) := by
  cases x with
  | unknown a => exact .tup (SqT.of h) (.cons (.str _) (.cons (.str _) .nil))
  | event j => exact .tup (SqT.of h) (.cons (.str _) (.cons (.int _) .nil))
def DueOk : Err Str → Prop
  | .unknown a => NameOk a
  | .event _ => True
theorem can_due {x : Err Str} (h : DueOk x) : PyData.canLay0 (dueD x) = true := by
  have w1 : PyData.strOk "writer" = true := by decide +kernel
  have w2 : PyData.strOk "event" = true := by decide +kernel
  cases x with
  | unknown a =>
    have h1 := NameOk.str (show NameOk a from h)
    simp [dueD, PyData.canLay0, PyData.canLayAll0, h1, w1]
  | event j => simp [dueD, PyData.canLay0, PyData.canLayAll0, w2]
theorem shaped_due {x : Err Str} (h : DueOk x) : SeqAt.shaped (dueD x) = true := by
  unfold SeqAt.shaped
  rw [can_due h]
  cases x <;> simp [dueD, PyData.depth, PyData.depthAll]
def stateD : PyData := .tuple [.str "state", .int 0]
theorem dp_state {K : PySem.W.Frag} {H : Hp} {p : Addr} (h : H p = some (.tup [.str "state", .int 0])) : Dp K H (.ref p) stateD := .tup (SqT.of h) (.cons (.str _) (.cons (.int _) .nil))
theorem can_state : PyData.canLay0 stateD = true := by
  have w1 : PyData.strOk "state" = true := by decide +kernel
  simp [stateD, PyData.canLay0, PyData.canLayAll0, w1]
theorem shaped_state : SeqAt.shaped stateD = true := by
  unfold SeqAt.shaped
  rw [can_state]
  simp [stateD, PyData.depth, PyData.depthAll]
theorem paired_app {α β : Type} {R : α → β → Prop} : ∀ {xs : List α} {ys : List β} {xs' : List α} {ys' : List β}, Paired R xs ys → Paired R xs' ys' → Paired R (xs ++ xs') (ys ++ ys')
  | _, _, _, _, .nil, h => h
  | _, _, _, _, .cons h t, h' => .cons h (paired_app t h')
theorem ansErr_of {H : Hp} {Q : VK} {x : Err Str} (k : ∀ H' r, Same H H' → H' r = some (.tup (dueV x)) → Q (.ref r) H') : AnsErr H Q x := by
  cases x with
  | unknown a => exact k
  | event j => exact k
section
variable {P : Program} {w : World} {K : PySem.W.Frag} {mg : Str → Option Value} {base : Heap} {c : Cs}
def spRefused (c : Cs) : Sp := fun vs H Q _ => ∃ (x p b sl el : Addr) (R : Hp) (t : Tr Str) (names : List Str) (qs : List Addr) (sts : List (List Int)) (evs : List (Ev Str)) (whs : List (Option Str)) (st : List Int), vs = [.ref x, .ref p, .ref b, .ref sl, .ref el] ∧ R x = none ∧ Same R H ∧ BoxAt H x ∧
  PlanAt c.fork R p t names ∧ BookAt R b t names ∧ R sl = some (.lst (qs.map V.ref)) ∧ Paired (TupAt R) qs sts ∧ EvsAt R el evs ∧ Chain (wayOf t) names evs whs sts ∧ sts[0]? = some st ∧ StOk t names st ∧ (∀ e ∈ evs, e.1 ∈ names) ∧ evs.length ≤ 40 ∧ ∀ H', Same R H' → Q (.bl true) H'
abbrev sRefused : Stmt := topS 58
abbrev nRefused : List Str := ["_law_box_here", "_law_plan", "_law_book_here", "_law_states", "_law_events_here", "_law_place", "_law_names_here", "_law_stranger_here", "_law_writer", "_law_most", "_law_over", "_law_kind", "_law_bad", "_law_other", "_law_due", "_law_bent", "_law_wrong", "_law_whole", "_law_given"]
theorem scRefused : FnScope nRefused ["_law_box_here", "_law_plan", "_law_book_here", "_law_states", "_law_events_here"] (defScope sRefused) := ⟨rfl, rfl, rfl, by decide +kernel, rfl, by decide +kernel, by decide +kernel⟩
theorem Chain.okAt {t : Tr Str} {names : List Str} (hg : Good t names) {evs : List (Ev Str)} {whs : List (Option Str)} {sts : List (List Int)} (ch : Chain (wayOf t) names evs whs sts) {st s : List Int} {i : Nat} (h0 : sts[0]? = some st) (hst : StOk t names st) (hi : i ≤ evs.length) (h : sts[i]? = some s) : StOk t names s := by
  have c2 := ch.take i hi
  have l : (evs.take i).length = i := by rw [List.length_take]; omega
  obtain ⟨h1, h2, _⟩ := c2.told (fun a ha => hg.way ha) (st := st) (en := s) none hst.marks hst.len (by rw [List.getElem?_take_of_lt (by omega)]; exact h0) (by rw [l, List.getElem?_take_of_lt (by omega)]; exact h) (fun a z => nomatch z)
  exact ⟨h1, h2⟩
theorem ok_refused (T : Txt K mg) (R0 : ErrTxt P K mg c) (L : PlanTxt P K mg c) (A0 : AskTxt K mg c) : FnB P w K mg base CX0 10 "_law_refused" (spRefused c) := by
  have G : FnB P w K mg base CX0 2 "_law_take" spTake := ok_take T
  have GA : FnB P w K mg base CX0 9 "_law_asked" (spAsked c) := ok_asked T R0 L A0
  have GS : FnB P w K mg base CX0 4 "_law_stranger" spStranger := ok_stranger T
  have GN : FnB P w K mg base CX0 2 "_law_needs" spNeeds := ok_needs T
  have GB : FnB P w K mg base CX0 3 "_law_bad_state" spBadState := ok_badState T
  refine T.lRefused.ok scRefused (fun vs H Q E h => ?_) (fun f cdv A outer s H vs Q E hr h => ?_)
  · obtain ⟨x, p, b, sl, el, R, t, names, qs, sts, evs, whs, st, rfl, _⟩ := h
    rfl
  · obtain ⟨x, p, b, sl, el, R, t, names, qs, sts, evs, whs, st, rfl, hRx, hRH, hbx, hp, hb, hsl, hqs, hev, ch, h0, hst, hmem, hlen, k⟩ := h
    obtain ⟨wd, bd, fd, ld, kvb, b1, b2, b3, b4, b5, b6⟩ := hb.ex
    have hg := hb.good
    refine ⟨_, pss_cons (ps_set (i := 5) scRefused.nd rfl (.inl rfl) (pcall G (hr.mono (by decide)) pass0 (pa_cons (pv 0) (pa_cons (pe_op op_add (pe_callB call_len_seq (by rfl) T.b.len (by decide +kernel) (pa_cons (pv 4) pa_nil)) pe_int) pa_nil))))
      (pss_cons (ps_set (i := 6) scRefused.nd rfl (.inl rfl) (pe_callB (call_sortedD rfl) (by rfl) T.b.sorted (by decide +kernel) (pa_cons (pe_ix ix_tup (pv 2) pe_int (fun _ _ => rfl)) pa_nil)))
      (pss_cons (ps_set (i := 7) scRefused.nd rfl (.inl rfl) (pcall GS (hr.mono (by decide)) pass0 (pa_cons (pv 0) (pa_cons (pv 6) pa_nil))))
      (pss_cons (ps_set (i := 8) scRefused.nd rfl (.inl rfl) (pe_ix ix_list (pv 6) (pcall G (hr.mono (by decide)) pass0 (pa_cons (pv 0) (pa_cons (pe_callB call_len_seq (by rfl) T.b.len (by decide +kernel) (pa_cons (pv 6) pa_nil)) pa_nil))) (fun _ _ => rfl)))
      (pss_cons (ps_set (i := 9) scRefused.nd rfl (.inl rfl) (pe_callB call_len_seq (by rfl) T.b.len (by decide +kernel) (pa_cons (pcall GN (hr.mono (by decide)) pass0 (pa_cons (pv 2) (pa_cons (pe_ix ix_list (pv 3) (pv 5) (fun _ _ => rfl)) (pa_cons (pv 8) pa_nil)))) pa_nil)))
      (pss_cons (ps_cut (ps_set (i := 10) scRefused.nd rfl (.inl rfl) (pe_op op_add (pe_op op_add (pv 9) pe_int) (pcall G (hr.mono (by decide)) pass0 (pa_cons (pv 0) (pa_cons pe_int pa_nil))))))
      (pss_cons (ps_set (i := 11) scRefused.nd rfl (.inl rfl) (pcall G (hr.mono (by decide)) pass0 (pa_cons (pv 0) (pa_cons pe_int pa_nil))))
      (pss_cons (ps_cut (ps_set (i := 12) scRefused.nd rfl (.inl rfl) (pe_ix ix_list (pe_lst (pa_cons (pe_tup (pa_cons (pv 7) (pa_cons pe_non pa_nil))) (pa_cons (pe_tup (pa_cons (pv 7) (pa_cons (pv 10) pa_nil))) (pa_cons (pe_tup (pa_cons (pv 8) (pa_cons (pv 10) pa_nil))) (pa_cons (pe_tup (pa_cons (pv 8) (pa_cons (pe_op op_add (pv 9) pe_int) pa_nil))) pa_nil))))) (pv 11) (fun _ _ => rfl))))
      (pss_cons (ps_cut (ps_set (i := 13) scRefused.nd rfl (.inl rfl) (pe_ix ix_list (pe_lst (pa_cons (pe_tup (pa_cons (pv 8) (pa_cons pe_int pa_nil))) (pa_cons (pe_tup (pa_cons (pv 7) (pa_cons pe_int pa_nil))) pa_nil))) (pe_op op_fdiv (pv 11) pe_int) (fun _ _ => rfl))))
      (pss_cons (ps_cut (ps_set (i := 14) scRefused.nd rfl (.inl rfl) (pe_ix ix_list (pe_lst (pa_cons (pe_tup (pa_cons pe_str (pa_cons (pv 7) pa_nil))) (pa_cons (pe_tup (pa_cons pe_str (pa_cons (pv 5) pa_nil))) pa_nil))) (pe_op op_fdiv (pv 11) pe_int) (fun _ _ => rfl))))
      (pss_cons (ps_cut (ps_set (i := 15) scRefused.nd rfl (.inl rfl) (pe_op op_cat (pe_op op_cat (pe_op op_cat (pe_slice sl_list (pv 4) po_none (po_some (pv 5))) (pe_lst (pa_cons (pv 12) pa_nil))) (pe_slice sl_list (pv 4) (po_some (pv 5)) po_none)) (pe_lst (pa_cons (pv 13) pa_nil)))))
      (pss_cons (ps_set (i := 16) scRefused.nd rfl (.inl rfl) (pcall GB (hr.mono (by decide)) pass0 (pa_cons (pv 0) (pa_cons (pe_ix ix_list (pv 3) pe_int (fun _ _ => rfl)) pa_nil))))
      (pss_cons (ps_for PassesOwn.never rfl (pi_tup (pe_tup (pa_cons pe_bl (pa_cons pe_bl pa_nil)))) (pg_name (i := 17) scRefused.nd rfl (.inl rfl))
        (pss_cons (ps_set (i := 18) scRefused.nd rfl (.inl rfl) (pe_callTy call_list_of (by rfl) T.b.list (by decide +kernel) (pa_cons (pv 15) pa_nil)))
        (pss_cons (ps_if (PW.pt (pw_or (pt_cmpR (op_neD hr.units) (pcall GA hr pass0 (pa_cons (pv 1) (pa_cons (pe_ix ix_list (pv 3) pe_int (fun _ _ => rfl)) (pa_cons (pv 18) (pa_cons (pv 17) pa_nil))))) (pv 14) (nomark _)) (pw_or1 (pt_cmpR (op_neD hr.units) (pv 18) (pv 15) (nomark _))))) (pss_one (ps_ret pe_bl)) pss_nil)
        (pss_cons (ps_if (PW.pt (pw_or (pt_cmpR (op_neD hr.units) (pcall GA hr pass0 (pa_cons (pv 1) (pa_cons (pv 16) (pa_cons (pv 18) (pa_cons (pv 17) pa_nil))))) (pe_tup (pa_cons pe_str (pa_cons pe_int pa_nil))) (nomark _)) (pw_or1 (pt_cmpR (op_neD hr.units) (pv 18) (pv 15) (nomark _))))) (pss_one (ps_ret pe_bl)) pss_nil)
        (pss_one (ps_if (pt_cmpR (op_neD hr.units) (pcall GA hr pass0 (pa_cons (pv 1) (pa_cons (pv 16) (pa_cons (pe_slice sl_list (pv 4) po_none (po_some (pv 5))) (pa_cons (pv 17) pa_nil))))) (pe_tup (pa_cons pe_str (pa_cons pe_int pa_nil))) (nomark _)) (pss_one (ps_ret pe_bl)) pss_nil))))))
      (pss_one (ps_ret pe_bl)))))))))))))), ?_⟩
    have pass : True := trivial
    obtain ⟨es, he1, he2⟩ := id hev
    have les := paired_len he2
    obtain ⟨lwh, lst⟩ := ch.len
    have lq := paired_len hqs
    have hnm : ∀ e ∈ evs, NameOk e.1 := fun e he => hg.name (hmem e he)
    obtain ⟨a0, b0', c0, hx0⟩ := id hbx
    have X0 : Rx R H x := ⟨hRH, hbx⟩
    refine ⟨_, rfl, _, rfl, el, _, rfl, .inl (SqL.of (hRH _ _ he1)), _, _, rfl, rfl, x, _, a0, b0', c0, rfl, hx0, ?_, ?_, fun a b' c pl hpl => ?_⟩
    · show (0 : Int) < ((es.map V.ref).length : Nat) + 1; omega
    · show (((es.map V.ref).length : Nat) : Int) + 1 < 1000000; rw [List.length_map]; omega
    have hpl : pl ≤ evs.length := by
      have hpl : (pl : Int) < ((es.map V.ref).length : Nat) + 1 := hpl
      rw [List.length_map] at hpl
      omega
    have X1 := X0.take hRx a b' c
    have hx1 : upd H x (BX a b' c) x = some (BX a b' c) := upd_same
    generalize upd H x (BX a b' c) = H1 at X1 hx1 ⊢
    -- names
    refine ⟨_, rfl, b, _, 0, _, rfl, rfl, SqT.of (X1.same _ _ b1), atI_nat (j := 0) rfl, wd, kvW (t.ways []), t.leaves, rfl, .of (X1.same _ _ b2), by rw [kvW_keys, ways_fst], by have := hg.ok.le; omega, fun ys nl hperm hsrt hnl => ?_⟩
    have ey : ys = names := sorted_same hperm hg.nm.perm hsrt hg.nm.srt
    subst ey
    have nlx : nl ≠ x := fun e => by rw [e, hx1] at hnl; cases hnl
    have RR1 : Same R (upd R nl (.lst (ys.map V.str))) := Same.upd (X1.same.free hnl)
    have X2 : Rx (upd R nl (.lst (ys.map V.str))) (upd H1 nl (.lst (ys.map V.str))) x := ⟨fun p o e => by
      by_cases h : p = nl
      · rw [h, upd_same] at e ⊢
        exact e
      · rw [upd_ne h] at e ⊢
        exact X1.same _ _ e, ⟨_, _, _, (upd_ne nlx.symm).trans hx1⟩⟩
    have r1x : upd R nl (.lst (ys.map V.str)) x = none := (upd_ne nlx.symm).trans hRx
    have r1nl : upd R nl (.lst (ys.map V.str)) nl = some (.lst (ys.map V.str)) := upd_same
    generalize upd R nl (.lst (ys.map V.str)) = R1 at RR1 X2 r1x r1nl
    generalize upd H1 nl (.lst (ys.map V.str)) = H2 at X2 ⊢
    have hpos := hg.pos
    have h12 := hg.len
    -- the stranger
    refine ⟨_, rfl, _, rfl, x, nl, ys, rfl, X2.box, X2.same _ _ r1nl, hpos, h12, fun s hs => hg.name hs, fun H3 z b3' hz hzn => ?_⟩
    have X3 := X2.bx r1x b3'
    obtain ⟨a3, b3, c3, hx3⟩ := X3.box
    -- the writer
    refine ⟨_, rfl, _, rfl, _, rfl, nl, _, rfl, .inl (SqL.of (X3.same _ _ r1nl)), x, _, a3, b3, c3, rfl, hx3, ?_, ?_, fun a b' c d hd => ?_⟩
    · rw [List.length_map]; omega
    · rw [List.length_map]; omega
    rw [List.length_map] at hd
    have hd : d < ys.length := by omega
    have X4 := X3.take r1x a b' c
    generalize upd H3 x (BX a b' c) = H4 at X4 ⊢
    have hat : atI (ys.map V.str) (d : Int) = some (.str ys[d]) := atI_nat (by rw [List.getElem?_map, List.getElem?_eq_getElem hd]; rfl)
    have hym := List.getElem_mem hd
    refine ⟨nl, _, _, _, rfl, rfl, SqL.of (X4.same _ _ r1nl), hat, ?_⟩
    generalize ys[d] = u at hym
    -- most
    obtain ⟨qp, stp, hqp, hsp, htp⟩ := paired_at (i := pl) hqs (by omega)
    have hstp : StOk t ys stp := Chain.okAt hg ch h0 hst hpl hsp
    have hsl1 := RR1 _ _ hsl
    have atp : atI (qs.map V.ref) (pl : Int) = some (.ref qp) := atI_nat (by rw [List.getElem?_map, hqp]; rfl)
    refine ⟨_, rfl, _, rfl, _, rfl, sl, _, _, _, rfl, rfl, SqL.of (X4.same _ _ hsl1), atp, _, rfl, b, qp, u, stp, t, ys, rfl, (hb.same RR1).same X4.same, X4.same _ _ (RR1 _ _ htp), hstp, hym, fun H5 r s5 hr5 hrow => ?_⟩
    obtain ⟨rs, hrs1, hrs2⟩ := hrow
    refine ⟨r, _, rfl, .inl (SqL.of hrs1), ?_⟩
    have X5 := X4.same' s5
    have lrs : (rs.map V.ref).length = (turnsOf (wayOf t) ys stp u).length := by rw [List.length_map, paired_len hrs2]
    -- over
    refine ⟨fun σ' H' => ∃ ov : Nat, σ' = [some (.ref x), some (.ref p), some (.ref b), some (.ref sl), some (.ref el), some (.int (pl : Nat)), some (.ref nl), some (.str z), some (.str u), some (.int ((turnsOf (wayOf t) ys stp u).length : Nat)), some (.int (ov : Nat)), none, none, none, none, none, none, none, none] ∧ Rx R1 H' x ∧ (turnsOf (wayOf t) ys stp u).length < ov, ?_, ?_⟩
    · obtain ⟨a5, b5, c5, hx5⟩ := X5.box
      refine ⟨_, rfl, _, _, rfl, rfl, _, rfl, x, 4, a5, b5, c5, rfl, hx5, by decide, by decide, fun a b' c dd hdd => ⟨_, _, rfl, rfl, (turnsOf (wayOf t) ys stp u).length + 1 + dd, ?_, X5.take r1x a b' c, by omega⟩⟩
      have e : (((rs.map V.ref).length : Nat) : Int) + 1 + (dd : Nat) = (((turnsOf (wayOf t) ys stp u).length + 1 + dd : Nat) : Int) := by rw [lrs]; omega
      show [some (V.ref x), some (.ref p), some (.ref b), some (.ref sl), some (.ref el), some (.int (pl : Nat)), some (.ref nl), some (.str z), some (.str u), some (.int ((rs.map V.ref).length : Nat)), some (.int ((((rs.map V.ref).length : Nat) : Int) + 1 + (dd : Nat))), none, none, none, none, none, none, none, none] = _
      rw [e, lrs]
    rintro σ' H6 ⟨ov, rfl, X6, hov⟩
    generalize hm : (turnsOf (wayOf t) ys stp u).length = m at hov
    obtain ⟨a6, b6', c6, hx6⟩ := X6.box
    -- kind
    refine ⟨_, rfl, x, 4, a6, b6', c6, rfl, hx6, by decide, by decide, fun a b' c kd hkd => ?_⟩
    have X7 := X6.take r1x a b' c
    generalize upd H6 x (BX a b' c) = H7 at X7 ⊢
    have hkd : kd < 4 := by omega
    -- bad
    refine ⟨fun σ' H' => ∃ (pb : Addr) (eb : Ev Str), σ' = [some (.ref x), some (.ref p), some (.ref b), some (.ref sl), some (.ref el), some (.int (pl : Nat)), some (.ref nl), some (.str z), some (.str u), some (.int (m : Nat)), some (.int (ov : Nat)), some (.int (kd : Nat)), some (.ref pb), none, none, none, none, none, none] ∧
      Rx R1 H' x ∧ EvAt H' pb eb ∧ ((kd ≤ 1 ∧ eb.1 = z) ∨ (2 ≤ kd ∧ eb.1 = u ∧ ∃ dd, eb.2 = some dd ∧ m < dd)), ?_, ?_⟩
    · refine ⟨_, rfl, (by show 2 ≤ sizeLine; decide), fun t1 k1 => ⟨_, rfl, _, rfl, (by show 2 ≤ sizeLine; decide), fun t2 k2 => ⟨_, rfl, _, rfl, (by show 2 ≤ sizeLine; decide), fun t3 k3 => ⟨_, rfl, _, rfl, _, _, rfl, rfl, (by show 2 ≤ sizeLine; decide), fun t4 k4 => ⟨(by show 4 ≤ sizeLine; decide), fun l kl => ?_⟩⟩⟩⟩⟩
      have v1 : EvAt (upd H7 t1 (.tup [.str z, .non])) t1 (z, none) := upd_same
      have s1 := Same.upd (o := .tup [.str z, .non]) k1
      generalize upd H7 t1 (.tup [.str z, .non]) = G1 at v1 s1 k2 k3 k4 kl ⊢
      have v2 : EvAt (upd G1 t2 (.tup [.str z, .int (ov : Nat)])) t2 (z, some ov) := upd_same
      have s2 := Same.upd (o := .tup [.str z, .int (ov : Nat)]) k2
      generalize upd G1 t2 (.tup [.str z, .int (ov : Nat)]) = G2 at v2 s2 k3 k4 kl ⊢
      have v3 : EvAt (upd G2 t3 (.tup [.str u, .int (ov : Nat)])) t3 (u, some ov) := upd_same
      have s3 := Same.upd (o := .tup [.str u, .int (ov : Nat)]) k3
      generalize upd G2 t3 (.tup [.str u, .int (ov : Nat)]) = G3 at v3 s3 k4 kl ⊢
      have v4 : EvAt (upd G3 t4 (.tup [.str u, .int ((m : Nat) + 1)])) t4 (u, some (m + 1)) := upd_same
      have s4 := Same.upd (o := .tup [.str u, .int ((m : Nat) + 1)]) k4
      have kl : (upd G3 t4 (.tup [.str u, .int ((m : Nat) + 1)])) l = none := kl
      show Exists _
      have s5' := Same.upd (o := .lst [.ref t1, .ref t2, .ref t3, .ref t4]) kl
      have el : (upd (upd G3 t4 (.tup [.str u, .int ((m : Nat) + 1)])) l (.lst [.ref t1, .ref t2, .ref t3, .ref t4])) l = some (.lst [.ref t1, .ref t2, .ref t3, .ref t4]) := upd_same
      have X8 := (((X7.same' s1).same' s2).same' s3).same' (s4.trans s5')
      have pick : ∃ (pb : Addr) (eb : Ev Str), ([V.ref t1, .ref t2, .ref t3, .ref t4] : List V)[kd]? = some (.ref pb) ∧ EvAt (upd (upd G3 t4 (.tup [.str u, .int ((m : Nat) + 1)])) l (.lst [.ref t1, .ref t2, .ref t3, .ref t4])) pb eb ∧ ((kd ≤ 1 ∧ eb.1 = z) ∨ (2 ≤ kd ∧ eb.1 = u ∧ ∃ dd, eb.2 = some dd ∧ m < dd)) := by
        match kd, hkd with
        | 0, _ => exact ⟨t1, _, rfl, s5' _ _ (s4 _ _ (s3 _ _ (s2 _ _ v1))), .inl ⟨by omega, rfl⟩⟩
        | 1, _ => exact ⟨t2, _, rfl, s5' _ _ (s4 _ _ (s3 _ _ v2)), .inl ⟨by omega, rfl⟩⟩
        | 2, _ => exact ⟨t3, _, rfl, s5' _ _ (s4 _ _ v3), .inr ⟨by omega, rfl, ov, rfl, hov⟩⟩
        | 3, _ => exact ⟨t4, _, rfl, s5' _ _ v4, .inr ⟨by omega, rfl, m + 1, rfl, by omega⟩⟩
      obtain ⟨pb, eb, q1, q2, q3⟩ := pick
      exact ⟨_, rfl, l, _, _, _, rfl, rfl, SqL.of el, atI_nat q1, pb, eb, rfl, X8, q2, q3⟩
    rintro σ' H8 ⟨pb, eb, rfl, X8, hpb, hdis⟩
    have ekd : ((kd : Nat) : Int) / 2 = ((kd / 2 : Nat) : Int) := by omega
    have hu0 := hg.name hym
    -- other
    refine ⟨fun σ' H' => ∃ (po : Addr) (eo : Ev Str), σ' = [some (.ref x), some (.ref p), some (.ref b), some (.ref sl), some (.ref el), some (.int (pl : Nat)), some (.ref nl), some (.str z), some (.str u), some (.int (m : Nat)), some (.int (ov : Nat)), some (.int (kd : Nat)), some (.ref pb), some (.ref po), none, none, none, none, none] ∧
      Rx R1 H' x ∧ EvAt H' pb eb ∧ EvAt H' po eo ∧ NameOk eo.1, ?_, ?_⟩
    · refine ⟨_, rfl, (by show 2 ≤ sizeLine; decide), fun t1 k1 => ⟨_, rfl, (by show 2 ≤ sizeLine; decide), fun t2 k2 => ⟨(by show 2 ≤ sizeLine; decide), fun l kl => ?_⟩⟩⟩
      have v1 : EvAt (upd H8 t1 (.tup [.str u, .int 100])) t1 (u, some 100) := upd_same
      have s1 := Same.upd (o := .tup [.str u, .int 100]) k1
      generalize upd H8 t1 (.tup [.str u, .int 100]) = G1 at v1 s1 k2 kl ⊢
      have v2 : EvAt (upd G1 t2 (.tup [.str z, .int 0])) t2 (z, some 0) := upd_same
      have s2 := Same.upd (o := .tup [.str z, .int 0]) k2
      generalize upd G1 t2 (.tup [.str z, .int 0]) = G2 at v2 s2 kl ⊢
      have s3 := Same.upd (o := .lst [.ref t1, .ref t2]) kl
      have el' : (upd G2 l (.lst [.ref t1, .ref t2])) l = some (.lst [.ref t1, .ref t2]) := upd_same
      generalize upd G2 l (.lst [.ref t1, .ref t2]) = G3 at s3 el' ⊢
      have pick : ∃ (po : Addr) (eo : Ev Str), ([V.ref t1, .ref t2] : List V)[kd / 2]? = some (.ref po) ∧ EvAt G3 po eo ∧ NameOk eo.1 := by
        have h : kd / 2 < 2 := by omega
        match kd / 2, h with
        | 0, _ => exact ⟨t1, _, rfl, s3 _ _ (s2 _ _ v1), hu0⟩
        | 1, _ => exact ⟨t2, _, rfl, s3 _ _ v2, hz⟩
      obtain ⟨po, eo, q1, q2, q3⟩ := pick
      refine ⟨_, rfl, _, _, rfl, rfl, ⟨by decide, by decide⟩, l, _, _, .ref po, rfl, rfl, SqL.of el', ?_, po, eo, rfl, ((X8.same' s1).same' s2).same' s3, s3 _ _ (s2 _ _ (s1 _ _ hpb)), q2, q3⟩
      rw [ekd]
      exact atI_nat q1
    rintro σ' H9 ⟨po, eo, rfl, X9, hpb9, hpo9, hno⟩
    have herr : ∃ xe : Err Str, evT (wayOf t) ys stp eb (0 + pl) = .error xe ∧ DueOk xe ∧ ((kd / 2 = 0 ∧ xe = .unknown z) ∨ (kd / 2 = 1 ∧ xe = .event pl)) := by
      rcases hdis with ⟨h1, h2⟩ | ⟨h1, h2, dd, h3, h4⟩
      · refine ⟨.unknown z, ?_, hz, .inl ⟨by omega, rfl⟩⟩
        unfold evT
        rw [h2, if_neg hzn]
      · refine ⟨.event pl, ?_, trivial, .inr ⟨by omega, rfl⟩⟩
        unfold evT
        rw [h2, if_pos hym, h3]
        dsimp only
        rw [if_pos (by rw [hm]; exact h4), Nat.zero_add]
    obtain ⟨xe, hxe, hdue, hxk⟩ := herr
    have hebn : NameOk eb.1 := by
      rcases hdis with ⟨_, h2⟩ | ⟨_, h2, _⟩
      · rw [h2]; exact hz
      · rw [h2]; exact hu0
    -- due
    refine ⟨fun σ' H' => ∃ (pd : Addr), σ' = [some (.ref x), some (.ref p), some (.ref b), some (.ref sl), some (.ref el), some (.int (pl : Nat)), some (.ref nl), some (.str z), some (.str u), some (.int (m : Nat)), some (.int (ov : Nat)), some (.int (kd : Nat)), some (.ref pb), some (.ref po), some (.ref pd), none, none, none, none] ∧
      Rx R1 H' x ∧ EvAt H' pb eb ∧ EvAt H' po eo ∧ H' pd = some (.tup (dueV xe)), ?_, ?_⟩
    · refine ⟨_, rfl, (by show 2 ≤ sizeLine; decide), fun t1 k1 => ⟨_, rfl, (by show 2 ≤ sizeLine; decide), fun t2 k2 => ⟨(by show 2 ≤ sizeLine; decide), fun l kl => ?_⟩⟩⟩
      have v1 : (upd H9 t1 (.tup [.str "writer", .str z])) t1 = some (.tup [.str "writer", .str z]) := upd_same
      have s1 := Same.upd (o := .tup [.str "writer", .str z]) k1
      generalize upd H9 t1 (.tup [.str "writer", .str z]) = G1 at v1 s1 k2 kl ⊢
      have v2 : (upd G1 t2 (.tup [.str "event", .int (pl : Nat)])) t2 = some (.tup [.str "event", .int (pl : Nat)]) := upd_same
      have s2 := Same.upd (o := .tup [.str "event", .int (pl : Nat)]) k2
      generalize upd G1 t2 (.tup [.str "event", .int (pl : Nat)]) = G2 at v2 s2 kl ⊢
      have s3 := Same.upd (o := .lst [.ref t1, .ref t2]) kl
      have el' : (upd G2 l (.lst [.ref t1, .ref t2])) l = some (.lst [.ref t1, .ref t2]) := upd_same
      generalize upd G2 l (.lst [.ref t1, .ref t2]) = G3 at s3 el' ⊢
      have pick : ∃ (pd : Addr), ([V.ref t1, .ref t2] : List V)[kd / 2]? = some (.ref pd) ∧ G3 pd = some (.tup (dueV xe)) := by
        rcases hxk with ⟨h1, h2⟩ | ⟨h1, h2⟩
        · rw [h1, h2]; exact ⟨t1, rfl, s3 _ _ (s2 _ _ v1)⟩
        · rw [h1, h2]; exact ⟨t2, rfl, s3 _ _ v2⟩
      obtain ⟨pd, q1, q2⟩ := pick
      refine ⟨_, rfl, _, _, rfl, rfl, ⟨by decide, by decide⟩, l, _, _, .ref pd, rfl, rfl, SqL.of el', ?_, pd, rfl, ((X9.same' s1).same' s2).same' s3, s3 _ _ (s2 _ _ (s1 _ _ hpb9)), s3 _ _ (s2 _ _ (s1 _ _ hpo9)), q2⟩
      rw [ekd]
      exact atI_nat q1
    rintro σ' H10 ⟨pd, rfl, X10, hpb10, hpo10, hpd10⟩
    -- bent
    refine ⟨fun σ' H' => ∃ (bl : Addr), σ' = [some (.ref x), some (.ref p), some (.ref b), some (.ref sl), some (.ref el), some (.int (pl : Nat)), some (.ref nl), some (.str z), some (.str u), some (.int (m : Nat)), some (.int (ov : Nat)), some (.int (kd : Nat)), some (.ref pb), some (.ref po), some (.ref pd), some (.ref bl), none, none, none] ∧
      Rx R1 H' x ∧ H' pd = some (.tup (dueV xe)) ∧ bl ≠ x ∧ EvsAt H' bl (((evs.take pl ++ [eb]) ++ evs.drop pl) ++ [eo]), ?_, ?_⟩
    · have h10 := fun {q : Addr} {o : HO} (h : R q = some o) => X10.same _ _ (RR1 _ _ h)
      have he1' := h10 he1
      refine ⟨_, rfl, _, rfl, _, rfl, el, _, rfl, SqL.of he1', fun l1 k1 => ⟨_, rfl, (by show 1 ≤ sizeLine; decide), fun l2 k2 => ?_⟩⟩
      rw [cutV_take]
      have v1 : (upd H10 l1 (.lst ((es.map V.ref).take pl))) l1 = some (.lst ((es.map V.ref).take pl)) := upd_same
      have s1 := Same.upd (o := .lst ((es.map V.ref).take pl)) k1
      have k2 : (upd H10 l1 (.lst ((es.map V.ref).take pl))) l2 = none := by rw [cutV_take] at k2; exact k2
      generalize upd H10 l1 (.lst ((es.map V.ref).take pl)) = G1 at v1 s1 k2 ⊢
      have v2 : (upd G1 l2 (.lst [.ref pb])) l2 = some (.lst [.ref pb]) := upd_same
      have s2 := Same.upd (o := .lst [.ref pb]) k2
      generalize upd G1 l2 (.lst [.ref pb]) = G2 at v2 s2 ⊢
      have tl : ((es.map V.ref).take pl).length ≤ 40 := by rw [List.length_take, List.length_map]; omega
      refine ⟨l1, l2, _, _, rfl, rfl, s2 _ _ v1, v2, sz' (show ((es.map V.ref).take pl).length + 1 ≤ 41 by omega), fun l3 k3 => ?_⟩
      have v3 : (upd G2 l3 (.lst ((es.map V.ref).take pl ++ [.ref pb]))) l3 = some (.lst ((es.map V.ref).take pl ++ [.ref pb])) := upd_same
      have s3 := Same.upd (o := .lst ((es.map V.ref).take pl ++ [.ref pb])) k3
      generalize upd G2 l3 (.lst ((es.map V.ref).take pl ++ [.ref pb])) = G3 at v3 s3 ⊢
      refine ⟨_, rfl, _, rfl, _, rfl, el, _, rfl, SqL.of (s3 _ _ (s2 _ _ (s1 _ _ he1'))), fun l4 k4 => ?_⟩
      have v4 : (upd G3 l4 (.lst (cutV (es.map V.ref) (some (pl : Int)) none))) l4 = some (.lst ((es.map V.ref).drop pl)) := by rw [upd_same, cutV_from]
      have s4 := Same.upd (o := .lst (cutV (es.map V.ref) (some (pl : Int)) none)) k4
      generalize upd G3 l4 (.lst (cutV (es.map V.ref) (some (pl : Int)) none)) = G4 at v4 s4 ⊢
      have dl : ((es.map V.ref).drop pl).length ≤ 40 := by rw [List.length_drop, List.length_map]; omega
      refine ⟨l3, l4, _, _, rfl, rfl, s4 _ _ v3, v4, sz' (show ((es.map V.ref).take pl ++ [V.ref pb]).length + ((es.map V.ref).drop pl).length ≤ 81 by rw [List.length_append]; show _ + 1 + _ ≤ _; omega), fun l5 k5 => ?_⟩
      have v5 : (upd G4 l5 (.lst (((es.map V.ref).take pl ++ [.ref pb]) ++ (es.map V.ref).drop pl))) l5 = some (.lst (((es.map V.ref).take pl ++ [.ref pb]) ++ (es.map V.ref).drop pl)) := upd_same
      have s5 := Same.upd (o := .lst (((es.map V.ref).take pl ++ [.ref pb]) ++ (es.map V.ref).drop pl)) k5
      generalize upd G4 l5 (.lst (((es.map V.ref).take pl ++ [.ref pb]) ++ (es.map V.ref).drop pl)) = G5 at v5 s5 ⊢
      refine ⟨_, rfl, (by show 1 ≤ sizeLine; decide), fun l6 k6 => ?_⟩
      have v6 : (upd G5 l6 (.lst [.ref po])) l6 = some (.lst [.ref po]) := upd_same
      have s6 := Same.upd (o := .lst [.ref po]) k6
      generalize upd G5 l6 (.lst [.ref po]) = G6 at v6 s6 ⊢
      refine ⟨l5, l6, _, _, rfl, rfl, s6 _ _ v5, v6, sz' (show (((es.map V.ref).take pl ++ [V.ref pb]) ++ (es.map V.ref).drop pl).length + 1 ≤ 82 by rw [List.length_append, List.length_append]; show _ + 1 + _ + 1 ≤ _; omega), fun l7 k7 => ?_⟩
      have s7 := Same.upd (o := .lst ((((es.map V.ref).take pl ++ [.ref pb]) ++ (es.map V.ref).drop pl) ++ [.ref po])) k7
      have sA : Same H10 (upd G6 l7 (.lst ((((es.map V.ref).take pl ++ [.ref pb]) ++ (es.map V.ref).drop pl) ++ [.ref po]))) := (((((s1.trans s2).trans s3).trans s4).trans s5).trans s6).trans s7
      have X11 := X10.same' sA
      have XG6 := X10.same' (((((s1.trans s2).trans s3).trans s4).trans s5).trans s6)
      obtain ⟨a11, b11, c11, hx11⟩ := XG6.box
      refine ⟨l7, rfl, X11, sA _ _ hpd10, fun e => (by rw [e, hx11] at k7; cases k7), ((es.take pl ++ [pb]) ++ es.drop pl) ++ [po], ?_, ?_⟩
      · rw [upd_same]
        simp
      · have heA := paired_imp (fun (q : Addr) (e : Ev Str) (h : EvAt R q e) => sA _ _ (h10 h)) he2
        refine paired_snoc ?_ (sA _ _ hpo10)
        have p1 : Paired (EvAt (upd G6 l7 (.lst ((((es.map V.ref).take pl ++ [.ref pb]) ++ (es.map V.ref).drop pl) ++ [.ref po])))) (es.take pl ++ [pb]) (evs.take pl ++ [eb]) := paired_snoc (paired_take pl heA) (sA _ _ hpb10)
        exact paired_app p1 (paired_drop pl heA)
    rintro σ' H11 ⟨bl, rfl, X11, hpd11, blx, hbl11⟩
    -- wrong
    obtain ⟨q0, s0', hq0, hs0, ht0⟩ := paired_at (i := 0) hqs (by omega)
    rw [h0] at hs0
    cases hs0
    have at0 : atI (qs.map V.ref) 0 = some (.ref q0) := atI_nat (j := 0) (by rw [List.getElem?_map, hq0]; rfl)
    have hcl := hg.cells_le
    have lst0 := hst.len'
    refine ⟨_, rfl, _, rfl, sl, _, 0, _, rfl, rfl, SqL.of (X11.same _ _ hsl1), at0, x, q0, st, rfl, X11.box, X11.same _ _ (RR1 _ _ ht0), by omega, fun H12 qw bx12 hbad => ?_⟩
    have X12 := X11.bx r1x bx12
    obtain ⟨a11, b11, c11, hx11⟩ := id X11.box
    have hpd12 : H12 pd = some (.tup (dueV xe)) := bx12.at hpd11 (ne_of hpd11 hx11 (fun q => by cases q))
    obtain ⟨bes, hb1, hb2⟩ := hbl11
    have hb1' := bx12.at hb1 blx
    have hb2' := paired_imp (fun (q : Addr) (e : Ev Str) (h : EvAt H11 q e) => (bx12.at h (ne_of h hx11 (fun q => by cases q)) : EvAt H12 q e)) hb2
    rw [lst0] at hbad
    have S12 : Same R H12 := RR1.trans X12.same
    have enm : ∀ e ∈ ((evs.take pl ++ [eb]) ++ evs.drop pl) ++ [eo], NameOk e.1 := by
      intro e he
      rcases List.mem_append.mp he with he | he
      · rcases List.mem_append.mp he with he | he
        · rcases List.mem_append.mp he with he | he
          · exact hnm e (List.mem_of_mem_take he)
          · have : e = eb := by simpa using he
            rw [this]; exact hebn
        · exact hnm e (List.mem_of_mem_drop he)
      · have : e = eo := by simpa using he
        rw [this]; exact hno
    have elen : (((evs.take pl ++ [eb]) ++ evs.drop pl) ++ [eo]).length ≤ 63 := by
      simp only [List.length_append, List.length_take, List.length_drop, List.length_cons, List.length_nil]
      omega
    have hbadrun := (ch.take pl hpl).bad 0 (st := st) (en := stp) (bad := eb) (x := xe) (evs.drop pl ++ [eo]) (by rw [List.getElem?_take_of_lt (by omega)]; exact h0)
      (by rw [List.length_take, Nat.min_eq_left hpl, List.getElem?_take_of_lt (by omega)]; exact hsp) (by rw [List.length_take, Nat.min_eq_left hpl]; exact hxe)
    have eapp : evs.take pl ++ eb :: (evs.drop pl ++ [eo]) = ((evs.take pl ++ [eb]) ++ evs.drop pl) ++ [eo] := by simp
    rw [eapp] at hbadrun
    generalize ((evs.take pl ++ [eb]) ++ evs.drop pl) ++ [eo] = bevs at enm elen hbadrun hb2'
    obtain ⟨hbr, hbl⟩ := hbadrun
    have bshape := shaped_evs enm
    have brefl := refl_evs enm
    have drefl : PyData.eqv (dueD xe) (dueD xe) = true := SeqAt.eqv_refl _ (can_due hdue)
    have dshape := shaped_due hdue
    have srefl : PyData.eqv stateD stateD = true := SeqAt.eqv_refl _ can_state
    -- the loop
    refine ⟨(by show 2 ≤ sizeLine; decide), fun tq htq => ?_⟩
    have s13 := Same.upd (o := .tup [.bl false, .bl true]) htq
    have e13 : (upd H12 tq (.tup [.bl false, .bl true])) tq = some (.tup [.bl false, .bl true]) := upd_same
    generalize upd H12 tq (.tup [.bl false, .bl true]) = H13 at s13 e13 ⊢
    refine ⟨tq, rfl, ⟨_, SqT.of e13⟩, for_it (walk_tup (xs := [.bl false, .bl true])) (fun i σ H' => ∃ y17 y18, σ = [some (.ref x), some (.ref p), some (.ref b), some (.ref sl), some (.ref el), some (.int (pl : Nat)), some (.ref nl), some (.str z), some (.str u), some (.int (m : Nat)), some (.int (ov : Nat)), some (.int (kd : Nat)), some (.ref pb), some (.ref po), some (.ref pd), some (.ref bl), some (.ref qw), y17, y18] ∧ Same H13 H') ?_ ?_ ?_ ?_⟩
    · exact ⟨none, none, rfl, .refl _⟩
    · rintro i σ H' _ ⟨y17, y18, rfl, s'⟩
      exact SqT.of (s' _ _ e13)
    · rintro i y σ H14 H14' hi ⟨y17, y18, rfl, s14⟩ ⟨rfl, hy⟩
      obtain ⟨wv, rfl⟩ : ∃ wv : Bool, y = .bl wv := by
        match i, hi with
        | 0, _ => exact ⟨false, (Option.some.inj hy).symm⟩
        | 1, _ => exact ⟨true, (Option.some.inj hy).symm⟩
      have sg := s13.trans s14
      refine ⟨_, rfl, bl, _, rfl, .inl (SqL.of (sg _ _ hb1')), fun g hg0 => ?_⟩
      have sH := sg.upd' (o := .lst (bes.map V.ref)) hg0
      have eg : upd H14' g (.lst (bes.map V.ref)) g = some (.lst (bes.map V.ref)) := upd_same
      have sg1 := s14.upd' (o := .lst (bes.map V.ref)) hg0
      generalize upd H14' g (.lst (bes.map V.ref)) = H15 at sH eg sg1 ⊢
      have evg : ∀ {H' : Hp}, Same H15 H' → Dp K H' (.ref g) (.list (bevs.map evD)) ∧ Dp K H' (.ref bl) (.list (bevs.map evD)) := fun {H'} s' => by
        have hp' := paired_imp (fun (q : Addr) (e : Ev Str) (h : EvAt H12 q e) => (s' _ _ (sH _ _ h) : EvAt H' q e)) hb2'
        exact ⟨.lst (SqL.of (s' _ _ eg)) (dp_evs hp'), .lst (SqL.of (s' _ _ (sH _ _ hb1'))) (dp_evs hp')⟩
      -- asked 1
      refine ⟨_, rfl, _, rfl, sl, _, 0, _, rfl, rfl, SqL.of (sH _ _ (S12 _ _ hsl)), at0, _, rfl, _, rfl, p, q0, g, wv, bevs, t, ys, rfl, (hp.same S12).same sH, .inr ⟨st, sH _ _ (S12 _ _ ht0), hst, ⟨bes, eg, paired_imp (fun _ _ h => sH _ _ h) hb2'⟩, enm, elen, ?_⟩⟩
      have after1 : ∀ (Q2 : VK), (∀ H' r, Same H15 H' → H' r = some (.tup (dueV xe)) → Q2 (.ref r) H') → (wv = true ∧ AnsP H15 Q2 (lastM (wayOf t) ys none st bevs 0) fun acc => ∀ H' r, Same H15 H' → H' r = some (.tup [.str "found", lastV acc]) → Q2 (.ref r) H') ∨
          (wv = false ∧ AnsP H15 Q2 (runM (wayOf t) ys st bevs 0) fun en => ∀ H' r q', Same H15 H' → TupAt H' q' en → StOk t ys en → H' r = some (.tup [.str "found", .ref q']) → Q2 (.ref r) H') := by
        intro Q2 k2
        cases wv with
        | true => exact .inl ⟨rfl, by rw [hbl none]; exact ansErr_of k2⟩
        | false => exact .inr ⟨rfl, by rw [hbr]; exact ansErr_of k2⟩
      refine after1 _ fun H16 r1 s16 hr1 => ?_
      have sH16 := sH.trans s16
      refine ⟨_, rfl, _, _, dp_due hr1, dp_due (sH16 _ _ hpd12), dshape, dshape, _, rfl, if_f (by rw [drefl]; rfl) ?_⟩
      obtain ⟨dg1, db1⟩ := evg s16
      refine ⟨_, rfl, _, rfl, _, _, dg1, db1, bshape, bshape, _, rfl, if_f (by rw [brefl]; rfl) ?_⟩
      -- asked 2
      refine ⟨_, rfl, _, rfl, _, rfl, _, rfl, p, qw, g, wv, [], t, ys, rfl, (hp.same S12).same sH16, .inl ⟨hbad.same sH16, fun H17 r2 s17 hr2 => ?_⟩⟩
      refine ⟨(by show 2 ≤ sizeLine; decide), fun tt htt => ?_⟩
      have s18 := s17.upd' (o := .tup [.str "state", .int 0]) htt
      have ett : upd H17 tt (.tup [.str "state", .int 0]) tt = some (.tup [.str "state", .int 0]) := upd_same
      have hr2' := (Same.upd (o := .tup [.str "state", .int 0]) htt) _ _ hr2
      generalize upd H17 tt (.tup [.str "state", .int 0]) = H18 at s18 ett hr2' ⊢
      refine ⟨_, _, dp_state hr2', dp_state ett, shaped_state, shaped_state, _, rfl, if_f (by rw [srefl]; rfl) ?_⟩
      obtain ⟨dg2, db2⟩ := evg (s16.trans s18)
      refine ⟨_, rfl, _, rfl, _, _, dg2, db2, bshape, bshape, _, rfl, if_f (by rw [brefl]; rfl) ?_⟩
      -- asked 3
      have sH18 := sH16.trans s18
      refine ⟨_, rfl, _, rfl, _, rfl, _, rfl, _, rfl, el, _, rfl, SqL.of (sH18 _ _ (S12 _ _ he1)), fun l3 hl3 => ?_⟩
      have s19 := s18.upd' (o := .lst (cutV (es.map V.ref) none (some (pl : Int)))) hl3
      generalize upd H18 l3 (.lst (cutV (es.map V.ref) none (some (pl : Int)))) = H19 at s19 ⊢
      have sH19 := sH16.trans s19
      refine ⟨_, rfl, p, qw, l3, wv, [], t, ys, rfl, (hp.same S12).same sH19, .inl ⟨hbad.same sH19, fun H20 r3 s20 hr3 => ?_⟩⟩
      refine ⟨(by show 2 ≤ sizeLine; decide), fun tt2 htt2 => ?_⟩
      have s21 := s20.upd' (o := .tup [.str "state", .int 0]) htt2
      have ett2 : upd H20 tt2 (.tup [.str "state", .int 0]) tt2 = some (.tup [.str "state", .int 0]) := upd_same
      have hr3' := (Same.upd (o := .tup [.str "state", .int 0]) htt2) _ _ hr3
      generalize upd H20 tt2 (.tup [.str "state", .int 0]) = H21 at s21 ett2 hr3' ⊢
      exact ⟨_, _, dp_state hr3', dp_state ett2, shaped_state, shaped_state, _, rfl, if_f (by rw [srefl]; rfl) ⟨_, _, rfl, ((sg1.trans s16).trans s19).trans s21⟩⟩
    · rintro σ H14 ⟨y17, y18, rfl, s14⟩
      exact k H14 ((S12.trans s13).trans s14)
end
end FK
set_option Elab.async false
set_option linter.all false
set_option maxRecDepth 100000
set_option maxHeartbeats 4000000
set_option pp.maxSteps 400
namespace FK
open PySem PySem.Spec PyProof.Rows L2
theorem same_box {R H H' : Hp} {x : Addr} (h0 : R x = none) (s : Same R H) (s' : Same (ItX.dropH H x) H') : Same R H' := fun b o e => s' _ _ (drop_at (s _ _ e) (ne_of_none e h0))
theorem pmake {X : L2.Cx} {CX : CXT} {k : Nat} {C : Addr} {sp : Sp} {E : XK} {x : Str} {p pos : Pos} {e : Expr} {es : List Expr} {t : TA} (F : FnI X.prog X.w X.K X.mg X.base CX k C [] sp) (hmk : PySem.W.makesIn X.K C = true) (hfn : ∀ f, PySem.W.findIn X.K (.ref C) "__init__" = some (some (.ref f)) → PySem.W.isFn X.K (.ref f) = true) (hkp : PySem.W.keepIn X.K (.ref C) = true)
    (hr : Room (k + 1) X.A) (hm : X.mg x = some (.ref C)) (hx : Passes CX X E) (ha : PA X (e :: es) t) (hg : Gl X x := by rfl)
    (hdb : (x == ("__debug__" : Str)) = false := by decide) (he : starEach (e :: es) X.env = (false, eval e X.env) :: starEach es X.env := by rfl) (hpl : (backTo pos (starEach es X.env)).any (·.1) = false := by rfl) :
    PE X (.Call (.Name x p) (e :: es) [] pos) (tMake C sp [] E t) := by
  obtain ⟨f, fd, ps, h1, h2, h3, h4, h5⟩ := F
  exact pe_make ⟨hmk, h1, hfn f h1, hkp⟩ h4 hr hg hm h5 .nil hx ha hdb he hpl
section
variable {P : Program} {w : World} {K : PySem.W.Frag} {mg : Str → Option Value} {base : Heap} {c : Cs}
def spLaw (K : PySem.W.Frag) : Sp := fun vs H Q _ => ∃ (a : Addr) (ns : List Int), vs = [.ref a] ∧ SqL K H a (ns.map V.int) ∧ ns.length ≤ 63 ∧ ∀ H', Q (.bl true) H'
abbrev sLaw : Stmt := topS 59
abbrev nLaw : List Str := ["_law_script", "_law_box_here", "_law_tree_here", "_law_book_here", "_law_state_here", "_law_most", "_law_many_here", "_law_events_here", "_law_wholes", "_law_states", "_law_plan", "_law_cut"]
theorem scLaw : FnScope nLaw ["_law_script"] (defScope sLaw) := ⟨rfl, rfl, rfl, by decide +kernel, rfl, by decide +kernel, by decide +kernel⟩
theorem ok_law (T : Txt K mg) (R0 : ErrTxt P K mg c) (L : PlanTxt P K mg c) (A0 : AskTxt K mg c) (I0 : InitTxt P K mg c) (hfn : ∀ f, PySem.W.findIn K (.ref c.fork) "__init__" = some (some (.ref f)) → PySem.W.isFn K (.ref f) = true) {f : Addr} {fd : FuncData} (FL : L2.Fun K "law" "law" (topS 59) f fd) : FnOk P w K mg base CX0 17 f fd ["_law_script"] (spLaw K) := by
  have G : FnB P w K mg base CX0 2 "_law_take" spTake := ok_take T
  have GX : FnB P w K mg base CX0 1 "_law_box" (spBox K) := ok_box T
  have GM : FnB P w K mg base CX0 3 "_law_many" spMany := ok_many T
  have GN : FnB P w K mg base CX0 4 "_law_names" spNames := ok_names T
  have GT : FnB P w K mg base CX0 3 "_law_tree" spTree := ok_tree T
  have GB : FnB P w K mg base CX0 13 "_law_book" spBook := ok_book T
  have GS : FnB P w K mg base CX0 3 "_law_state" spState := ok_state T
  have GE : FnB P w K mg base CX0 4 "_law_events" spEvents := ok_events T
  have GI : FnI P w K mg base CX0 15 c.fork [] (spInit c) := ok_init T L I0
  have GR : FnB P w K mg base CX0 10 "_law_right" (spRight c) := ok_right T R0 L A0
  have GF : FnB P w K mg base CX0 10 "_law_refused" (spRefused c) := ok_refused T R0 L A0
  refine FL.ok scLaw (fun vs H Q E h => ?_) (fun cdv A outer s H vs Q E hr h => ?_)
  · obtain ⟨a, ns, rfl, _⟩ := h
    rfl
  · obtain ⟨a, ns, rfl, ha, hn, k⟩ := h
    refine ⟨_, pss_cons (ps_set (i := 1) scLaw.nd rfl (.inl rfl) (pcall GX (hr.mono (by decide)) pass0 (pa_cons (pv 0) (pa_cons pe_int pa_nil))))
      (pss_cons (ps_set (i := 2) scLaw.nd rfl (.inl rfl) (pcall GT (hr.mono (by decide)) pass0 (pa_cons (pv 1) (pa_cons (pcall GN (hr.mono (by decide)) pass0 (pa_cons (pv 1) (pa_cons (pcall GM (hr.mono (by decide)) pass0 (pa_cons (pv 1) pa_nil)) pa_nil))) pa_nil))))
      (pss_cons (ps_set (i := 3) scLaw.nd rfl (.inl rfl) (pcall GB (hr.mono (by decide)) pass0 (pa_cons (pv 2) pa_nil)))
      (pss_cons (ps_set (i := 4) scLaw.nd rfl (.inl rfl) (pcall GS (hr.mono (by decide)) pass0 (pa_cons (pcall GX (hr.mono (by decide)) pass0 (pa_cons (pv 0) (pa_cons pe_int pa_nil))) (pa_cons (pe_ix ix_tup (pv 3) pe_int (fun _ _ => rfl)) pa_nil))))
      (pss_cons (ps_set (i := 1) scLaw.nd rfl (.inl rfl) (pcall GX (hr.mono (by decide)) pass0 (pa_cons (pv 0) (pa_cons pe_int pa_nil))))
      (pss_cons (ps_set (i := 5) scLaw.nd rfl (.inl rfl) pe_int)
      (pss_cons (ps_cut (ps_if (pt_cmpR op_eq (pcall G (hr.mono (by decide)) pass0 (pa_cons (pv 1) (pa_cons pe_int pa_nil))) pe_int (nomark _)) (pss_one (ps_set (i := 5) scLaw.nd rfl (.inl rfl) pe_int)) pss_nil))
      (pss_cons (ps_set (i := 6) scLaw.nd rfl (.inl rfl) (pcall G (hr.mono (by decide)) pass0 (pa_cons (pv 1) (pa_cons (pe_op op_add (pv 5) pe_int) pa_nil))))
      (pss_cons (ps_asg (pcall GE (hr.mono (by decide)) pass0 (pa_cons (pv 1) (pa_cons (pv 3) (pa_cons (pv 4) (pa_cons (pv 6) pa_nil))))) (pg_tup (by rfl) (pgs_cons (pg_name (i := 7) scLaw.nd rfl (.inl rfl)) (pgs_cons (pg_name (i := 8) scLaw.nd rfl (.inl rfl)) (pgs_cons (pg_name (i := 9) scLaw.nd rfl (.inl rfl)) pgs_nil)))))
      (pss_cons (ps_set (i := 10) scLaw.nd rfl (.inl rfl) (pmake GI I0.makes hfn I0.kpC hr L.g pass0 (pa_cons (pv 2) pa_nil)))
      (pss_cons (ps_set (i := 1) scLaw.nd rfl (.inl rfl) (pcall GX (hr.mono (by decide)) pass0 (pa_cons (pv 0) (pa_cons pe_int pa_nil))))
      (pss_cons (ps_set (i := 11) scLaw.nd rfl (.inl rfl) (pcall G (hr.mono (by decide)) pass0 (pa_cons (pv 1) (pa_cons (pe_op op_add (pv 6) pe_int) pa_nil))))
      (pss_cons (ps_if (pt_not (pt_val (pcall GR (hr.mono (by decide)) pass0 (pa_cons (pv 10) (pa_cons (pv 3) (pa_cons (pv 9) (pa_cons (pv 7) (pa_cons (pv 8) pa_nil)))))))) (pss_one (ps_ret pe_bl)) pss_nil)
      (pss_cons (ps_if (pt_not (pt_val (pcall GR (hr.mono (by decide)) pass0 (pa_cons (pv 10) (pa_cons (pv 3) (pa_cons (pe_slice sl_list (pv 9) po_none (po_some (pe_op op_add (pv 11) pe_int))) (pa_cons (pe_slice sl_list (pv 7) po_none (po_some (pv 11))) (pa_cons (pe_slice sl_list (pv 8) po_none (po_some (pv 11))) pa_nil)))))))) (pss_one (ps_ret pe_bl)) pss_nil)
      (pss_cons (ps_if (pt_not (pt_val (pcall GR (hr.mono (by decide)) pass0 (pa_cons (pv 10) (pa_cons (pv 3) (pa_cons (pe_slice sl_list (pv 9) (po_some (pv 11)) po_none) (pa_cons (pe_slice sl_list (pv 7) (po_some (pv 11)) po_none) (pa_cons (pe_slice sl_list (pv 8) (po_some (pv 11)) po_none) pa_nil)))))))) (pss_one (ps_ret pe_bl)) pss_nil)
      (pss_cons (ps_if (pt_not (pt_val (pcall GF (hr.mono (by decide)) pass0 (pa_cons (pv 1) (pa_cons (pv 10) (pa_cons (pv 3) (pa_cons (pv 9) (pa_cons (pv 7) pa_nil)))))))) (pss_one (ps_ret pe_bl)) pss_nil)
      (pss_one (ps_ret (pcall GR (hr.mono (by decide)) pass0 (pa_cons (pv 10) (pa_cons (pv 3) (pa_cons (pv 9) (pa_cons (pv 7) (pa_cons (pv 8) pa_nil))))))))))))))))))))))), ?_⟩
    -- the first box, the tree
    refine ⟨_, rfl, a, 0, ns, rfl, ha, hn, fun H1 x0 a0 b0 c0 s1 hx0n hx0 => ?_⟩
    refine ⟨_, rfl, _, rfl, _, rfl, x0, a0, b0, c0, rfl, hx0, fun a1 b1 c1 n0 h1 h12 => ?_⟩
    have S2 : Same H (upd H1 x0 (BX a1 b1 c1)) := s1.at hx0n
    have hb2 : BoxAt (upd H1 x0 (BX a1 b1 c1)) x0 := ⟨_, _, _, upd_same⟩
    generalize upd H1 x0 (BX a1 b1 c1) = H2 at S2 hb2 ⊢
    refine ⟨x0, n0, rfl, hb2, h12, fun H3 nl nms r3 hb3 hnl enl hlen hnd hno => ?_⟩
    have S3 := same_box hx0n S2 r3
    refine ⟨x0, nl, nms, rfl, hb3, enl, by omega, by omega, hnd, hno, fun H4 v t r4 hb4 htr hok => ?_⟩
    have S4 := same_box hx0n S3 r4
    -- the book
    refine ⟨_, rfl, v, t, rfl, htr, hok, fun H5 bk names s5 hbkn hbk => ?_⟩
    have S5 := S4.trans s5
    have hg := hbk.good
    obtain ⟨wd, bd, fd, ld, kvb, k1, k2, k3, k4, k5, k6⟩ := id hbk.ex
    -- the state
    refine ⟨_, rfl, a, 1, ns, rfl, S5.seq ha, hn, fun H6 x1 a1 b1 c1 s6 hx1n hx1 => ?_⟩
    have hcl := hg.cells_le
    refine ⟨_, rfl, bk, _, 4, _, rfl, rfl, SqT.of (s6 _ _ k1), atI_nat (j := 4) rfl, x1, (cf (wayOf t) names).length, rfl, ⟨_, _, _, hx1⟩, by rw [cf_length]; omega, fun H7 q st r7 hb7 hq7 htq hmk hsl => ?_⟩
    have S57 : Same H5 H7 := same_box hx1n s6 r7
    have hst : StOk t names st := ⟨hmk, hsl⟩
    have S7 := S5.trans S57
    -- the second box
    refine ⟨_, rfl, a, 2, ns, rfl, S7.seq ha, hn, fun H8 x2 a2 b2 c2 s8 hx2n hx2 => ?_⟩
    refine ⟨fun σ' H' => ∃ m : Nat, σ' = [some (.ref a), some (.ref x2), some v, some (.ref bk), some (.ref q), some (.int (m : Nat)), none, none, none, none, none, none] ∧ (∃ a b c, H' = upd H8 x2 (BX a b c)) ∧ m ≤ 40, ?_, ?_⟩
    · refine ⟨_, rfl, x2, 8, a2, b2, c2, rfl, hx2, by decide, by decide, fun a b c d hd => ⟨rfl, _, rfl, ?_⟩⟩
      by_cases h0 : (d : Int) = 0
      · exact if_t (decide_eq_true (by rw [h0])) ⟨40, rfl, ⟨a, b, c, rfl⟩, by omega⟩
      · exact if_f (decide_eq_false fun z => h0 (by injection z)) ⟨20, rfl, ⟨a, b, c, rfl⟩, by omega⟩
    rintro σ' H' ⟨m, rfl, ⟨a2, b2, c2, rfl⟩, hm⟩
    refine ⟨_, rfl, _, rfl, _, _, rfl, rfl, x2, _, a2, b2, c2, rfl, upd_same, ?_, ?_, fun a2 b2 c2 n hn2 => ?_⟩
    · show (0 : Int) < (m : Nat) + 1; omega
    · show ((m : Nat) : Int) + 1 < 1000000; omega
    have hn2 : (n : Int) < (m : Nat) + 1 := hn2
    rw [upd_upd]
    have S8 : Same H7 (upd H8 x2 (BX a2 b2 c2)) := s8.at hx2n
    have hb8 : BoxAt (upd H8 x2 (BX a2 b2 c2)) x2 := ⟨_, _, _, upd_same⟩
    generalize upd H8 x2 (BX a2 b2 c2) = H8' at S8 hb8 ⊢
    -- the events
    refine ⟨_, rfl, _, rfl, _, rfl, _, rfl, x2, bk, q, n, H7, st, t, names, rfl, hx2n, S8, hb8, hbk.same S57, htq, hst, by omega, fun H9 R9 p el wl sl evs whs sts qs sR hR0 s9 hb9 ep hev hwl hsl9 hqs ch hln h0 hmem => ?_⟩
    refine ⟨p, _, rfl, SqT.of (s9 _ _ ep), rfl, _, _, rfl, _, _, rfl, _, _, rfl, rfl, ?_⟩
    have S79 : Same H7 H9 := sR.trans s9
    -- the plan
    refine ⟨_, rfl, fun pa dx hpa hdx hne => ?_⟩
    have sm : Same H9 (upd (upd H9 dx (.own pa)) pa (.ins c.fork dx [])) := (Same.upd hdx).upd' ((upd_ne hne.symm).trans hpa)
    have htr9 : TreeAt H9 v t := TreeAt.same ((s5.trans S57).trans S79) htr
    refine ⟨pa, dx, v, t, rfl, upd_same, TreeAt.same sm htr9, hok, fun H10 names2 hplan keep => ⟨rfl, ?_⟩⟩
    have S10 : Same H9 H10 := fun b o e => keep b o (sm _ _ e) (ne_of_none e hpa)
    have en : names2 = names := sorted_same hplan.good.nm.perm hg.nm.perm hplan.good.nm.srt hg.nm.srt
    subst en
    have SR : Same R9 H10 := s9.trans S10
    have hbk10 : BookAt H10 bk t names2 := hbk.same ((S57.trans S79).trans S10)
    have hsl10 := SR _ _ hsl9
    have hqs10 := paired_imp (fun (x : Addr) (y : List Int) (h : TupAt R9 x y) => (SR _ _ h : TupAt H10 x y)) hqs
    have hev10 := hev.same SR
    have hwl10 := SR _ _ hwl
    have S0 : Same H H10 := (S7.trans S79).trans S10
    -- the third box
    refine ⟨_, rfl, a, 3, ns, rfl, S0.seq ha, hn, fun H11 x3 a3 b3 c3 s11 hx3n hx3 => ?_⟩
    refine ⟨_, rfl, _, rfl, _, _, rfl, rfl, x3, _, a3, b3, c3, rfl, hx3, ?_, ?_, fun a3 b3 c3 ct hct => ?_⟩
    · show (0 : Int) < (n : Nat) + 1; omega
    · show ((n : Nat) : Int) + 1 < 1000000; omega
    have hct : ct ≤ evs.length := by
      have hct : (ct : Int) < (n : Nat) + 1 := hct
      omega
    have S12 : Same H10 (upd H11 x3 (BX a3 b3 c3)) := s11.at hx3n
    have hb12 : BoxAt (upd H11 x3 (BX a3 b3 c3)) x3 := ⟨_, _, _, upd_same⟩
    generalize upd H11 x3 (BX a3 b3 c3) = H12 at S12 hb12 ⊢
    have hel : evs.length ≤ 60 := by omega
    have hplan12 := hplan.same S12
    have hbk12 := hbk10.same S12
    have hsl12 := S12 _ _ hsl10
    have hqs12 := paired_imp (fun (x : Addr) (y : List Int) (h : TupAt H10 x y) => (S12 _ _ h : TupAt H12 x y)) hqs10
    have hev12 := hev10.same S12
    have hwl12 := S12 _ _ hwl10
    obtain ⟨es, he1, he2⟩ := id hev12
    -- all of it
    refine ⟨_, rfl, _, rfl, _, rfl, _, rfl, _, rfl, pa, bk, sl, el, wl, t, names2, qs, sts, evs, whs, st, rfl, hplan12, hbk12, hsl12, hqs12, hev12, hwl12, ch, h0, hst, hmem, hel, fun H13 s13 => ⟨_, rfl, if_f rfl ?_⟩⟩
    -- its part ahead of the cut
    refine ⟨_, rfl, _, rfl, _, rfl, _, rfl, _, _, rfl, rfl, _, rfl, sl, _, rfl, SqL.of (s13 _ _ hsl12), fun l1 j1 => ?_⟩
    have ec : ((ct : Nat) : Int) + 1 = ((ct + 1 : Nat) : Int) := by omega
    have v1 : (upd H13 l1 (.lst (cutV (qs.map V.ref) none (some (((ct : Nat) : Int) + 1))))) l1 = some (.lst ((qs.take (ct + 1)).map V.ref)) := by rw [upd_same, ec, cutV_take, List.map_take]
    have w1 := s13.upd' (o := .lst (cutV (qs.map V.ref) none (some (((ct : Nat) : Int) + 1)))) j1
    generalize upd H13 l1 (.lst (cutV (qs.map V.ref) none (some (((ct : Nat) : Int) + 1)))) = G1 at v1 w1 ⊢
    refine ⟨_, rfl, _, rfl, _, rfl, el, _, rfl, SqL.of (w1 _ _ he1), fun l2 j2 => ?_⟩
    have v2 : (upd G1 l2 (.lst (cutV (es.map V.ref) none (some ((ct : Nat) : Int))))) l2 = some (.lst ((es.take ct).map V.ref)) := by rw [upd_same, cutV_take, List.map_take]
    have v1' := (Same.upd (o := .lst (cutV (es.map V.ref) none (some ((ct : Nat) : Int)))) j2) _ _ v1
    have w2 := w1.upd' (o := .lst (cutV (es.map V.ref) none (some ((ct : Nat) : Int)))) j2
    generalize upd G1 l2 (.lst (cutV (es.map V.ref) none (some ((ct : Nat) : Int)))) = G2 at v2 v1' w2 ⊢
    refine ⟨_, rfl, _, rfl, _, rfl, wl, _, rfl, SqL.of (w2 _ _ hwl12), fun l3 j3 => ?_⟩
    have v3 : (upd G2 l3 (.lst (cutV (whs.map lastV) none (some ((ct : Nat) : Int))))) l3 = some (.lst ((whs.take ct).map lastV)) := by rw [upd_same, cutV_take, List.map_take]
    have sj3 := Same.upd (o := .lst (cutV (whs.map lastV) none (some ((ct : Nat) : Int)))) j3
    have v2' := sj3 _ _ v2
    have v1'' := sj3 _ _ v1'
    have w3 := w2.upd' (o := .lst (cutV (whs.map lastV) none (some ((ct : Nat) : Int)))) j3
    generalize upd G2 l3 (.lst (cutV (whs.map lastV) none (some ((ct : Nat) : Int)))) = G3 at v3 v2' v1'' w3 ⊢
    have lst := ch.len.2
    refine ⟨pa, bk, l1, l2, l3, t, names2, qs.take (ct + 1), sts.take (ct + 1), evs.take ct, whs.take ct, st, rfl, hplan12.same w3, hbk12.same w3, v1'', paired_take _ (paired_imp (fun x y h => w3 _ _ h) hqs12), ⟨es.take ct, v2', paired_take _ (paired_imp (fun x y h => w3 _ _ h) he2)⟩, v3, ch.take ct hct,
      by rw [List.getElem?_take_of_lt (by omega)]; exact h0, hst, fun e he => hmem e (List.mem_of_mem_take he), by rw [List.length_take]; omega, fun H14 s14 => ⟨_, rfl, if_f rfl ?_⟩⟩
    have S14 := w3.trans s14
    -- the rest
    obtain ⟨sc, hsc⟩ : ∃ sc, sts[ct]? = some sc := ⟨_, List.getElem?_eq_getElem (by omega)⟩
    have hstc : StOk t names2 sc := Chain.okAt hg ch h0 hst hct hsc
    refine ⟨_, rfl, _, rfl, _, rfl, _, rfl, _, rfl, sl, _, rfl, SqL.of (S14 _ _ hsl12), fun m1 j1 => ?_⟩
    have u1 : (upd H14 m1 (.lst (cutV (qs.map V.ref) (some ((ct : Nat) : Int)) none))) m1 = some (.lst ((qs.drop ct).map V.ref)) := by rw [upd_same, cutV_from, List.map_drop]
    have y1 := S14.upd' (o := .lst (cutV (qs.map V.ref) (some ((ct : Nat) : Int)) none)) j1
    generalize upd H14 m1 (.lst (cutV (qs.map V.ref) (some ((ct : Nat) : Int)) none)) = G4 at u1 y1 ⊢
    refine ⟨_, rfl, _, rfl, _, rfl, el, _, rfl, SqL.of (y1 _ _ he1), fun m2 j2 => ?_⟩
    have u2 : (upd G4 m2 (.lst (cutV (es.map V.ref) (some ((ct : Nat) : Int)) none))) m2 = some (.lst ((es.drop ct).map V.ref)) := by rw [upd_same, cutV_from, List.map_drop]
    have u1' := (Same.upd (o := .lst (cutV (es.map V.ref) (some ((ct : Nat) : Int)) none)) j2) _ _ u1
    have y2 := y1.upd' (o := .lst (cutV (es.map V.ref) (some ((ct : Nat) : Int)) none)) j2
    generalize upd G4 m2 (.lst (cutV (es.map V.ref) (some ((ct : Nat) : Int)) none)) = G5 at u2 u1' y2 ⊢
    refine ⟨_, rfl, _, rfl, _, rfl, wl, _, rfl, SqL.of (y2 _ _ hwl12), fun m3 j3 => ?_⟩
    have u3 : (upd G5 m3 (.lst (cutV (whs.map lastV) (some ((ct : Nat) : Int)) none))) m3 = some (.lst ((whs.drop ct).map lastV)) := by rw [upd_same, cutV_from, List.map_drop]
    have sj4 := Same.upd (o := .lst (cutV (whs.map lastV) (some ((ct : Nat) : Int)) none)) j3
    have u2' := sj4 _ _ u2
    have u1'' := sj4 _ _ u1'
    have y3 := y2.upd' (o := .lst (cutV (whs.map lastV) (some ((ct : Nat) : Int)) none)) j3
    generalize upd G5 m3 (.lst (cutV (whs.map lastV) (some ((ct : Nat) : Int)) none)) = G6 at u3 u2' u1'' y3 ⊢
    refine ⟨pa, bk, m1, m2, m3, t, names2, qs.drop ct, sts.drop ct, evs.drop ct, whs.drop ct, sc, rfl, hplan12.same y3, hbk12.same y3, u1'', paired_drop _ (paired_imp (fun x y h => y3 _ _ h) hqs12), ⟨es.drop ct, u2', paired_drop _ (paired_imp (fun x y h => y3 _ _ h) he2)⟩, u3, ch.drop ct hct,
      by rw [List.getElem?_drop]; exact hsc, hstc, fun e he => hmem e (List.mem_of_mem_drop he), by rw [List.length_drop]; omega, fun H15 s15 => ⟨_, rfl, if_f rfl ?_⟩⟩
    have S15 := y3.trans s15
    -- refused
    have hb15 : BoxAt H15 x3 := by
      obtain ⟨a, b, c, e⟩ := hb12
      exact ⟨a, b, c, S15 _ _ e⟩
    refine ⟨_, rfl, _, rfl, _, rfl, _, rfl, _, rfl, x3, pa, bk, sl, el, H10, t, names2, qs, sts, evs, whs, st, rfl, hx3n, S12.trans S15, hb15, hplan, hbk10, hsl10, hqs10, hev10, ch, h0, hst, hmem, by omega, fun H16 s16 => ⟨_, rfl, if_f rfl ?_⟩⟩
    exact ⟨_, rfl, _, rfl, _, rfl, _, rfl, _, rfl, pa, bk, sl, el, wl, t, names2, qs, sts, evs, whs, st, rfl, hplan.same s16, hbk10.same s16, s16 _ _ hsl10, paired_imp (fun x y h => s16 _ _ h) hqs10, hev10.same s16, s16 _ _ hwl10, ch, h0, hst, hmem, hel, fun H17 _ => k H17⟩
end
end FK
section
set_option Elab.async false
set_option maxRecDepth 100000
set_option maxHeartbeats 0
open PySem PySem.W PyProof.Rows
open_top fkhead for PySem.Challenge.rw_forkflags_k25_whole_runs_with_cuts
end
set_option Elab.async false
set_option linter.all false
set_option maxRecDepth 100000
set_option maxHeartbeats 0
set_option pp.maxSteps 400
/-! What stands of the top, fact by fact; the whole. -/
namespace FK
open PySem PySem.W PyProof.Rows

theorem k0 (p : Params) : PySem.Challenge.rw_forkflags_k25_whole_runs_with_cuts = PySem.Challenge.rw_forkflags_k25_whole_runs_with_cuts → ∃ C : Addr, nsIn (fkhead.heap_39 p) mainGlobals "law" = some (some (.ref C)) := by
  k_fill
  intro _
  exact ⟨_, by k_is⟩
abbrev cs : Cs := { plan := 330, fork := 446, err := 38, eState := 125, eWriter := 82, eEvent := 167, eTurns := 146 }
theorem kt_dShown (p : Params) : ∃ (f : Addr) (oc : Value) (od an : Option Addr) (osl : Array (Option Value)) (kV doc pm cdv ct : Value), nsIn (fkhead.heap_39 p) mainGlobals "_shown" = some (some (.ref f)) ∧ (fkhead.heap_39 p).lookup f = some ⟨oc, od, .func (PySem.W.fnOf "_shown" "_shown" (L2.defArgs (topS 2)) (L2.defBody (topS 2)) (L2.defScope (topS 2)) .none kV doc pm an cdv ct), osl⟩ ∧ codeIn (fkhead.heap_39 p) cdv "_shown" = true ∧ keepIn (fkhead.heap_39 p) (.ref f) = true :=
  ⟨_, _, _, _, _, _, _, _, _, _, by k_is, by k_is, by k_is, by k_is⟩
theorem kt_dEventTurns (p : Params) : ∃ (f : Addr) (oc : Value) (od an : Option Addr) (osl : Array (Option Value)) (kV doc pm cdv ct : Value), nsIn (fkhead.heap_39 p) mainGlobals "event_turns" = some (some (.ref f)) ∧ (fkhead.heap_39 p).lookup f = some ⟨oc, od, .func (PySem.W.fnOf "event_turns" "event_turns" (L2.defArgs (topS 11)) (L2.defBody (topS 11)) (L2.defScope (topS 11)) .none kV doc pm an cdv ct), osl⟩ ∧ codeIn (fkhead.heap_39 p) cdv "event_turns" = true ∧ keepIn (fkhead.heap_39 p) (.ref f) = true :=
  ⟨_, _, _, _, _, _, _, _, _, _, by k_is, by k_is, by k_is, by k_is⟩
theorem kt_dRun (p : Params) : ∃ (f : Addr) (oc : Value) (od an : Option Addr) (osl : Array (Option Value)) (kV doc pm cdv ct : Value), nsIn (fkhead.heap_39 p) mainGlobals "run" = some (some (.ref f)) ∧ (fkhead.heap_39 p).lookup f = some ⟨oc, od, .func (PySem.W.fnOf "run" "run" (L2.defArgs (topS 12)) (L2.defBody (topS 12)) (L2.defScope (topS 12)) .none kV doc pm an cdv ct), osl⟩ ∧ codeIn (fkhead.heap_39 p) cdv "run" = true ∧ keepIn (fkhead.heap_39 p) (.ref f) = true :=
  ⟨_, _, _, _, _, _, _, _, _, _, by k_is, by k_is, by k_is, by k_is⟩
theorem kt_dLast (p : Params) : ∃ (f : Addr) (oc : Value) (od an : Option Addr) (osl : Array (Option Value)) (kV doc pm cdv ct : Value), nsIn (fkhead.heap_39 p) mainGlobals "last_whole" = some (some (.ref f)) ∧ (fkhead.heap_39 p).lookup f = some ⟨oc, od, .func (PySem.W.fnOf "last_whole" "last_whole" (L2.defArgs (topS 13)) (L2.defBody (topS 13)) (L2.defScope (topS 13)) .none kV doc pm an cdv ct), osl⟩ ∧ codeIn (fkhead.heap_39 p) cdv "last_whole" = true ∧ keepIn (fkhead.heap_39 p) (.ref f) = true :=
  ⟨_, _, _, _, _, _, _, _, _, _, by k_is, by k_is, by k_is, by k_is⟩
theorem kt_dIsName (p : Params) : ∃ (f : Addr) (oc : Value) (od an : Option Addr) (osl : Array (Option Value)) (kV doc pm cdv ct : Value), nsIn (fkhead.heap_39 p) mainGlobals "is_name" = some (some (.ref f)) ∧ (fkhead.heap_39 p).lookup f = some ⟨oc, od, .func (PySem.W.fnOf "is_name" "is_name" (L2.defArgs (topS 17)) (L2.defBody (topS 17)) (L2.defScope (topS 17)) .none kV doc pm an cdv ct), osl⟩ ∧ codeIn (fkhead.heap_39 p) cdv "is_name" = true ∧ keepIn (fkhead.heap_39 p) (.ref f) = true :=
  ⟨_, _, _, _, _, _, _, _, _, _, by k_is, by k_is, by k_is, by k_is⟩
theorem kt_dIsTree (p : Params) : ∃ (f : Addr) (oc : Value) (od an : Option Addr) (osl : Array (Option Value)) (kV doc pm cdv ct : Value), nsIn (fkhead.heap_39 p) mainGlobals "is_tree" = some (some (.ref f)) ∧ (fkhead.heap_39 p).lookup f = some ⟨oc, od, .func (PySem.W.fnOf "is_tree" "is_tree" (L2.defArgs (topS 20)) (L2.defBody (topS 20)) (L2.defScope (topS 20)) .none kV doc pm an cdv ct), osl⟩ ∧ codeIn (fkhead.heap_39 p) cdv "is_tree" = true ∧ keepIn (fkhead.heap_39 p) (.ref f) = true :=
  ⟨_, _, _, _, _, _, _, _, _, _, by k_is, by k_is, by k_is, by k_is⟩
theorem kt_dCheckTree (p : Params) : ∃ (f : Addr) (oc : Value) (od an : Option Addr) (osl : Array (Option Value)) (kV doc pm cdv ct : Value), nsIn (fkhead.heap_39 p) mainGlobals "check_tree" = some (some (.ref f)) ∧ (fkhead.heap_39 p).lookup f = some ⟨oc, od, .func (PySem.W.fnOf "check_tree" "check_tree" (L2.defArgs (topS 21)) (L2.defBody (topS 21)) (L2.defScope (topS 21)) .none kV doc pm an cdv ct), osl⟩ ∧ codeIn (fkhead.heap_39 p) cdv "check_tree" = true ∧ keepIn (fkhead.heap_39 p) (.ref f) = true :=
  ⟨_, _, _, _, _, _, _, _, _, _, by k_is, by k_is, by k_is, by k_is⟩
theorem kt_dSubs (p : Params) : ∃ (f : Addr) (oc : Value) (od an : Option Addr) (osl : Array (Option Value)) (kV doc pm cdv ct : Value), nsIn (fkhead.heap_39 p) mainGlobals "subtrees_of" = some (some (.ref f)) ∧ (fkhead.heap_39 p).lookup f = some ⟨oc, od, .func (PySem.W.fnOf "subtrees_of" "subtrees_of" (L2.defArgs (topS 22)) (L2.defBody (topS 22)) (L2.defScope (topS 22)) .none kV doc pm an cdv ct), osl⟩ ∧ codeIn (fkhead.heap_39 p) cdv "subtrees_of" = true ∧ keepIn (fkhead.heap_39 p) (.ref f) = true :=
  ⟨_, _, _, _, _, _, _, _, _, _, by k_is, by k_is, by k_is, by k_is⟩
theorem kt_dWays (p : Params) : ∃ (f : Addr) (oc : Value) (od an : Option Addr) (osl : Array (Option Value)) (kV doc pm cdv ct : Value), nsIn (fkhead.heap_39 p) mainGlobals "ways_of" = some (some (.ref f)) ∧ (fkhead.heap_39 p).lookup f = some ⟨oc, od, .func (PySem.W.fnOf "ways_of" "ways_of" (L2.defArgs (topS 23)) (L2.defBody (topS 23)) (L2.defScope (topS 23)) .none kV doc pm an cdv ct), osl⟩ ∧ codeIn (fkhead.heap_39 p) cdv "ways_of" = true ∧ keepIn (fkhead.heap_39 p) (.ref f) = true :=
  ⟨_, _, _, _, _, _, _, _, _, _, by k_is, by k_is, by k_is, by k_is⟩
theorem kt_dForks (p : Params) : ∃ (f : Addr) (oc : Value) (od an : Option Addr) (osl : Array (Option Value)) (kV doc pm cdv ct : Value), nsIn (fkhead.heap_39 p) mainGlobals "forks_of" = some (some (.ref f)) ∧ (fkhead.heap_39 p).lookup f = some ⟨oc, od, .func (PySem.W.fnOf "forks_of" "forks_of" (L2.defArgs (topS 24)) (L2.defBody (topS 24)) (L2.defScope (topS 24)) .none kV doc pm an cdv ct), osl⟩ ∧ codeIn (fkhead.heap_39 p) cdv "forks_of" = true ∧ keepIn (fkhead.heap_39 p) (.ref f) = true :=
  ⟨_, _, _, _, _, _, _, _, _, _, by k_is, by k_is, by k_is, by k_is⟩
theorem kt_dFormat (p : Params) : ∃ (f : Addr) (oc : Value) (od an : Option Addr) (osl : Array (Option Value)) (kV doc pm cdv ct : Value), nsIn (fkhead.heap_39 p) mainGlobals "format_tree" = some (some (.ref f)) ∧ (fkhead.heap_39 p).lookup f = some ⟨oc, od, .func (PySem.W.fnOf "format_tree" "format_tree" (L2.defArgs (topS 26)) (L2.defBody (topS 26)) (L2.defScope (topS 26)) .none kV doc pm an cdv ct), osl⟩ ∧ codeIn (fkhead.heap_39 p) cdv "format_tree" = true ∧ keepIn (fkhead.heap_39 p) (.ref f) = true :=
  ⟨_, _, _, _, _, _, _, _, _, _, by k_is, by k_is, by k_is, by k_is⟩
theorem kt_dSpelled (p : Params) : ∃ (f : Addr) (oc : Value) (od an : Option Addr) (osl : Array (Option Value)) (kV doc pm cdv ct : Value), nsIn (fkhead.heap_39 p) mainGlobals "_spelled" = some (some (.ref f)) ∧ (fkhead.heap_39 p).lookup f = some ⟨oc, od, .func (PySem.W.fnOf "_spelled" "_spelled" (L2.defArgs (topS 27)) (L2.defBody (topS 27)) (L2.defScope (topS 27)) .none kV doc pm an cdv ct), osl⟩ ∧ codeIn (fkhead.heap_39 p) cdv "_spelled" = true ∧ keepIn (fkhead.heap_39 p) (.ref f) = true :=
  ⟨_, _, _, _, _, _, _, _, _, _, by k_is, by k_is, by k_is, by k_is⟩
theorem kt_dIsBelow (p : Params) : ∃ (f : Addr) (oc : Value) (od an : Option Addr) (osl : Array (Option Value)) (kV doc pm cdv ct : Value), nsIn (fkhead.heap_39 p) mainGlobals "is_below" = some (some (.ref f)) ∧ (fkhead.heap_39 p).lookup f = some ⟨oc, od, .func (PySem.W.fnOf "is_below" "is_below" (L2.defArgs (topS 29)) (L2.defBody (topS 29)) (L2.defScope (topS 29)) .none kV doc pm an cdv ct), osl⟩ ∧ codeIn (fkhead.heap_39 p) cdv "is_below" = true ∧ keepIn (fkhead.heap_39 p) (.ref f) = true :=
  ⟨_, _, _, _, _, _, _, _, _, _, by k_is, by k_is, by k_is, by k_is⟩
theorem kt_dFlags (p : Params) : ∃ (f : Addr) (oc : Value) (od an : Option Addr) (osl : Array (Option Value)) (kV doc pm cdv ct : Value), nsIn (fkhead.heap_39 p) mainGlobals "flags_by_fork" = some (some (.ref f)) ∧ (fkhead.heap_39 p).lookup f = some ⟨oc, od, .func (PySem.W.fnOf "flags_by_fork" "flags_by_fork" (L2.defArgs (topS 32)) (L2.defBody (topS 32)) (L2.defScope (topS 32)) .none kV doc pm an cdv ct), osl⟩ ∧ codeIn (fkhead.heap_39 p) cdv "flags_by_fork" = true ∧ keepIn (fkhead.heap_39 p) (.ref f) = true :=
  ⟨_, _, _, _, _, _, _, _, _, _, by k_is, by k_is, by k_is, by k_is⟩
theorem kt_lInt (p : Params) : ∃ (f : Addr) (oc : Value) (od an : Option Addr) (osl : Array (Option Value)) (kV doc pm cdv ct : Value), nsIn (fkhead.heap_39 p) mainGlobals "_law_is_integer" = some (some (.ref f)) ∧ (fkhead.heap_39 p).lookup f = some ⟨oc, od, .func (PySem.W.fnOf "_law_is_integer" "_law_is_integer" (L2.defArgs (topS 35)) (L2.defBody (topS 35)) (L2.defScope (topS 35)) .none kV doc pm an cdv ct), osl⟩ ∧ codeIn (fkhead.heap_39 p) cdv "_law_is_integer" = true ∧ keepIn (fkhead.heap_39 p) (.ref f) = true :=
  ⟨_, _, _, _, _, _, _, _, _, _, by k_is, by k_is, by k_is, by k_is⟩
theorem kt_lMixed (p : Params) : ∃ (f : Addr) (oc : Value) (od an : Option Addr) (osl : Array (Option Value)) (kV doc pm cdv ct : Value), nsIn (fkhead.heap_39 p) mainGlobals "_law_mixed" = some (some (.ref f)) ∧ (fkhead.heap_39 p).lookup f = some ⟨oc, od, .func (PySem.W.fnOf "_law_mixed" "_law_mixed" (L2.defArgs (topS 36)) (L2.defBody (topS 36)) (L2.defScope (topS 36)) .none kV doc pm an cdv ct), osl⟩ ∧ codeIn (fkhead.heap_39 p) cdv "_law_mixed" = true ∧ keepIn (fkhead.heap_39 p) (.ref f) = true :=
  ⟨_, _, _, _, _, _, _, _, _, _, by k_is, by k_is, by k_is, by k_is⟩
theorem kt_lBox (p : Params) : ∃ (f : Addr) (oc : Value) (od an : Option Addr) (osl : Array (Option Value)) (kV doc pm cdv ct : Value), nsIn (fkhead.heap_39 p) mainGlobals "_law_box" = some (some (.ref f)) ∧ (fkhead.heap_39 p).lookup f = some ⟨oc, od, .func (PySem.W.fnOf "_law_box" "_law_box" (L2.defArgs (topS 37)) (L2.defBody (topS 37)) (L2.defScope (topS 37)) .none kV doc pm an cdv ct), osl⟩ ∧ codeIn (fkhead.heap_39 p) cdv "_law_box" = true ∧ keepIn (fkhead.heap_39 p) (.ref f) = true :=
  ⟨_, _, _, _, _, _, _, _, _, _, by k_is, by k_is, by k_is, by k_is⟩
theorem kt_lTake (p : Params) : ∃ (f : Addr) (oc : Value) (od an : Option Addr) (osl : Array (Option Value)) (kV doc pm cdv ct : Value), nsIn (fkhead.heap_39 p) mainGlobals "_law_take" = some (some (.ref f)) ∧ (fkhead.heap_39 p).lookup f = some ⟨oc, od, .func (PySem.W.fnOf "_law_take" "_law_take" (L2.defArgs (topS 38)) (L2.defBody (topS 38)) (L2.defScope (topS 38)) .none kV doc pm an cdv ct), osl⟩ ∧ codeIn (fkhead.heap_39 p) cdv "_law_take" = true ∧ keepIn (fkhead.heap_39 p) (.ref f) = true :=
  ⟨_, _, _, _, _, _, _, _, _, _, by k_is, by k_is, by k_is, by k_is⟩
theorem kt_lWord (p : Params) : ∃ (f : Addr) (oc : Value) (od an : Option Addr) (osl : Array (Option Value)) (kV doc pm cdv ct : Value), nsIn (fkhead.heap_39 p) mainGlobals "_law_word" = some (some (.ref f)) ∧ (fkhead.heap_39 p).lookup f = some ⟨oc, od, .func (PySem.W.fnOf "_law_word" "_law_word" (L2.defArgs (topS 39)) (L2.defBody (topS 39)) (L2.defScope (topS 39)) .none kV doc pm an cdv ct), osl⟩ ∧ codeIn (fkhead.heap_39 p) cdv "_law_word" = true ∧ keepIn (fkhead.heap_39 p) (.ref f) = true :=
  ⟨_, _, _, _, _, _, _, _, _, _, by k_is, by k_is, by k_is, by k_is⟩
theorem kt_lNames (p : Params) : ∃ (f : Addr) (oc : Value) (od an : Option Addr) (osl : Array (Option Value)) (kV doc pm cdv ct : Value), nsIn (fkhead.heap_39 p) mainGlobals "_law_names" = some (some (.ref f)) ∧ (fkhead.heap_39 p).lookup f = some ⟨oc, od, .func (PySem.W.fnOf "_law_names" "_law_names" (L2.defArgs (topS 40)) (L2.defBody (topS 40)) (L2.defScope (topS 40)) .none kV doc pm an cdv ct), osl⟩ ∧ codeIn (fkhead.heap_39 p) cdv "_law_names" = true ∧ keepIn (fkhead.heap_39 p) (.ref f) = true :=
  ⟨_, _, _, _, _, _, _, _, _, _, by k_is, by k_is, by k_is, by k_is⟩
theorem kt_lTree (p : Params) : ∃ (f : Addr) (oc : Value) (od an : Option Addr) (osl : Array (Option Value)) (kV doc pm cdv ct : Value), nsIn (fkhead.heap_39 p) mainGlobals "_law_tree" = some (some (.ref f)) ∧ (fkhead.heap_39 p).lookup f = some ⟨oc, od, .func (PySem.W.fnOf "_law_tree" "_law_tree" (L2.defArgs (topS 41)) (L2.defBody (topS 41)) (L2.defScope (topS 41)) .none kV doc pm an cdv ct), osl⟩ ∧ codeIn (fkhead.heap_39 p) cdv "_law_tree" = true ∧ keepIn (fkhead.heap_39 p) (.ref f) = true :=
  ⟨_, _, _, _, _, _, _, _, _, _, by k_is, by k_is, by k_is, by k_is⟩
theorem kt_lMany (p : Params) : ∃ (f : Addr) (oc : Value) (od an : Option Addr) (osl : Array (Option Value)) (kV doc pm cdv ct : Value), nsIn (fkhead.heap_39 p) mainGlobals "_law_many" = some (some (.ref f)) ∧ (fkhead.heap_39 p).lookup f = some ⟨oc, od, .func (PySem.W.fnOf "_law_many" "_law_many" (L2.defArgs (topS 42)) (L2.defBody (topS 42)) (L2.defScope (topS 42)) .none kV doc pm an cdv ct), osl⟩ ∧ codeIn (fkhead.heap_39 p) cdv "_law_many" = true ∧ keepIn (fkhead.heap_39 p) (.ref f) = true :=
  ⟨_, _, _, _, _, _, _, _, _, _, by k_is, by k_is, by k_is, by k_is⟩
theorem kt_lWays (p : Params) : ∃ (f : Addr) (oc : Value) (od an : Option Addr) (osl : Array (Option Value)) (kV doc pm cdv ct : Value), nsIn (fkhead.heap_39 p) mainGlobals "_law_ways" = some (some (.ref f)) ∧ (fkhead.heap_39 p).lookup f = some ⟨oc, od, .func (PySem.W.fnOf "_law_ways" "_law_ways" (L2.defArgs (topS 43)) (L2.defBody (topS 43)) (L2.defScope (topS 43)) .none kV doc pm an cdv ct), osl⟩ ∧ codeIn (fkhead.heap_39 p) cdv "_law_ways" = true ∧ keepIn (fkhead.heap_39 p) (.ref f) = true :=
  ⟨_, _, _, _, _, _, _, _, _, _, by k_is, by k_is, by k_is, by k_is⟩
theorem kt_lBook (p : Params) : ∃ (f : Addr) (oc : Value) (od an : Option Addr) (osl : Array (Option Value)) (kV doc pm cdv ct : Value), nsIn (fkhead.heap_39 p) mainGlobals "_law_book" = some (some (.ref f)) ∧ (fkhead.heap_39 p).lookup f = some ⟨oc, od, .func (PySem.W.fnOf "_law_book" "_law_book" (L2.defArgs (topS 44)) (L2.defBody (topS 44)) (L2.defScope (topS 44)) .none kV doc pm an cdv ct), osl⟩ ∧ codeIn (fkhead.heap_39 p) cdv "_law_book" = true ∧ keepIn (fkhead.heap_39 p) (.ref f) = true :=
  ⟨_, _, _, _, _, _, _, _, _, _, by k_is, by k_is, by k_is, by k_is⟩
theorem kt_lSide (p : Params) : ∃ (f : Addr) (oc : Value) (od an : Option Addr) (osl : Array (Option Value)) (kV doc pm cdv ct : Value), nsIn (fkhead.heap_39 p) mainGlobals "_law_side" = some (some (.ref f)) ∧ (fkhead.heap_39 p).lookup f = some ⟨oc, od, .func (PySem.W.fnOf "_law_side" "_law_side" (L2.defArgs (topS 45)) (L2.defBody (topS 45)) (L2.defScope (topS 45)) .none kV doc pm an cdv ct), osl⟩ ∧ codeIn (fkhead.heap_39 p) cdv "_law_side" = true ∧ keepIn (fkhead.heap_39 p) (.ref f) = true :=
  ⟨_, _, _, _, _, _, _, _, _, _, by k_is, by k_is, by k_is, by k_is⟩
theorem kt_lTeller (p : Params) : ∃ (f : Addr) (oc : Value) (od an : Option Addr) (osl : Array (Option Value)) (kV doc pm cdv ct : Value), nsIn (fkhead.heap_39 p) mainGlobals "_law_teller" = some (some (.ref f)) ∧ (fkhead.heap_39 p).lookup f = some ⟨oc, od, .func (PySem.W.fnOf "_law_teller" "_law_teller" (L2.defArgs (topS 46)) (L2.defBody (topS 46)) (L2.defScope (topS 46)) .none kV doc pm an cdv ct), osl⟩ ∧ codeIn (fkhead.heap_39 p) cdv "_law_teller" = true ∧ keepIn (fkhead.heap_39 p) (.ref f) = true :=
  ⟨_, _, _, _, _, _, _, _, _, _, by k_is, by k_is, by k_is, by k_is⟩
theorem kt_lNeeds (p : Params) : ∃ (f : Addr) (oc : Value) (od an : Option Addr) (osl : Array (Option Value)) (kV doc pm cdv ct : Value), nsIn (fkhead.heap_39 p) mainGlobals "_law_needs" = some (some (.ref f)) ∧ (fkhead.heap_39 p).lookup f = some ⟨oc, od, .func (PySem.W.fnOf "_law_needs" "_law_needs" (L2.defArgs (topS 47)) (L2.defBody (topS 47)) (L2.defScope (topS 47)) .none kV doc pm an cdv ct), osl⟩ ∧ codeIn (fkhead.heap_39 p) cdv "_law_needs" = true ∧ keepIn (fkhead.heap_39 p) (.ref f) = true :=
  ⟨_, _, _, _, _, _, _, _, _, _, by k_is, by k_is, by k_is, by k_is⟩
theorem kt_lAfter (p : Params) : ∃ (f : Addr) (oc : Value) (od an : Option Addr) (osl : Array (Option Value)) (kV doc pm cdv ct : Value), nsIn (fkhead.heap_39 p) mainGlobals "_law_after" = some (some (.ref f)) ∧ (fkhead.heap_39 p).lookup f = some ⟨oc, od, .func (PySem.W.fnOf "_law_after" "_law_after" (L2.defArgs (topS 48)) (L2.defBody (topS 48)) (L2.defScope (topS 48)) .none kV doc pm an cdv ct), osl⟩ ∧ codeIn (fkhead.heap_39 p) cdv "_law_after" = true ∧ keepIn (fkhead.heap_39 p) (.ref f) = true :=
  ⟨_, _, _, _, _, _, _, _, _, _, by k_is, by k_is, by k_is, by k_is⟩
theorem kt_lState (p : Params) : ∃ (f : Addr) (oc : Value) (od an : Option Addr) (osl : Array (Option Value)) (kV doc pm cdv ct : Value), nsIn (fkhead.heap_39 p) mainGlobals "_law_state" = some (some (.ref f)) ∧ (fkhead.heap_39 p).lookup f = some ⟨oc, od, .func (PySem.W.fnOf "_law_state" "_law_state" (L2.defArgs (topS 49)) (L2.defBody (topS 49)) (L2.defScope (topS 49)) .none kV doc pm an cdv ct), osl⟩ ∧ codeIn (fkhead.heap_39 p) cdv "_law_state" = true ∧ keepIn (fkhead.heap_39 p) (.ref f) = true :=
  ⟨_, _, _, _, _, _, _, _, _, _, by k_is, by k_is, by k_is, by k_is⟩
theorem kt_lIsState (p : Params) : ∃ (f : Addr) (oc : Value) (od an : Option Addr) (osl : Array (Option Value)) (kV doc pm cdv ct : Value), nsIn (fkhead.heap_39 p) mainGlobals "_law_is_state" = some (some (.ref f)) ∧ (fkhead.heap_39 p).lookup f = some ⟨oc, od, .func (PySem.W.fnOf "_law_is_state" "_law_is_state" (L2.defArgs (topS 50)) (L2.defBody (topS 50)) (L2.defScope (topS 50)) .none kV doc pm an cdv ct), osl⟩ ∧ codeIn (fkhead.heap_39 p) cdv "_law_is_state" = true ∧ keepIn (fkhead.heap_39 p) (.ref f) = true :=
  ⟨_, _, _, _, _, _, _, _, _, _, by k_is, by k_is, by k_is, by k_is⟩
theorem kt_lBadState (p : Params) : ∃ (f : Addr) (oc : Value) (od an : Option Addr) (osl : Array (Option Value)) (kV doc pm cdv ct : Value), nsIn (fkhead.heap_39 p) mainGlobals "_law_bad_state" = some (some (.ref f)) ∧ (fkhead.heap_39 p).lookup f = some ⟨oc, od, .func (PySem.W.fnOf "_law_bad_state" "_law_bad_state" (L2.defArgs (topS 51)) (L2.defBody (topS 51)) (L2.defScope (topS 51)) .none kV doc pm an cdv ct), osl⟩ ∧ codeIn (fkhead.heap_39 p) cdv "_law_bad_state" = true ∧ keepIn (fkhead.heap_39 p) (.ref f) = true :=
  ⟨_, _, _, _, _, _, _, _, _, _, by k_is, by k_is, by k_is, by k_is⟩
theorem kt_lStranger (p : Params) : ∃ (f : Addr) (oc : Value) (od an : Option Addr) (osl : Array (Option Value)) (kV doc pm cdv ct : Value), nsIn (fkhead.heap_39 p) mainGlobals "_law_stranger" = some (some (.ref f)) ∧ (fkhead.heap_39 p).lookup f = some ⟨oc, od, .func (PySem.W.fnOf "_law_stranger" "_law_stranger" (L2.defArgs (topS 52)) (L2.defBody (topS 52)) (L2.defScope (topS 52)) .none kV doc pm an cdv ct), osl⟩ ∧ codeIn (fkhead.heap_39 p) cdv "_law_stranger" = true ∧ keepIn (fkhead.heap_39 p) (.ref f) = true :=
  ⟨_, _, _, _, _, _, _, _, _, _, by k_is, by k_is, by k_is, by k_is⟩
theorem kt_lDone (p : Params) : ∃ (f : Addr) (oc : Value) (od an : Option Addr) (osl : Array (Option Value)) (kV doc pm cdv ct : Value), nsIn (fkhead.heap_39 p) mainGlobals "_law_done" = some (some (.ref f)) ∧ (fkhead.heap_39 p).lookup f = some ⟨oc, od, .func (PySem.W.fnOf "_law_done" "_law_done" (L2.defArgs (topS 53)) (L2.defBody (topS 53)) (L2.defScope (topS 53)) .none kV doc pm an cdv ct), osl⟩ ∧ codeIn (fkhead.heap_39 p) cdv "_law_done" = true ∧ keepIn (fkhead.heap_39 p) (.ref f) = true :=
  ⟨_, _, _, _, _, _, _, _, _, _, by k_is, by k_is, by k_is, by k_is⟩
theorem kt_lEvents (p : Params) : ∃ (f : Addr) (oc : Value) (od an : Option Addr) (osl : Array (Option Value)) (kV doc pm cdv ct : Value), nsIn (fkhead.heap_39 p) mainGlobals "_law_events" = some (some (.ref f)) ∧ (fkhead.heap_39 p).lookup f = some ⟨oc, od, .func (PySem.W.fnOf "_law_events" "_law_events" (L2.defArgs (topS 54)) (L2.defBody (topS 54)) (L2.defScope (topS 54)) .none kV doc pm an cdv ct), osl⟩ ∧ codeIn (fkhead.heap_39 p) cdv "_law_events" = true ∧ keepIn (fkhead.heap_39 p) (.ref f) = true :=
  ⟨_, _, _, _, _, _, _, _, _, _, by k_is, by k_is, by k_is, by k_is⟩
theorem kt_lLast (p : Params) : ∃ (f : Addr) (oc : Value) (od an : Option Addr) (osl : Array (Option Value)) (kV doc pm cdv ct : Value), nsIn (fkhead.heap_39 p) mainGlobals "_law_last" = some (some (.ref f)) ∧ (fkhead.heap_39 p).lookup f = some ⟨oc, od, .func (PySem.W.fnOf "_law_last" "_law_last" (L2.defArgs (topS 55)) (L2.defBody (topS 55)) (L2.defScope (topS 55)) .none kV doc pm an cdv ct), osl⟩ ∧ codeIn (fkhead.heap_39 p) cdv "_law_last" = true ∧ keepIn (fkhead.heap_39 p) (.ref f) = true :=
  ⟨_, _, _, _, _, _, _, _, _, _, by k_is, by k_is, by k_is, by k_is⟩
theorem kt_lAsked (p : Params) : ∃ (f : Addr) (oc : Value) (od an : Option Addr) (osl : Array (Option Value)) (kV doc pm cdv ct : Value), nsIn (fkhead.heap_39 p) mainGlobals "_law_asked" = some (some (.ref f)) ∧ (fkhead.heap_39 p).lookup f = some ⟨oc, od, .func (PySem.W.fnOf "_law_asked" "_law_asked" (L2.defArgs (topS 56)) (L2.defBody (topS 56)) (L2.defScope (topS 56)) .none kV doc pm an cdv ct), osl⟩ ∧ codeIn (fkhead.heap_39 p) cdv "_law_asked" = true ∧ keepIn (fkhead.heap_39 p) (.ref f) = true :=
  ⟨_, _, _, _, _, _, _, _, _, _, by k_is, by k_is, by k_is, by k_is⟩
theorem kt_lRight (p : Params) : ∃ (f : Addr) (oc : Value) (od an : Option Addr) (osl : Array (Option Value)) (kV doc pm cdv ct : Value), nsIn (fkhead.heap_39 p) mainGlobals "_law_right" = some (some (.ref f)) ∧ (fkhead.heap_39 p).lookup f = some ⟨oc, od, .func (PySem.W.fnOf "_law_right" "_law_right" (L2.defArgs (topS 57)) (L2.defBody (topS 57)) (L2.defScope (topS 57)) .none kV doc pm an cdv ct), osl⟩ ∧ codeIn (fkhead.heap_39 p) cdv "_law_right" = true ∧ keepIn (fkhead.heap_39 p) (.ref f) = true :=
  ⟨_, _, _, _, _, _, _, _, _, _, by k_is, by k_is, by k_is, by k_is⟩
theorem kt_lRefused (p : Params) : ∃ (f : Addr) (oc : Value) (od an : Option Addr) (osl : Array (Option Value)) (kV doc pm cdv ct : Value), nsIn (fkhead.heap_39 p) mainGlobals "_law_refused" = some (some (.ref f)) ∧ (fkhead.heap_39 p).lookup f = some ⟨oc, od, .func (PySem.W.fnOf "_law_refused" "_law_refused" (L2.defArgs (topS 58)) (L2.defBody (topS 58)) (L2.defScope (topS 58)) .none kV doc pm an cdv ct), osl⟩ ∧ codeIn (fkhead.heap_39 p) cdv "_law_refused" = true ∧ keepIn (fkhead.heap_39 p) (.ref f) = true :=
  ⟨_, _, _, _, _, _, _, _, _, _, by k_is, by k_is, by k_is, by k_is⟩
theorem kt_law (p : Params) : ∃ (f : Addr) (oc : Value) (od an : Option Addr) (osl : Array (Option Value)) (kV doc pm cdv ct : Value), nsIn (fkhead.heap_39 p) mainGlobals "law" = some (some (.ref f)) ∧ (fkhead.heap_39 p).lookup f = some ⟨oc, od, .func (PySem.W.fnOf "law" "law" (L2.defArgs (topS 59)) (L2.defBody (topS 59)) (L2.defScope (topS 59)) .none kV doc pm an cdv ct), osl⟩ ∧ codeIn (fkhead.heap_39 p) cdv "law" = true ∧ keepIn (fkhead.heap_39 p) (.ref f) = true :=
  ⟨_, _, _, _, _, _, _, _, _, _, by k_is, by k_is, by k_is, by k_is⟩
theorem km_mCheckWriter (p : Params) : ∃ (f : Addr) (oc : Value) (od an : Option Addr) (osl : Array (Option Value)) (kV doc pm cdv ct : Value), findIn (fkhead.heap_39 p) (.ref 446) "check_writer" = some (some (.ref f)) ∧ (fkhead.heap_39 p).lookup f = some ⟨oc, od, .func (PySem.W.fnOf "check_writer" "Plan.check_writer" (L2.defArgs (L2.inClass (topS 30) 4)) (L2.defBody (L2.inClass (topS 30) 4)) (L2.defScope (L2.inClass (topS 30) 4)) .none kV doc pm an cdv ct), osl⟩ ∧ codeIn (fkhead.heap_39 p) cdv "Plan.check_writer" = true ∧ keepIn (fkhead.heap_39 p) (.ref f) = true ∧ isFn (fkhead.heap_39 p) (.ref f) = true :=
  ⟨_, _, _, _, _, _, _, _, _, _, by k_is, by k_is, by k_is, by k_is, by k_is⟩
theorem km_mCheckState (p : Params) : ∃ (f : Addr) (oc : Value) (od an : Option Addr) (osl : Array (Option Value)) (kV doc pm cdv ct : Value), findIn (fkhead.heap_39 p) (.ref 446) "check_state" = some (some (.ref f)) ∧ (fkhead.heap_39 p).lookup f = some ⟨oc, od, .func (PySem.W.fnOf "check_state" "Plan.check_state" (L2.defArgs (L2.inClass (topS 30) 5)) (L2.defBody (L2.inClass (topS 30) 5)) (L2.defScope (L2.inClass (topS 30) 5)) .none kV doc pm an cdv ct), osl⟩ ∧ codeIn (fkhead.heap_39 p) cdv "Plan.check_state" = true ∧ keepIn (fkhead.heap_39 p) (.ref f) = true ∧ isFn (fkhead.heap_39 p) (.ref f) = true :=
  ⟨_, _, _, _, _, _, _, _, _, _, by k_is, by k_is, by k_is, by k_is, by k_is⟩
theorem km_mCellsOf (p : Params) : ∃ (f : Addr) (oc : Value) (od an : Option Addr) (osl : Array (Option Value)) (kV doc pm cdv ct : Value), findIn (fkhead.heap_39 p) (.ref 446) "cells_of" = some (some (.ref f)) ∧ (fkhead.heap_39 p).lookup f = some ⟨oc, od, .func (PySem.W.fnOf "cells_of" "Plan.cells_of" (L2.defArgs (L2.inClass (topS 30) 7)) (L2.defBody (L2.inClass (topS 30) 7)) (L2.defScope (L2.inClass (topS 30) 7)) .none kV doc pm an cdv ct), osl⟩ ∧ codeIn (fkhead.heap_39 p) cdv "Plan.cells_of" = true ∧ keepIn (fkhead.heap_39 p) (.ref f) = true ∧ isFn (fkhead.heap_39 p) (.ref f) = true :=
  ⟨_, _, _, _, _, _, _, _, _, _, by k_is, by k_is, by k_is, by k_is, by k_is⟩
theorem km_mTurned (p : Params) : ∃ (f : Addr) (oc : Value) (od an : Option Addr) (osl : Array (Option Value)) (kV doc pm cdv ct : Value), findIn (fkhead.heap_39 p) (.ref 446) "turned" = some (some (.ref f)) ∧ (fkhead.heap_39 p).lookup f = some ⟨oc, od, .func (PySem.W.fnOf "turned" "Plan.turned" (L2.defArgs (L2.inClass (topS 30) 8)) (L2.defBody (L2.inClass (topS 30) 8)) (L2.defScope (L2.inClass (topS 30) 8)) .none kV doc pm an cdv ct), osl⟩ ∧ codeIn (fkhead.heap_39 p) cdv "Plan.turned" = true ∧ keepIn (fkhead.heap_39 p) (.ref f) = true ∧ isFn (fkhead.heap_39 p) (.ref f) = true :=
  ⟨_, _, _, _, _, _, _, _, _, _, by k_is, by k_is, by k_is, by k_is, by k_is⟩
theorem km_mParity (p : Params) : ∃ (f : Addr) (oc : Value) (od an : Option Addr) (osl : Array (Option Value)) (kV doc pm cdv ct : Value), findIn (fkhead.heap_39 p) (.ref 446) "_parity" = some (some (.ref f)) ∧ (fkhead.heap_39 p).lookup f = some ⟨oc, od, .func (PySem.W.fnOf "_parity" "ForkPlan._parity" (L2.defArgs (L2.inClass (topS 33) 4)) (L2.defBody (L2.inClass (topS 33) 4)) (L2.defScope (L2.inClass (topS 33) 4)) .none kV doc pm an cdv ct), osl⟩ ∧ codeIn (fkhead.heap_39 p) cdv "ForkPlan._parity" = true ∧ keepIn (fkhead.heap_39 p) (.ref f) = true ∧ isFn (fkhead.heap_39 p) (.ref f) = true :=
  ⟨_, _, _, _, _, _, _, _, _, _, by k_is, by k_is, by k_is, by k_is, by k_is⟩
theorem km_mLeafFrom (p : Params) : ∃ (f : Addr) (oc : Value) (od an : Option Addr) (osl : Array (Option Value)) (kV doc pm cdv ct : Value), findIn (fkhead.heap_39 p) (.ref 446) "_leaf_from" = some (some (.ref f)) ∧ (fkhead.heap_39 p).lookup f = some ⟨oc, od, .func (PySem.W.fnOf "_leaf_from" "ForkPlan._leaf_from" (L2.defArgs (L2.inClass (topS 33) 5)) (L2.defBody (L2.inClass (topS 33) 5)) (L2.defScope (L2.inClass (topS 33) 5)) .none kV doc pm an cdv ct), osl⟩ ∧ codeIn (fkhead.heap_39 p) cdv "ForkPlan._leaf_from" = true ∧ keepIn (fkhead.heap_39 p) (.ref f) = true ∧ isFn (fkhead.heap_39 p) (.ref f) = true :=
  ⟨_, _, _, _, _, _, _, _, _, _, by k_is, by k_is, by k_is, by k_is, by k_is⟩
theorem km_mTold (p : Params) : ∃ (f : Addr) (oc : Value) (od an : Option Addr) (osl : Array (Option Value)) (kV doc pm cdv ct : Value), findIn (fkhead.heap_39 p) (.ref 446) "told" = some (some (.ref f)) ∧ (fkhead.heap_39 p).lookup f = some ⟨oc, od, .func (PySem.W.fnOf "told" "ForkPlan.told" (L2.defArgs (L2.inClass (topS 33) 9)) (L2.defBody (L2.inClass (topS 33) 9)) (L2.defScope (L2.inClass (topS 33) 9)) .none kV doc pm an cdv ct), osl⟩ ∧ codeIn (fkhead.heap_39 p) cdv "ForkPlan.told" = true ∧ keepIn (fkhead.heap_39 p) (.ref f) = true ∧ isFn (fkhead.heap_39 p) (.ref f) = true :=
  ⟨_, _, _, _, _, _, _, _, _, _, by k_is, by k_is, by k_is, by k_is, by k_is⟩
theorem km_mWrong (p : Params) : ∃ (f : Addr) (oc : Value) (od an : Option Addr) (osl : Array (Option Value)) (kV doc pm cdv ct : Value), findIn (fkhead.heap_39 p) (.ref 446) "wrong_forks" = some (some (.ref f)) ∧ (fkhead.heap_39 p).lookup f = some ⟨oc, od, .func (PySem.W.fnOf "wrong_forks" "ForkPlan.wrong_forks" (L2.defArgs (L2.inClass (topS 33) 11)) (L2.defBody (L2.inClass (topS 33) 11)) (L2.defScope (L2.inClass (topS 33) 11)) .none kV doc pm an cdv ct), osl⟩ ∧ codeIn (fkhead.heap_39 p) cdv "ForkPlan.wrong_forks" = true ∧ keepIn (fkhead.heap_39 p) (.ref f) = true ∧ isFn (fkhead.heap_39 p) (.ref f) = true :=
  ⟨_, _, _, _, _, _, _, _, _, _, by k_is, by k_is, by k_is, by k_is, by k_is⟩
theorem km_mTurns (p : Params) : ∃ (f : Addr) (oc : Value) (od an : Option Addr) (osl : Array (Option Value)) (kV doc pm cdv ct : Value), findIn (fkhead.heap_39 p) (.ref 446) "turns" = some (some (.ref f)) ∧ (fkhead.heap_39 p).lookup f = some ⟨oc, od, .func (PySem.W.fnOf "turns" "ForkPlan.turns" (L2.defArgs (L2.inClass (topS 33) 12)) (L2.defBody (L2.inClass (topS 33) 12)) (L2.defScope (L2.inClass (topS 33) 12)) .none kV doc pm an cdv ct), osl⟩ ∧ codeIn (fkhead.heap_39 p) cdv "ForkPlan.turns" = true ∧ keepIn (fkhead.heap_39 p) (.ref f) = true ∧ isFn (fkhead.heap_39 p) (.ref f) = true :=
  ⟨_, _, _, _, _, _, _, _, _, _, by k_is, by k_is, by k_is, by k_is, by k_is⟩
theorem ks_State (p : Params) : ∃ (f cc : Addr) (oc : Value) (od an : Option Addr) (osl : Array (Option Value)) (kV doc pm ct : Value) (cda : Addr) (ccl : Value) (cdd : Option Addr) (vs : Array Value) (ccs : Array (Option Value)) (l1 : Value) (l2 : Option Addr) (l3 : Array (Option Value)) (T : Addr) (dd : Option Addr) (dsl : Array (Option Value)) (t : Tok) , findIn (fkhead.heap_39 p) (.ref 125) "__init__" = some (some (.ref f)) ∧
    (fkhead.heap_39 p).lookup f = some ⟨oc, od, .func (PySem.W.fnX "__init__" "InvalidState.__init__" (L2.defArgs (L2.inClass (topS 7) 0)) (L2.defBody (L2.inClass (topS 7) 0)) (L2.defScope (L2.inClass (topS 7) 0)) [("__class__", cc)] (.ref T) kV doc pm an (.ref cda) ct), osl⟩ ∧ (fkhead.heap_39 p).lookup cda = some ⟨ccl, cdd, .fields vs, ccs⟩ ∧ codeIn (fkhead.heap_39 p) (.ref cda) "InvalidState.__init__" = true ∧ (fkhead.heap_39 p).lookup cc = some ⟨l1, l2, .cell (some (.ref 125)), l3⟩ ∧ typeIn (fkhead.heap_39 p) (.ref f) = some (.type "function") ∧ keepIn (fkhead.heap_39 p) (.ref f) = true ∧ isFn (fkhead.heap_39 p) (.ref f) = true ∧ (fkhead.heap_39 p).lookup T = some ⟨.type "tuple", dd, .seq #[.str "there is no such state of the cells" t], dsl⟩ ∧ ∃ (file : Str) (tf : Tok), vs[2]? = some (.str file tf) ∧ ((PySem.Challenge.pw_forkflags_k25_whole_runs_with_cuts.main.file : Str) == file) = true :=
  ⟨_, _, _, _, _, _, _, _, _, _, _, _, _, _, _, _, _, _, _, _, _, _, by k_is, by k_is, by k_is, by k_is, by k_is, by k_is, by k_is, by k_is, by k_is, _, _, by rfl, by decide +kernel⟩
theorem ks_Writer (p : Params) : ∃ (f cc : Addr) (oc : Value) (od an : Option Addr) (osl : Array (Option Value)) (kV doc pm ct : Value) (cda : Addr) (ccl : Value) (cdd : Option Addr) (vs : Array Value) (ccs : Array (Option Value)) (l1 : Value) (l2 : Option Addr) (l3 : Array (Option Value)) , findIn (fkhead.heap_39 p) (.ref 82) "__init__" = some (some (.ref f)) ∧
    (fkhead.heap_39 p).lookup f = some ⟨oc, od, .func (PySem.W.fnX "__init__" "UnknownWriter.__init__" (L2.defArgs (L2.inClass (topS 5) 0)) (L2.defBody (L2.inClass (topS 5) 0)) (L2.defScope (L2.inClass (topS 5) 0)) [("__class__", cc)] .none kV doc pm an (.ref cda) ct), osl⟩ ∧ (fkhead.heap_39 p).lookup cda = some ⟨ccl, cdd, .fields vs, ccs⟩ ∧ codeIn (fkhead.heap_39 p) (.ref cda) "UnknownWriter.__init__" = true ∧ (fkhead.heap_39 p).lookup cc = some ⟨l1, l2, .cell (some (.ref 82)), l3⟩ ∧ typeIn (fkhead.heap_39 p) (.ref f) = some (.type "function") ∧ keepIn (fkhead.heap_39 p) (.ref f) = true ∧ isFn (fkhead.heap_39 p) (.ref f) = true ∧ ∃ (file : Str) (tf : Tok), vs[2]? = some (.str file tf) ∧ ((PySem.Challenge.pw_forkflags_k25_whole_runs_with_cuts.main.file : Str) == file) = true :=
  ⟨_, _, _, _, _, _, _, _, _, _, _, _, _, _, _, _, _, _, by k_is, by k_is, by k_is, by k_is, by k_is, by k_is, by k_is, by k_is, _, _, by rfl, by decide +kernel⟩
theorem ks_Event (p : Params) : ∃ (f cc : Addr) (oc : Value) (od an : Option Addr) (osl : Array (Option Value)) (kV doc pm ct : Value) (cda : Addr) (ccl : Value) (cdd : Option Addr) (vs : Array Value) (ccs : Array (Option Value)) (l1 : Value) (l2 : Option Addr) (l3 : Array (Option Value)) , findIn (fkhead.heap_39 p) (.ref 167) "__init__" = some (some (.ref f)) ∧
    (fkhead.heap_39 p).lookup f = some ⟨oc, od, .func (PySem.W.fnX "__init__" "InvalidEvent.__init__" (L2.defArgs (L2.inClass (topS 9) 0)) (L2.defBody (L2.inClass (topS 9) 0)) (L2.defScope (L2.inClass (topS 9) 0)) [("__class__", cc)] .none kV doc pm an (.ref cda) ct), osl⟩ ∧ (fkhead.heap_39 p).lookup cda = some ⟨ccl, cdd, .fields vs, ccs⟩ ∧ codeIn (fkhead.heap_39 p) (.ref cda) "InvalidEvent.__init__" = true ∧ (fkhead.heap_39 p).lookup cc = some ⟨l1, l2, .cell (some (.ref 167)), l3⟩ ∧ typeIn (fkhead.heap_39 p) (.ref f) = some (.type "function") ∧ keepIn (fkhead.heap_39 p) (.ref f) = true ∧ isFn (fkhead.heap_39 p) (.ref f) = true ∧ ∃ (file : Str) (tf : Tok), vs[2]? = some (.str file tf) ∧ ((PySem.Challenge.pw_forkflags_k25_whole_runs_with_cuts.main.file : Str) == file) = true :=
  ⟨_, _, _, _, _, _, _, _, _, _, _, _, _, _, _, _, _, _, by k_is, by k_is, by k_is, by k_is, by k_is, by k_is, by k_is, by k_is, _, _, by rfl, by decide +kernel⟩
theorem ks_Fork (p : Params) : ∃ (f cc : Addr) (oc : Value) (od an : Option Addr) (osl : Array (Option Value)) (kV doc pm ct : Value) (cda : Addr) (ccl : Value) (cdd : Option Addr) (vs : Array Value) (ccs : Array (Option Value)) (l1 : Value) (l2 : Option Addr) (l3 : Array (Option Value)) , findIn (fkhead.heap_39 p) (.ref 446) "__init__" = some (some (.ref f)) ∧
    (fkhead.heap_39 p).lookup f = some ⟨oc, od, .func (PySem.W.fnX "__init__" "ForkPlan.__init__" (L2.defArgs (L2.inClass (topS 33) 0)) (L2.defBody (L2.inClass (topS 33) 0)) (L2.defScope (L2.inClass (topS 33) 0)) [("__class__", cc)] .none kV doc pm an (.ref cda) ct), osl⟩ ∧ (fkhead.heap_39 p).lookup cda = some ⟨ccl, cdd, .fields vs, ccs⟩ ∧ codeIn (fkhead.heap_39 p) (.ref cda) "ForkPlan.__init__" = true ∧ (fkhead.heap_39 p).lookup cc = some ⟨l1, l2, .cell (some (.ref 446)), l3⟩ ∧ typeIn (fkhead.heap_39 p) (.ref f) = some (.type "function") ∧ keepIn (fkhead.heap_39 p) (.ref f) = true ∧ isFn (fkhead.heap_39 p) (.ref f) = true ∧ ∃ (file : Str) (tf : Tok), vs[2]? = some (.str file tf) ∧ ((PySem.Challenge.pw_forkflags_k25_whole_runs_with_cuts.main.file : Str) == file) = true :=
  ⟨_, _, _, _, _, _, _, _, _, _, _, _, _, _, _, _, _, _, by k_is, by k_is, by k_is, by k_is, by k_is, by k_is, by k_is, by k_is, _, _, by rfl, by decide +kernel⟩
theorem ke_State1 (p : Params) : ∃ nm q N bs bm sn sub ab col dd k0 k1 k2 k3 k5, (fkhead.heap_39 p).lookup 125 = some (excClassObj nm q 125 N bs bm true sn sub ab col dd k0 k1 k2 k3 k5 "ValueError.__new__") ∧ PySem.HandSPX.refsVE bm = true :=
  ⟨_, _, _, _, _, _, _, _, _, _, _, _, _, _, _, by k_is, by decide +kernel⟩
theorem ke_State2 (p : Params) : findIn (fkhead.heap_39 p) (.ref 125) "__setattr__" = some (some (.builtin "object.__setattr__")) ∧ subIn (fkhead.heap_39 p) (.ref 125) (.type "BaseException") = some true ∧ typeIn (fkhead.heap_39 p) (.ref 125) = some (.type "type") ∧ keepIn (fkhead.heap_39 p) (.ref 125) = true ∧ mroIn (fkhead.heap_39 p) 125 (.ref 125) = some true ∧ nsIn (fkhead.heap_39 p) PySem.cStatics "thirdparty.any" = some none ∧ subIn (fkhead.heap_39 p) (.ref 125) (.type "ValueError") = some true :=
  ⟨by k_is, by k_is, by k_is, by k_is, by k_is, by k_is, by k_is⟩
theorem ke_State3 (p : Params) : ∃ cdC, clsIn (fkhead.heap_39 p) 125 = some cdC ∧ alongIn (fkhead.heap_39 p) "__init__" ((cdC.mro.dropWhile (· != .ref 125)).drop 1) = some (some (.builtin "ValueError.__init__")) := ⟨_, by k_is, by kernel_rfl⟩
theorem ke_State4 (p : Params) : findIn (fkhead.heap_39 p) (.ref 125) "__getattribute__" = some (some (.builtin "BaseException.__getattribute__")) ∧ findIn (fkhead.heap_39 p) (.ref 125) "__getattr__" = some none ∧ hasDictIn (fkhead.heap_39 p) 125 = true ∧ findIn (fkhead.heap_39 p) (.ref 125) "__class__" = some (some (.builtin "object.__class__")) ∧
    specialIn (fkhead.heap_39 p) (.builtin "object.__class__") "__get__" = some (some (.builtin "getset_descriptor.__get__")) ∧ takesIn (fkhead.heap_39 p) (.builtin "object.__class__") = some true ∧ mroIn (fkhead.heap_39 p) 125 (.type "object") = some true :=
  ⟨by k_is, by k_is, by k_is, by k_is, by k_is, by k_is, by k_is⟩
theorem ke_Writer1 (p : Params) : ∃ nm q N bs bm sn sub ab col dd k0 k1 k2 k3 k5, (fkhead.heap_39 p).lookup 82 = some (excClassObj nm q 82 N bs bm true sn sub ab col dd k0 k1 k2 k3 k5 "ValueError.__new__") ∧ PySem.HandSPX.refsVE bm = true :=
  ⟨_, _, _, _, _, _, _, _, _, _, _, _, _, _, _, by k_is, by decide +kernel⟩
theorem ke_Writer2 (p : Params) : findIn (fkhead.heap_39 p) (.ref 82) "__setattr__" = some (some (.builtin "object.__setattr__")) ∧ subIn (fkhead.heap_39 p) (.ref 82) (.type "BaseException") = some true ∧ typeIn (fkhead.heap_39 p) (.ref 82) = some (.type "type") ∧ keepIn (fkhead.heap_39 p) (.ref 82) = true ∧ mroIn (fkhead.heap_39 p) 82 (.ref 82) = some true ∧ nsIn (fkhead.heap_39 p) PySem.cStatics "thirdparty.any" = some none ∧ subIn (fkhead.heap_39 p) (.ref 82) (.type "ValueError") = some true :=
  ⟨by k_is, by k_is, by k_is, by k_is, by k_is, by k_is, by k_is⟩
theorem ke_Writer3 (p : Params) : ∃ cdC, clsIn (fkhead.heap_39 p) 82 = some cdC ∧ alongIn (fkhead.heap_39 p) "__init__" ((cdC.mro.dropWhile (· != .ref 82)).drop 1) = some (some (.builtin "ValueError.__init__")) := ⟨_, by k_is, by kernel_rfl⟩
theorem ke_Writer4 (p : Params) : findIn (fkhead.heap_39 p) (.ref 82) "__getattribute__" = some (some (.builtin "BaseException.__getattribute__")) ∧ findIn (fkhead.heap_39 p) (.ref 82) "__getattr__" = some none ∧ hasDictIn (fkhead.heap_39 p) 82 = true ∧ findIn (fkhead.heap_39 p) (.ref 82) "__class__" = some (some (.builtin "object.__class__")) ∧
    specialIn (fkhead.heap_39 p) (.builtin "object.__class__") "__get__" = some (some (.builtin "getset_descriptor.__get__")) ∧ takesIn (fkhead.heap_39 p) (.builtin "object.__class__") = some true ∧ mroIn (fkhead.heap_39 p) 82 (.type "object") = some true :=
  ⟨by k_is, by k_is, by k_is, by k_is, by k_is, by k_is, by k_is⟩
theorem ke_Event1 (p : Params) : ∃ nm q N bs bm sn sub ab col dd k0 k1 k2 k3 k5, (fkhead.heap_39 p).lookup 167 = some (excClassObj nm q 167 N bs bm true sn sub ab col dd k0 k1 k2 k3 k5 "ValueError.__new__") ∧ PySem.HandSPX.refsVE bm = true :=
  ⟨_, _, _, _, _, _, _, _, _, _, _, _, _, _, _, by k_is, by decide +kernel⟩
theorem ke_Event2 (p : Params) : findIn (fkhead.heap_39 p) (.ref 167) "__setattr__" = some (some (.builtin "object.__setattr__")) ∧ subIn (fkhead.heap_39 p) (.ref 167) (.type "BaseException") = some true ∧ typeIn (fkhead.heap_39 p) (.ref 167) = some (.type "type") ∧ keepIn (fkhead.heap_39 p) (.ref 167) = true ∧ mroIn (fkhead.heap_39 p) 167 (.ref 167) = some true ∧ nsIn (fkhead.heap_39 p) PySem.cStatics "thirdparty.any" = some none ∧ subIn (fkhead.heap_39 p) (.ref 167) (.type "ValueError") = some true :=
  ⟨by k_is, by k_is, by k_is, by k_is, by k_is, by k_is, by k_is⟩
theorem ke_Event3 (p : Params) : ∃ cdC, clsIn (fkhead.heap_39 p) 167 = some cdC ∧ alongIn (fkhead.heap_39 p) "__init__" ((cdC.mro.dropWhile (· != .ref 167)).drop 1) = some (some (.builtin "ValueError.__init__")) := ⟨_, by k_is, by kernel_rfl⟩
theorem ke_Event4 (p : Params) : findIn (fkhead.heap_39 p) (.ref 167) "__getattribute__" = some (some (.builtin "BaseException.__getattribute__")) ∧ findIn (fkhead.heap_39 p) (.ref 167) "__getattr__" = some none ∧ hasDictIn (fkhead.heap_39 p) 167 = true ∧ findIn (fkhead.heap_39 p) (.ref 167) "__class__" = some (some (.builtin "object.__class__")) ∧
    specialIn (fkhead.heap_39 p) (.builtin "object.__class__") "__get__" = some (some (.builtin "getset_descriptor.__get__")) ∧ takesIn (fkhead.heap_39 p) (.builtin "object.__class__") = some true ∧ mroIn (fkhead.heap_39 p) 167 (.type "object") = some true :=
  ⟨by k_is, by k_is, by k_is, by k_is, by k_is, by k_is, by k_is⟩
theorem kc_eState (p : Params) : hasDictIn (fkhead.heap_39 p) 125 = true ∧ typeIn (fkhead.heap_39 p) (.ref 125) = some (.type "type") ∧ subIn (fkhead.heap_39 p) (.ref 125) (.type "BaseException") = some true := ⟨by k_is, by k_is, by k_is⟩
theorem kc_eWriter (p : Params) : hasDictIn (fkhead.heap_39 p) 82 = true ∧ typeIn (fkhead.heap_39 p) (.ref 82) = some (.type "type") ∧ subIn (fkhead.heap_39 p) (.ref 82) (.type "BaseException") = some true := ⟨by k_is, by k_is, by k_is⟩
theorem kc_eEvent (p : Params) : hasDictIn (fkhead.heap_39 p) 167 = true ∧ typeIn (fkhead.heap_39 p) (.ref 167) = some (.type "type") ∧ subIn (fkhead.heap_39 p) (.ref 167) (.type "BaseException") = some true := ⟨by k_is, by k_is, by k_is⟩
theorem kc_eTurns (p : Params) : hasDictIn (fkhead.heap_39 p) 146 = true ∧ typeIn (fkhead.heap_39 p) (.ref 146) = some (.type "type") ∧ subIn (fkhead.heap_39 p) (.ref 146) (.type "BaseException") = some true := ⟨by k_is, by k_is, by k_is⟩
theorem kc_err (p : Params) : hasDictIn (fkhead.heap_39 p) 38 = true ∧ typeIn (fkhead.heap_39 p) (.ref 38) = some (.type "type") ∧ subIn (fkhead.heap_39 p) (.ref 38) (.type "BaseException") = some true := ⟨by k_is, by k_is, by k_is⟩
theorem kk_eState_eWriter (p : Params) : subIn (fkhead.heap_39 p) (.ref 125) (.ref 82) = some false := by k_is
theorem kk_eState_eEvent (p : Params) : subIn (fkhead.heap_39 p) (.ref 125) (.ref 167) = some false := by k_is
theorem kk_eState_eTurns (p : Params) : subIn (fkhead.heap_39 p) (.ref 125) (.ref 146) = some false := by k_is
theorem kk_eState_err (p : Params) : subIn (fkhead.heap_39 p) (.ref 125) (.ref 38) = some true := by k_is
theorem kk_eWriter_eState (p : Params) : subIn (fkhead.heap_39 p) (.ref 82) (.ref 125) = some false := by k_is
theorem kk_eWriter_eEvent (p : Params) : subIn (fkhead.heap_39 p) (.ref 82) (.ref 167) = some false := by k_is
theorem kk_eWriter_eTurns (p : Params) : subIn (fkhead.heap_39 p) (.ref 82) (.ref 146) = some false := by k_is
theorem kk_eWriter_err (p : Params) : subIn (fkhead.heap_39 p) (.ref 82) (.ref 38) = some true := by k_is
theorem kk_eEvent_eState (p : Params) : subIn (fkhead.heap_39 p) (.ref 167) (.ref 125) = some false := by k_is
theorem kk_eEvent_eWriter (p : Params) : subIn (fkhead.heap_39 p) (.ref 167) (.ref 82) = some false := by k_is
theorem kk_eEvent_eTurns (p : Params) : subIn (fkhead.heap_39 p) (.ref 167) (.ref 146) = some false := by k_is
theorem kk_eEvent_err (p : Params) : subIn (fkhead.heap_39 p) (.ref 167) (.ref 38) = some true := by k_is
theorem kn_W (p : Params) : findIn (fkhead.heap_39 p) (.ref 82) "writer" = some none ∧ findIn (fkhead.heap_39 p) (.ref 167) "index" = some none := ⟨by k_is, by k_is⟩
theorem kf_cls (p : Params) : plainGet (fkhead.heap_39 p) 446 Str.empty = true ∧ hasDictIn (fkhead.heap_39 p) 446 = true ∧ plainOver (fkhead.heap_39 p) 446 = true ∧ findIn (fkhead.heap_39 p) (.ref 446) "__setattr__" = some (some (.builtin "object.__setattr__")) ∧ makesIn (fkhead.heap_39 p) 446 = true ∧ keepIn (fkhead.heap_39 p) (.ref 446) = true ∧ mroIn (fkhead.heap_39 p) 446 (.ref 446) = some true := ⟨by k_is, by k_is, by k_is, by k_is, by k_is, by k_is, by k_is⟩
theorem kf_nNames (p : Params) : findIn (fkhead.heap_39 p) (.ref 446) "names" = some none := by k_is
theorem kf_nCells (p : Params) : findIn (fkhead.heap_39 p) (.ref 446) "cells" = some none := by k_is
theorem kf_nSizes (p : Params) : findIn (fkhead.heap_39 p) (.ref 446) "sizes" = some none := by k_is
theorem kf_nTree (p : Params) : findIn (fkhead.heap_39 p) (.ref 446) "tree" = some none := by k_is
theorem kf_nWays (p : Params) : findIn (fkhead.heap_39 p) (.ref 446) "ways" = some none := by k_is
theorem kf_nFlags (p : Params) : findIn (fkhead.heap_39 p) (.ref 446) "_flags" = some none := by k_is
theorem kf_nLeaves (p : Params) : findIn (fkhead.heap_39 p) (.ref 446) "_leaves" = some none := by k_is
theorem kf_nWritten (p : Params) : findIn (fkhead.heap_39 p) (.ref 446) "_written" = some none := by k_is
theorem kf_pin (p : Params) : ∃ (f : Addr) (cdC : ClassData) (oc : Value) (od an : Option Addr) (osl : Array (Option Value)) (kV doc pm cdv ct : Value), findIn (fkhead.heap_39 p) (.ref 330) "__init__" = some (some (.ref f)) ∧ clsIn (fkhead.heap_39 p) 446 = some cdC ∧ alongIn (fkhead.heap_39 p) "__init__" ((cdC.mro.dropWhile (· != .ref 446)).drop 1) = some (some (.ref f)) ∧ typeIn (fkhead.heap_39 p) (.ref f) = some (.type "function") ∧ fnIn (fkhead.heap_39 p) f = true ∧
    (fkhead.heap_39 p).lookup f = some ⟨oc, od, .func (PySem.W.fnOf "__init__" "Plan.__init__" (L2.defArgs (L2.inClass (topS 30) 0)) (L2.defBody (L2.inClass (topS 30) 0)) (L2.defScope (L2.inClass (topS 30) 0)) .none kV doc pm an cdv ct), osl⟩ ∧ codeIn (fkhead.heap_39 p) cdv "Plan.__init__" = true ∧ keepIn (fkhead.heap_39 p) (.ref f) = true :=
  ⟨_, _, _, _, _, _, _, _, _, _, _, by k_is, by k_is, by kernel_rfl, by k_is, by k_is, by k_is, by k_is, by k_is⟩
theorem kb_isinstance (p : Params) : nsIn (fkhead.heap_39 p) mainGlobals "isinstance" = some none := by k_is
theorem kb_str (p : Params) : nsIn (fkhead.heap_39 p) mainGlobals "str" = some none := by k_is
theorem kb_repr (p : Params) : nsIn (fkhead.heap_39 p) mainGlobals "repr" = some none := by k_is
theorem kb_len (p : Params) : nsIn (fkhead.heap_39 p) mainGlobals "len" = some none := by k_is
theorem kb_enumerate (p : Params) : nsIn (fkhead.heap_39 p) mainGlobals "enumerate" = some none := by k_is
theorem kb_tuple (p : Params) : nsIn (fkhead.heap_39 p) mainGlobals "tuple" = some none := by k_is
theorem kb_list (p : Params) : nsIn (fkhead.heap_39 p) mainGlobals "list" = some none := by k_is
theorem kb_zip (p : Params) : nsIn (fkhead.heap_39 p) mainGlobals "zip" = some none := by k_is
theorem kb_sorted (p : Params) : nsIn (fkhead.heap_39 p) mainGlobals "sorted" = some none := by k_is
theorem kb_range (p : Params) : nsIn (fkhead.heap_39 p) mainGlobals "range" = some none := by k_is
theorem kb_reversed (p : Params) : nsIn (fkhead.heap_39 p) mainGlobals "reversed" = some none := by k_is
theorem kb_sum (p : Params) : nsIn (fkhead.heap_39 p) mainGlobals "sum" = some none := by k_is
theorem kb_int (p : Params) : nsIn (fkhead.heap_39 p) mainGlobals "int" = some none := by k_is
theorem kb_bool (p : Params) : nsIn (fkhead.heap_39 p) mainGlobals "bool" = some none := by k_is
theorem kb_max (p : Params) : nsIn (fkhead.heap_39 p) mainGlobals "max" = some none := by k_is
theorem kb_valueError (p : Params) : nsIn (fkhead.heap_39 p) mainGlobals "ValueError" = some none := by k_is
theorem kb_super (p : Params) : nsIn (fkhead.heap_39 p) mainGlobals "super" = some none := by k_is
theorem kv_letters (p : Params) : ∃ t, nsIn (fkhead.heap_39 p) mainGlobals "_LETTERS" = some (some (.str "abcdefghijklmnopqrstuvwxyz" t)) := ⟨_, by k_is⟩
theorem kv_most (p : Params) : ∃ t, nsIn (fkhead.heap_39 p) mainGlobals "_MOST_LETTERS" = some (some (.int 8 t)) := ⟨_, by k_is⟩
theorem kv_leafs (p : Params) : ∃ t, nsIn (fkhead.heap_39 p) mainGlobals "LEAF_LIMIT" = some (some (.int 12 t)) := ⟨_, by k_is⟩
theorem kg_fork (p : Params) : nsIn (fkhead.heap_39 p) mainGlobals "ForkPlan" = some (some (.ref 446)) := by k_is
theorem kg_err (p : Params) : nsIn (fkhead.heap_39 p) mainGlobals "ForkError" = some (some (.ref 38)) := by k_is
theorem kg_eState (p : Params) : nsIn (fkhead.heap_39 p) mainGlobals "InvalidState" = some (some (.ref 125)) := by k_is
theorem kg_eWriter (p : Params) : nsIn (fkhead.heap_39 p) mainGlobals "UnknownWriter" = some (some (.ref 82)) := by k_is
theorem kg_eEvent (p : Params) : nsIn (fkhead.heap_39 p) mainGlobals "InvalidEvent" = some (some (.ref 167)) := by k_is
theorem kg_eTurns (p : Params) : nsIn (fkhead.heap_39 p) mainGlobals "TooManyTurns" = some (some (.ref 146)) := by k_is
end FK
set_option Elab.async false
set_option linter.all false
set_option maxRecDepth 100000
set_option maxHeartbeats 4000000
set_option pp.maxSteps 400
namespace FK
open PySem PySem.Spec PyProof.Rows L2
abbrev PG : Program := PySem.Challenge.pw_forkflags_k25_whole_runs_with_cuts
section
variable {K : PySem.W.Frag} {h : Heap} {mg : Str → Option Value} {x m qual : Str} {st : Stmt} {ps : List Str} {C : Addr}
theorem defAt (X : K.In h) (G : h.Ns mainGlobals mg) (F : ∃ (f : Addr) (oc : Value) (od an : Option Addr) (osl : Array (Option Value)) (kV doc pm cdv ct : Value), PySem.W.nsIn K mainGlobals x = some (some (.ref f)) ∧ K.lookup f = some ⟨oc, od, .func (PySem.W.fnOf x x (defArgs st) (defBody st) (defScope st) .none kV doc pm an cdv ct), osl⟩ ∧ PySem.W.codeIn K cdv x = true ∧ PySem.W.keepIn K (.ref f) = true)
    (hb : ∀ (kV doc pm : Value) (an : Option Addr) (cdv ct : Value) (us : List Value), us.length = ps.length → bindArgs (PySem.W.fnOf x x (defArgs st) (defBody st) (defScope st) .none kV doc pm an cdv ct) ⟨us, []⟩ = pure (ps.zip us)) : DefAt K mg x st ps := by
  obtain ⟨f, oc, od, an, osl, kV, doc, pm, cdv, ct, h1, h2, h3, h4⟩ := F
  have F := fun_mk (st := st) h2 h3 h4
  exact ⟨f, _, PySem.W.mg_of X G h1, F, F.binds hb⟩
theorem methAt (F : ∃ (f : Addr) (oc : Value) (od an : Option Addr) (osl : Array (Option Value)) (kV doc pm cdv ct : Value), PySem.W.findIn K (.ref C) m = some (some (.ref f)) ∧ K.lookup f = some ⟨oc, od, .func (PySem.W.fnOf m qual (defArgs st) (defBody st) (defScope st) .none kV doc pm an cdv ct), osl⟩ ∧ PySem.W.codeIn K cdv qual = true ∧ PySem.W.keepIn K (.ref f) = true ∧ PySem.W.isFn K (.ref f) = true)
    (hb : ∀ (kV doc pm : Value) (an : Option Addr) (cdv ct : Value) (us : List Value), us.length = ps.length → bindArgs (PySem.W.fnOf m qual (defArgs st) (defBody st) (defScope st) .none kV doc pm an cdv ct) ⟨us, []⟩ = pure (ps.zip us)) : MethAt K C m qual st ps := by
  obtain ⟨f, oc, od, an, osl, kV, doc, pm, cdv, ct, h1, h2, h3, h4, h5⟩ := F
  have F := fun_mk (st := st) h2 h3 h4
  exact ⟨f, _, ⟨h1, h5, h4⟩, F, F.binds hb⟩
theorem kit_o {D : Addr} {b : Bool} (hne : (Value.ref C == Value.ref D) = false) (hd : PySem.W.hasDictIn K D = true) (ht : PySem.W.typeIn K (.ref D) = some (.type "type")) (hs : PySem.W.subIn K (.ref C) (.ref D) = some b) : PySem.W.kitOne K (.ref C) (.ref D) = some b := by
  obtain ⟨cd, hc, _⟩ := PySem.W.any_some hd
  unfold PySem.W.kitOne
  rw [hne, if_neg Bool.false_ne_true]
  show (if ((PySem.W.clsIn K D).isSome && PySem.W.typeIn K (.ref D) == some (.type "type")) = true then PySem.W.subIn K (.ref C) (.ref D) else none) = some b
  rw [if_pos (by rw [hc, ht]; rfl)]
  exact hs
theorem kit_s : PySem.W.kitOne K (.ref C) (.ref C) = some true := if_pos (beq_self_eq_true _)
theorem kit_v (hs : PySem.W.subIn K (.ref C) (.type "ValueError") = some true) : PySem.W.kitOne K (.ref C) (.type "ValueError") = some true := by
  unfold PySem.W.kitOne
  rw [if_neg (by intro z; exact nomatch (beq_iff_eq.mp z))]
  show (if PySem.W.kitMeta "ValueError" = true then PySem.W.subIn K (.ref C) (.type "ValueError") else none) = some true
  rw [if_pos (by decide +kernel)]
  exact hs
end
section
variable {p : Params} {mg : Str → Option Value} {h : Heap}
theorem bi_of (X : (fkhead.heap_39 p).In h) (G : h.Ns mainGlobals mg) : BiOk mg where
  isinstance := PySem.W.mg_none_of X G (kb_isinstance p)
  str := PySem.W.mg_none_of X G (kb_str p)
  repr := PySem.W.mg_none_of X G (kb_repr p)
  len := PySem.W.mg_none_of X G (kb_len p)
  enumerate := PySem.W.mg_none_of X G (kb_enumerate p)
  tuple := PySem.W.mg_none_of X G (kb_tuple p)
  list := PySem.W.mg_none_of X G (kb_list p)
  zip := PySem.W.mg_none_of X G (kb_zip p)
  sorted := PySem.W.mg_none_of X G (kb_sorted p)
  range := PySem.W.mg_none_of X G (kb_range p)
  reversed := PySem.W.mg_none_of X G (kb_reversed p)
  sum := PySem.W.mg_none_of X G (kb_sum p)
  int := PySem.W.mg_none_of X G (kb_int p)
  bool := PySem.W.mg_none_of X G (kb_bool p)
  max := PySem.W.mg_none_of X G (kb_max p)
  valueError := PySem.W.mg_none_of X G (kb_valueError p)
theorem txt_of (X : (fkhead.heap_39 p).In h) (G : h.Ns mainGlobals mg) : Txt (fkhead.heap_39 p) mg where
  b := bi_of X G
  letters := (kv_letters p).imp fun _ z => PySem.W.mg_of X G z
  most := (kv_most p).imp fun _ z => PySem.W.mg_of X G z
  leafs := (kv_leafs p).imp fun _ z => PySem.W.mg_of X G z
  dShown := defAt X G (kt_dShown p) (fun _ _ _ _ _ _ us hl => match us, hl with | [_], _ => rfl)
  dEventTurns := defAt X G (kt_dEventTurns p) (fun _ _ _ _ _ _ us hl => match us, hl with | [_, _, _, _], _ => rfl)
  dRun := defAt X G (kt_dRun p) (fun _ _ _ _ _ _ us hl => match us, hl with | [_, _, _], _ => rfl)
  dLast := defAt X G (kt_dLast p) (fun _ _ _ _ _ _ us hl => match us, hl with | [_, _, _], _ => rfl)
  dIsName := defAt X G (kt_dIsName p) (fun _ _ _ _ _ _ us hl => match us, hl with | [_], _ => rfl)
  dIsTree := defAt X G (kt_dIsTree p) (fun _ _ _ _ _ _ us hl => match us, hl with | [_], _ => rfl)
  dCheckTree := defAt X G (kt_dCheckTree p) (fun _ _ _ _ _ _ us hl => match us, hl with | [_], _ => rfl)
  dSubs := defAt X G (kt_dSubs p) (fun _ _ _ _ _ _ us hl => match us, hl with | [_], _ => rfl)
  dWays := defAt X G (kt_dWays p) (fun _ _ _ _ _ _ us hl => match us, hl with | [_], _ => rfl)
  dForks := defAt X G (kt_dForks p) (fun _ _ _ _ _ _ us hl => match us, hl with | [_], _ => rfl)
  dFormat := defAt X G (kt_dFormat p) (fun _ _ _ _ _ _ us hl => match us, hl with | [_], _ => rfl)
  dSpelled := defAt X G (kt_dSpelled p) (fun _ _ _ _ _ _ us hl => match us, hl with | [_], _ => rfl)
  dIsBelow := defAt X G (kt_dIsBelow p) (fun _ _ _ _ _ _ us hl => match us, hl with | [_, _], _ => rfl)
  dFlags := defAt X G (kt_dFlags p) (fun _ _ _ _ _ _ us hl => match us, hl with | [_, _, _], _ => rfl)
  lInt := defAt X G (kt_lInt p) (fun _ _ _ _ _ _ us hl => match us, hl with | [_], _ => rfl)
  lMixed := defAt X G (kt_lMixed p) (fun _ _ _ _ _ _ us hl => match us, hl with | [_, _], _ => rfl)
  lBox := defAt X G (kt_lBox p) (fun _ _ _ _ _ _ us hl => match us, hl with | [_, _], _ => rfl)
  lTake := defAt X G (kt_lTake p) (fun _ _ _ _ _ _ us hl => match us, hl with | [_, _], _ => rfl)
  lWord := defAt X G (kt_lWord p) (fun _ _ _ _ _ _ us hl => match us, hl with | [_, _], _ => rfl)
  lNames := defAt X G (kt_lNames p) (fun _ _ _ _ _ _ us hl => match us, hl with | [_, _], _ => rfl)
  lTree := defAt X G (kt_lTree p) (fun _ _ _ _ _ _ us hl => match us, hl with | [_, _], _ => rfl)
  lMany := defAt X G (kt_lMany p) (fun _ _ _ _ _ _ us hl => match us, hl with | [_], _ => rfl)
  lWays := defAt X G (kt_lWays p) (fun _ _ _ _ _ _ us hl => match us, hl with | [_, _, _], _ => rfl)
  lBook := defAt X G (kt_lBook p) (fun _ _ _ _ _ _ us hl => match us, hl with | [_], _ => rfl)
  lSide := defAt X G (kt_lSide p) (fun _ _ _ _ _ _ us hl => match us, hl with | [_, _, _], _ => rfl)
  lTeller := defAt X G (kt_lTeller p) (fun _ _ _ _ _ _ us hl => match us, hl with | [_, _], _ => rfl)
  lNeeds := defAt X G (kt_lNeeds p) (fun _ _ _ _ _ _ us hl => match us, hl with | [_, _, _], _ => rfl)
  lAfter := defAt X G (kt_lAfter p) (fun _ _ _ _ _ _ us hl => match us, hl with | [_, _], _ => rfl)
  lState := defAt X G (kt_lState p) (fun _ _ _ _ _ _ us hl => match us, hl with | [_, _], _ => rfl)
  lIsState := defAt X G (kt_lIsState p) (fun _ _ _ _ _ _ us hl => match us, hl with | [_, _], _ => rfl)
  lBadState := defAt X G (kt_lBadState p) (fun _ _ _ _ _ _ us hl => match us, hl with | [_, _], _ => rfl)
  lStranger := defAt X G (kt_lStranger p) (fun _ _ _ _ _ _ us hl => match us, hl with | [_, _], _ => rfl)
  lDone := defAt X G (kt_lDone p) (fun _ _ _ _ _ _ us hl => match us, hl with | [_, _], _ => rfl)
  lEvents := defAt X G (kt_lEvents p) (fun _ _ _ _ _ _ us hl => match us, hl with | [_, _, _, _], _ => rfl)
  lLast := defAt X G (kt_lLast p) (fun _ _ _ _ _ _ us hl => match us, hl with | [_], _ => rfl)
  lAsked := defAt X G (kt_lAsked p) (fun _ _ _ _ _ _ us hl => match us, hl with | [_, _, _, _], _ => rfl)
  lRight := defAt X G (kt_lRight p) (fun _ _ _ _ _ _ us hl => match us, hl with | [_, _, _, _, _], _ => rfl)
  lRefused := defAt X G (kt_lRefused p) (fun _ _ _ _ _ _ us hl => match us, hl with | [_, _, _, _, _], _ => rfl)
  law := defAt X G (kt_law p) (fun _ _ _ _ _ _ us hl => match us, hl with | [_], _ => rfl)
theorem supState (X : (fkhead.heap_39 p).In h) (G : h.Ns mainGlobals mg) : ∃ t, SupDef PG (fkhead.heap_39 p) mg 125 125 "InvalidState.__init__" (inClass (topS 7) 0) ["self", "message"] [.str "there is no such state of the cells" t] := by
  obtain ⟨f, cc, oc, od, an, osl, kV, doc, pm, ct, cda, ccl, cdd, vs, ccs, l1, l2, l3, T, dd, dsl, t, h1, h2, h3, h4, h5, h6, h7, h8, h9, file, tf, h10, h11⟩ := ks_State p
  refine ⟨t, ?_⟩
  refine ⟨f, cc, _, _, _, _, _, _, _, _, _, _, _, _, _, _, rfl, h2, h4, ⟨⟨_, _, _, h2⟩, ⟨_, rfl, rfl⟩, ⟨_, _, _, _, _, file, tf, rfl, h3, h10, h11⟩, ⟨_, _, _, h5⟩, ?_, PySem.W.mg_none_of X G (kb_super p), rfl, rfl, rfl, by decide +kernel⟩, h5, h1, h6, h7, ?_⟩
  · exact ⟨_, (ke_State3 p).choose_spec.1⟩
  · intro s us KX hl
    have hl2 : us.length = 1 := by
      rw [List.length_append] at hl
      exact Nat.succ.inj hl
    clear hl
    match us, hl2 with
    | [u], _ => exact PySem.W.binds_K KX rfl h9 rfl rfl rfl
theorem supWriter (X : (fkhead.heap_39 p).In h) (G : h.Ns mainGlobals mg) : SupDef PG (fkhead.heap_39 p) mg 82 82 "UnknownWriter.__init__" (inClass (topS 5) 0) ["self", "writer"] [] := by
  obtain ⟨f, cc, oc, od, an, osl, kV, doc, pm, ct, cda, ccl, cdd, vs, ccs, l1, l2, l3, h1, h2, h3, h4, h5, h6, h7, h8, file, tf, h10, h11⟩ := ks_Writer p
  skip
  refine ⟨f, cc, _, _, _, _, _, _, _, _, _, _, _, _, _, _, rfl, h2, h4, ⟨⟨_, _, _, h2⟩, ⟨_, rfl, rfl⟩, ⟨_, _, _, _, _, file, tf, rfl, h3, h10, h11⟩, ⟨_, _, _, h5⟩, ?_, PySem.W.mg_none_of X G (kb_super p), rfl, rfl, rfl, by decide +kernel⟩, h5, h1, h6, h7, ?_⟩
  · exact ⟨_, (ke_Writer3 p).choose_spec.1⟩
  · exact .all fun us hl => match us, hl with | [_, _], _ => rfl
theorem supEvent (X : (fkhead.heap_39 p).In h) (G : h.Ns mainGlobals mg) : SupDef PG (fkhead.heap_39 p) mg 167 167 "InvalidEvent.__init__" (inClass (topS 9) 0) ["self", "index"] [] := by
  obtain ⟨f, cc, oc, od, an, osl, kV, doc, pm, ct, cda, ccl, cdd, vs, ccs, l1, l2, l3, h1, h2, h3, h4, h5, h6, h7, h8, file, tf, h10, h11⟩ := ks_Event p
  skip
  refine ⟨f, cc, _, _, _, _, _, _, _, _, _, _, _, _, _, _, rfl, h2, h4, ⟨⟨_, _, _, h2⟩, ⟨_, rfl, rfl⟩, ⟨_, _, _, _, _, file, tf, rfl, h3, h10, h11⟩, ⟨_, _, _, h5⟩, ?_, PySem.W.mg_none_of X G (kb_super p), rfl, rfl, rfl, by decide +kernel⟩, h5, h1, h6, h7, ?_⟩
  · exact ⟨_, (ke_Event3 p).choose_spec.1⟩
  · exact .all fun us hl => match us, hl with | [_, _], _ => rfl
theorem supFork (X : (fkhead.heap_39 p).In h) (G : h.Ns mainGlobals mg) : SupDef PG (fkhead.heap_39 p) mg 446 446 "ForkPlan.__init__" (inClass (topS 33) 0) ["self", "tree"] [] := by
  obtain ⟨f, cc, oc, od, an, osl, kV, doc, pm, ct, cda, ccl, cdd, vs, ccs, l1, l2, l3, h1, h2, h3, h4, h5, h6, h7, h8, file, tf, h10, h11⟩ := ks_Fork p
  skip
  refine ⟨f, cc, _, _, _, _, _, _, _, _, _, _, _, _, _, _, rfl, h2, h4, ⟨⟨_, _, _, h2⟩, ⟨_, rfl, rfl⟩, ⟨_, _, _, _, _, file, tf, rfl, h3, h10, h11⟩, ⟨_, _, _, h5⟩, ?_, PySem.W.mg_none_of X G (kb_super p), rfl, rfl, rfl, by decide +kernel⟩, h5, h1, h6, h7, ?_⟩
  · obtain ⟨_, cdC, _, _, _, _, _, _, _, _, _, _, z, _⟩ := kf_pin p; exact ⟨cdC, z⟩
  · exact .all fun us hl => match us, hl with | [_, _], _ => rfl
theorem err_of (X : (fkhead.heap_39 p).In h) (G : h.Ns mainGlobals mg) : ErrTxt PG (fkhead.heap_39 p) mg cs where
  eState := ⟨PySem.W.mg_of X G (kg_eState p), ⟨ke_State1 p, (ke_State2 p).1, (ke_State2 p).2.1, (ke_State2 p).2.2.1, (ke_State2 p).2.2.2.1⟩, (ke_State2 p).2.2.2.2.1, (ke_State2 p).2.2.2.2.2.1, ke_State3 p, (ke_State2 p).2.2.2.2.2.2⟩
  eWriter := ⟨PySem.W.mg_of X G (kg_eWriter p), ⟨ke_Writer1 p, (ke_Writer2 p).1, (ke_Writer2 p).2.1, (ke_Writer2 p).2.2.1, (ke_Writer2 p).2.2.2.1⟩, (ke_Writer2 p).2.2.2.2.1, (ke_Writer2 p).2.2.2.2.2.1, ke_Writer3 p, (ke_Writer2 p).2.2.2.2.2.2⟩
  eEvent := ⟨PySem.W.mg_of X G (kg_eEvent p), ⟨ke_Event1 p, (ke_Event2 p).1, (ke_Event2 p).2.1, (ke_Event2 p).2.2.1, (ke_Event2 p).2.2.2.1⟩, (ke_Event2 p).2.2.2.2.1, (ke_Event2 p).2.2.2.2.2.1, ke_Event3 p, (ke_Event2 p).2.2.2.2.2.2⟩
  iState := supState X G
  iWriter := supWriter X G
  iEvent := supEvent X G
  noW := (kn_W p).1
  noI := (kn_W p).2
theorem plan_of (X : (fkhead.heap_39 p).In h) (G : h.Ns mainGlobals mg) : PlanTxt PG (fkhead.heap_39 p) mg cs where
  g := PySem.W.mg_of X G (kg_fork p)
  cls := ⟨(kf_cls p).1, (kf_cls p).2.1, (kf_cls p).2.2.1, (kf_cls p).2.2.2.1⟩
  nNames := kf_nNames p
  nCells := kf_nCells p
  nSizes := kf_nSizes p
  nTree := kf_nTree p
  nWays := kf_nWays p
  nFlags := kf_nFlags p
  nLeaves := kf_nLeaves p
  nWritten := kf_nWritten p
  mCheckWriter := methAt (km_mCheckWriter p) (fun _ _ _ _ _ _ us hl => match us, hl with | [_, _], _ => rfl)
  mCheckState := methAt (km_mCheckState p) (fun _ _ _ _ _ _ us hl => match us, hl with | [_, _], _ => rfl)
  mCellsOf := methAt (km_mCellsOf p) (fun _ _ _ _ _ _ us hl => match us, hl with | [_, _], _ => rfl)
  mTurned := methAt (km_mTurned p) (fun _ _ _ _ _ _ us hl => match us, hl with | [_, _, _], _ => rfl)
  mParity := methAt (km_mParity p) (fun _ _ _ _ _ _ us hl => match us, hl with | [_, _, _], _ => rfl)
  mLeafFrom := methAt (km_mLeafFrom p) (fun _ _ _ _ _ _ us hl => match us, hl with | [_, _, _], _ => rfl)
  mTold := methAt (km_mTold p) (fun _ _ _ _ _ _ us hl => match us, hl with | [_, _], _ => rfl)
  mWrong := methAt (km_mWrong p) (fun _ _ _ _ _ _ us hl => match us, hl with | [_, _, _], _ => rfl)
  mTurns := methAt (km_mTurns p) (fun _ _ _ _ _ _ us hl => match us, hl with | [_, _, _], _ => rfl)
theorem init_of (X : (fkhead.heap_39 p).In h) (G : h.Ns mainGlobals mg) : InitTxt PG (fkhead.heap_39 p) mg cs where
  sup := supFork X G
  mro := (kf_cls p).2.2.2.2.2.2
  any := (ke_State2 p).2.2.2.2.2.1
  pin := by
    obtain ⟨f, cdC, oc, od, an, osl, kV, doc, pm, cdv, ct, _, h1, h2, h3, h4, h5, h6, h7⟩ := kf_pin p
    have F := fun_mk (st := inClass (topS 30) 0) h5 h6 h7
    exact ⟨f, _, cdC, h1, h2, h3, h4, F, F.binds (fun _ _ _ _ _ _ us hl => match us, hl with | [_, _, _, _], _ => rfl)⟩
  makes := (kf_cls p).2.2.2.2.1
  kpC := (kf_cls p).2.2.2.2.2.1
theorem ask_of (X : (fkhead.heap_39 p).In h) (G : h.Ns mainGlobals mg) : AskTxt (fkhead.heap_39 p) mg cs where
  gErr := PySem.W.mg_of X G (kg_err p)
  gTurns := PySem.W.mg_of X G (kg_eTurns p)
  exS := PySem.W.exm_ref (kc_err p).2.2 (kc_err p).1 (kc_err p).2.1 (kk_eState_err p)
  exW := PySem.W.exm_ref (kc_err p).2.2 (kc_err p).1 (kc_err p).2.1 (kk_eWriter_err p)
  exE := PySem.W.exm_ref (kc_err p).2.2 (kc_err p).1 (kc_err p).2.1 (kk_eEvent_err p)
  cS := ⟨(ke_State4 p).1, (ke_State4 p).2.1, (ke_State2 p).2.1, (ke_State4 p).2.2.1, (ke_State4 p).2.2.2.1, (ke_State4 p).2.2.2.2.1, (ke_State4 p).2.2.2.2.2.1, (ke_State4 p).2.2.2.2.2.2⟩
  cW := ⟨(ke_Writer4 p).1, (ke_Writer4 p).2.1, (ke_Writer2 p).2.1, (ke_Writer4 p).2.2.1, (ke_Writer4 p).2.2.2.1, (ke_Writer4 p).2.2.2.2.1, (ke_Writer4 p).2.2.2.2.2.1, (ke_Writer4 p).2.2.2.2.2.2⟩
  cE := ⟨(ke_Event4 p).1, (ke_Event4 p).2.1, (ke_Event2 p).2.1, (ke_Event4 p).2.2.1, (ke_Event4 p).2.2.2.1, (ke_Event4 p).2.2.2.2.1, (ke_Event4 p).2.2.2.2.2.1, (ke_Event4 p).2.2.2.2.2.2⟩
  sV := kit_v (ke_State2 p).2.2.2.2.2.2
  sS := kit_s
  sW := kit_o (by decide +kernel) (kc_eWriter p).1 (kc_eWriter p).2.1 (kk_eState_eWriter p)
  sE := kit_o (by decide +kernel) (kc_eEvent p).1 (kc_eEvent p).2.1 (kk_eState_eEvent p)
  sT := kit_o (by decide +kernel) (kc_eTurns p).1 (kc_eTurns p).2.1 (kk_eState_eTurns p)
  wV := kit_v (ke_Writer2 p).2.2.2.2.2.2
  wS := kit_o (by decide +kernel) (kc_eState p).1 (kc_eState p).2.1 (kk_eWriter_eState p)
  wW := kit_s
  wE := kit_o (by decide +kernel) (kc_eEvent p).1 (kc_eEvent p).2.1 (kk_eWriter_eEvent p)
  wT := kit_o (by decide +kernel) (kc_eTurns p).1 (kc_eTurns p).2.1 (kk_eWriter_eTurns p)
  eV := kit_v (ke_Event2 p).2.2.2.2.2.2
  eS := kit_o (by decide +kernel) (kc_eState p).1 (kc_eState p).2.1 (kk_eEvent_eState p)
  eW := kit_o (by decide +kernel) (kc_eWriter p).1 (kc_eWriter p).2.1 (kk_eEvent_eWriter p)
  eE := kit_s
  eT := kit_o (by decide +kernel) (kc_eTurns p).1 (kc_eTurns p).2.1 (kk_eEvent_eTurns p)
  xW := ⟨(ke_Writer4 p).1, (ke_Writer4 p).2.1, (ke_Writer2 p).2.1, (ke_Writer4 p).2.2.1⟩
  xE := ⟨(ke_Event4 p).1, (ke_Event4 p).2.1, (ke_Event2 p).2.1, (ke_Event4 p).2.2.1⟩
theorem fn_of_init (f : Addr) (z : PySem.W.findIn (fkhead.heap_39 p) (.ref cs.fork) "__init__" = some (some (.ref f))) : PySem.W.isFn (fkhead.heap_39 p) (.ref f) = true := by
  obtain ⟨f1, cc, oc, od, an, osl, kV, doc, pm, ct, cda, ccl, cdd, vs, ccs, l1, l2, l3, h1, h2, h3, h4, h5, h6, h7, h8, _⟩ := ks_Fork p
  have e := h1.symm.trans z
  cases e
  exact h8
theorem all_mk (X : (fkhead.heap_39 p).In h) (G : h.Ns mainGlobals mg) {w : World} {fa : Addr} (hfa : mg "law" = some (.ref fa)) :
    ∃ fd : FuncData, (∀ (s : Shared) (v : Value), BindsTo s fd ⟨[v], []⟩ [("_law_script", v)]) ∧ ∀ base : Heap, (fkhead.heap_39 p).In base → base.Ns mainGlobals mg → FnOk PG w (fkhead.heap_39 p) mg base CX0 17 fa fd ["_law_script"] (spLaw (fkhead.heap_39 p)) := by
  obtain ⟨f, oc, od, an, osl, kV, doc, pm, cdv, ct, h1, h2, h3, h4⟩ := kt_law p
  have e := hfa.symm.trans (PySem.W.mg_of X G h1)
  cases e
  exact ⟨PySem.W.fnOf "law" "law" (defArgs (topS 59)) (defBody (topS 59)) (defScope (topS 59)) .none kV doc pm an cdv ct, fun s v => .of_eq rfl, fun base _ _ => ok_law (txt_of X G) (err_of X G) (plan_of X G) (ask_of X G) (init_of X G) fn_of_init (fun_mk (st := topS 59) h2 h3 h4)⟩
end
end FK
open PySem PySem.W PyProof.Rows
set_option maxRecDepth 100000 in
set_option maxHeartbeats 0 in
theorem PySem.Challenge.cw_forkflags_k25_whole_runs_with_cuts_holds : PySem.Challenge.rw_forkflags_k25_whole_runs_with_cuts.Holds := by
  refine fkhead ?_
  k_fill
  refine L2.walk_of (l := PySem.Challenge.rw_forkflags_k25_whole_runs_with_cuts) (n := 63) (k := 17) (x := "_law_script") (K := fkhead.heap_39) (CX := fun _ => L2.CX0) (sp := fun w => FK.spLaw (fkhead.heap_39 w.params)) rfl (by decide) rfl ⟨rfl, by decide, by decide⟩ (fun w h Y => PySem.W.kIn_of Y) ?F (fun _ _ a ns hl _ hS => ⟨a, ns, rfl, hS, hl, fun _ => rfl⟩) fun _ _ _ _ _ z => z
  case F =>
    intro w mg fa h KX G hmg
    exact FK.all_mk KX G hmg
#print axioms PySem.Challenge.cw_forkflags_k25_whole_runs_with_cuts_holds
