import PyProof.Rows.All
import Wide.All
import OpenK.AllK
import Wide.FinOn
import HandS.ForMost
import HandS.Conv
import HandS.Sort
import HandS.SortOrd
import HandS.SortInts
import HandS.TupSets
import HandS.SetFor
import HandS.Strs
import KE.GoesEnum
import HandS.IsInst
import HandS.Star
import HandS.TupAny
import HandS.Wide
import PySem.Challenge.RW_walledin_k35_whole_times_of_rooms
import KE.KEqDeep
set_option Elab.async false
set_option linter.all false
set_option maxRecDepth 100000
section
/-! The mathematics of walls, lots and orders: plain Lean, no program in sight. -/
namespace W35

structure Wl where
  lo : Nat
  hi : Nat
  sd : Nat

def Wl.sides (w : Wl) : List Nat := if w.sd = 0 then [w.lo] else if w.sd = 1 then [w.hi] else [w.lo, w.hi]

def YOk (many : Nat) (ws : List Wl) : Prop :=
  1 ≤ many ∧ many ≤ 5 ∧ ws.length ≤ 6 ∧ ∀ w ∈ ws, w.lo < w.hi ∧ w.hi < many ∧ w.sd ≤ 2

inductive Reach (ws : List Wl) (lot : List Nat) : Nat → Prop
  | zero : Reach ws lot 0
  | up {i : Nat} {w : Wl} : i ∈ lot → ws[i]? = some w → w.lo ∈ w.sides → Reach ws lot w.lo → Reach ws lot w.hi
  | down {i : Nat} {w : Wl} : i ∈ lot → ws[i]? = some w → w.hi ∈ w.sides → Reach ws lot w.hi → Reach ws lot w.lo

inductive Join (ws : List Wl) (lot : List Nat) : Nat → Prop
  | zero : Join ws lot 0
  | up {i : Nat} {w : Wl} : i ∈ lot → ws[i]? = some w → Join ws lot w.lo → Join ws lot w.hi
  | down {i : Nat} {w : Wl} : i ∈ lot → ws[i]? = some w → Join ws lot w.hi → Join ws lot w.lo

section
variable {ws : List Wl} {l l' : List Nat} {r : Nat}

theorem Reach.mono (h : ∀ i, i ∈ l → i ∈ l') (x : Reach ws l r) : Reach ws l' r := by
  induction x with
  | zero => exact .zero
  | up a b c _ ih => exact .up (h _ a) b c ih
  | down a b c _ ih => exact .down (h _ a) b c ih
theorem Join.mono (h : ∀ i, i ∈ l → i ∈ l') (x : Join ws l r) : Join ws l' r := by
  induction x with
  | zero => exact .zero
  | up a b _ ih => exact .up (h _ a) b ih
  | down a b _ ih => exact .down (h _ a) b ih
theorem Join.nil (x : Join ws [] r) : r = 0 := by
  cases x with
  | zero => rfl
  | up a _ _ => cases a
  | down a _ _ => cases a
theorem Reach.lt {many : Nat} (ok : YOk many ws) (x : Reach ws l r) : r < many := by
  cases x with
  | zero => have := ok.1; omega
  | up a b c _ => have := ok.2.2.2 _ (List.mem_of_getElem? b); omega
  | down a b c _ => have := ok.2.2.2 _ (List.mem_of_getElem? b); omega
theorem Join.lt {many : Nat} (ok : YOk many ws) (x : Join ws l r) : r < many := by
  cases x with
  | zero => have := ok.1; omega
  | up a b _ => have := ok.2.2.2 _ (List.mem_of_getElem? b); omega
  | down a b _ => have := ok.2.2.2 _ (List.mem_of_getElem? b); omega
theorem Join.perm (p : l.Perm l') : Join ws l r ↔ Join ws l' r :=
  ⟨Join.mono fun _ h => p.mem_iff.mp h, Join.mono fun _ h => p.mem_iff.mpr h⟩
theorem Reach.perm (p : l.Perm l') : Reach ws l r ↔ Reach ws l' r :=
  ⟨Reach.mono fun _ h => p.mem_iff.mp h, Reach.mono fun _ h => p.mem_iff.mpr h⟩
end

/-- wall i may be set from a room that one comes to through the lot -/
def Ready (ws : List Wl) (lot : List Nat) (i : Nat) : Prop := ∃ w, ws[i]? = some w ∧ ∃ r, r ∈ w.sides ∧ Reach ws lot r
def Growth (ws : List Wl) (lot : List Nat) : Prop := ∀ i, i ∈ lot → Ready ws lot i

inductive Feas (ws : List Wl) : List Nat → Prop
  | nil : Feas ws []
  | cons {i : Nat} {t : List Nat} : Feas ws t → i < ws.length → i ∉ t → Ready ws t i → Feas ws (i :: t)

section
variable {ws : List Wl} {l l' t u : List Nat} {r i : Nat}
theorem Ready.mono (h : ∀ i, i ∈ l → i ∈ l') (x : Ready ws l i) : Ready ws l' i := by
  obtain ⟨w, e, r, hr, q⟩ := x
  exact ⟨w, e, r, hr, q.mono h⟩
theorem Ready.perm (p : l.Perm l') : Ready ws l i ↔ Ready ws l' i :=
  ⟨Ready.mono fun _ h => p.mem_iff.mp h, Ready.mono fun _ h => p.mem_iff.mpr h⟩
theorem Feas.nodup (f : Feas ws t) : t.Nodup := by
  induction f with
  | nil => exact List.nodup_nil
  | cons _ _ h _ ih => exact List.nodup_cons.mpr ⟨h, ih⟩
theorem Feas.lt (f : Feas ws t) : ∀ i, i ∈ t → i < ws.length := by
  induction f with
  | nil => intro i h; cases h
  | cons _ hl _ _ ih =>
    intro j h
    rcases List.mem_cons.mp h with e | h
    · rw [e]; exact hl
    · exact ih j h
theorem sub_len : ∀ (s t : List Nat), s.Nodup → (∀ i, i ∈ s → i ∈ t) → s.length ≤ t.length
  | [], _, _, _ => Nat.zero_le _
  | a :: s, t, nd, h => by
    have nd' := List.nodup_cons.mp nd
    have h1 : s.length ≤ (t.erase a).length := sub_len s (t.erase a) nd'.2 fun i hi => by
      refine (List.mem_erase_of_ne fun e => ?_).mpr (h i (List.mem_cons_of_mem _ hi))
      rw [e] at hi
      exact nd'.1 hi
    have h2 := List.length_erase_of_mem (h a List.mem_cons_self)
    have h3 : 0 < t.length := List.length_pos_of_mem (h a List.mem_cons_self)
    rw [List.length_cons]
    omega
theorem nodup_le : ∀ (n : Nat) (l : List Nat), l.Nodup → (∀ i, i ∈ l → i < n) → l.length ≤ n
  | 0, l, _, h => by
    cases l with
    | nil => exact Nat.le_refl _
    | cons a l => exact absurd (h a List.mem_cons_self) (Nat.not_lt_zero _)
  | n + 1, l, nd, h => by
    have h1 : (l.erase n).Nodup := nd.erase n
    have h2 : ∀ i, i ∈ l.erase n → i < n := fun i hi => by
      have a := (List.Nodup.mem_erase_iff nd).mp hi
      have b := h i a.2
      have c := a.1
      omega
    have ih := nodup_le n (l.erase n) h1 h2
    have := List.length_erase (a := n) (l := l)
    split at this <;> omega
theorem Feas.length_le (f : Feas ws t) : t.length ≤ ws.length := nodup_le _ _ f.nodup f.lt
theorem Feas.drop : ∀ {t : List Nat} (m : Nat), Feas ws t → Feas ws (t.drop m)
  | t, 0, f => f
  | [], m + 1, f => f
  | a :: t, m + 1, f => by
    cases f with
    | cons f _ _ _ => exact Feas.drop m f
theorem Feas.suffix (f : Feas ws (u ++ t)) : Feas ws t := by
  have := f.drop u.length
  rwa [List.drop_left] at this
/-- a list of nodup numbers below n, n of them: all of them -/
theorem full_mem : ∀ {n : Nat} {l : List Nat}, l.Nodup → (∀ i, i ∈ l → i < n) → l.length = n → ∀ i, i < n → i ∈ l := by
  intro n l nd h e i hi
  refine Classical.byContradiction fun hn => ?_
  have h1 : (i :: l).Nodup := List.nodup_cons.mpr ⟨hn, nd⟩
  have h2 : ∀ j, j ∈ i :: l → j < n := fun j hj => by
    rcases List.mem_cons.mp hj with e | hj
    · omega
    · exact h j hj
  have h3 := nodup_le n _ h1 h2
  simp only [List.length_cons] at h3
  omega
def Full (ws : List Wl) (w : List Nat) : Prop := Feas ws w ∧ w.length = ws.length
theorem Full.mem (f : Full ws t) (h : i < ws.length) : i ∈ t := full_mem f.1.nodup f.1.lt f.2 i h
def all (ws : List Wl) : List Nat := List.range ws.length
theorem Feas.ready_in (f : Feas ws t) : ∀ i, i ∈ t → Ready ws t i := by
  induction f with
  | nil => intro i h; cases h
  | cons _ hl _ hr ih =>
    intro j h
    rcases List.mem_cons.mp h with e | h
    · rw [e]; exact hr.mono fun _ z => List.mem_cons_of_mem _ z
    · exact (ih j h).mono fun _ z => List.mem_cons_of_mem _ z
theorem Full.growth (f : Full ws t) : Growth ws (all ws) := fun i h => by
  have hi : i < ws.length := List.mem_range.mp h
  exact (f.1.ready_in i (f.mem hi)).mono fun j hj => List.mem_range.mpr (f.1.lt j hj)
/-- where all walls can be read, reading goes on -/
theorem Feas.more (g : Growth ws (all ws)) (f : Feas ws t) (h : t.length < ws.length) : ∃ i, Feas ws (i :: t) := by
  refine Classical.byContradiction fun hn => ?_
  have no : ∀ i, i < ws.length → i ∉ t → ¬ Ready ws t i := fun i h1 h2 h3 => hn ⟨i, .cons f h1 h2 h3⟩
  have same : ∀ r, Reach ws (all ws) r → Reach ws t r := by
    intro r x
    induction x with
    | zero => exact .zero
    | @up i w a b c _ ih =>
      by_cases ht : i ∈ t
      · exact .up ht b c ih
      · exact absurd ⟨w, b, _, c, ih⟩ (no i (List.mem_range.mp a) ht)
    | @down i w a b c _ ih =>
      by_cases ht : i ∈ t
      · exact .down ht b c ih
      · exact absurd ⟨w, b, _, c, ih⟩ (no i (List.mem_range.mp a) ht)
  have hin : ∀ i, i < ws.length → i ∈ t := fun i hi => by
    refine Classical.byContradiction fun ht => ?_
    obtain ⟨w, e, r, hr, q⟩ := g i (List.mem_range.mpr hi)
    exact no i hi ht ⟨w, e, r, hr, same r q⟩
  have h1 : (List.range ws.length).Nodup := List.nodup_range
  have := sub_len _ t h1 fun i hi => hin i (List.mem_range.mp hi)
  rw [List.length_range] at this
  omega
theorem Feas.extend (g : Growth ws (all ws)) : ∀ (k : Nat) {t : List Nat}, Feas ws t → ws.length - t.length = k → ∃ u, Full ws (u ++ t) ∧ u.length = k
  | 0, t, f, h => ⟨[], ⟨f, by have := f.length_le; simp only [List.nil_append]; omega⟩, rfl⟩
  | k + 1, t, f, h => by
    obtain ⟨i, f'⟩ := f.more g (by omega)
    obtain ⟨u, fu, hu⟩ := Feas.extend g k f' (by rw [List.length_cons]; omega)
    refine ⟨u ++ [i], ?_, by rw [List.length_append, hu]; rfl⟩
    rw [List.append_assoc]
    exact fu
theorem Growth.full (g : Growth ws (all ws)) : ∃ w, Full ws w := by
  obtain ⟨u, f, _⟩ := Feas.extend g _ (t := []) .nil rfl
  exact ⟨_, f⟩

/-! ### behind how many walls a room is cut off -/
open Classical in
noncomputable def cutL (ws : List Wl) (r : Nat) : List Nat → Nat
  | [] => 0
  | i :: t => if Join ws (i :: t) r then cutL ws r t + 1 else 0
theorem cutL_le : ∀ w : List Nat, cutL ws r w ≤ w.length
  | [] => Nat.le_refl _
  | i :: t => by
    unfold cutL
    have := cutL_le t
    rw [List.length_cons]
    split <;> omega
theorem cutL_in : ∀ (w : List Nat) (m : Nat), m < cutL ws r w → Join ws (w.drop m) r
  | [], m, h => by unfold cutL at h; omega
  | i :: t, m, h => by
    unfold cutL at h
    split at h
    · rename_i hj
      cases m with
      | zero => exact hj
      | succ m => exact cutL_in t m (by omega)
    · omega
theorem cutL_out (h0 : r ≠ 0) : ∀ w : List Nat, ¬ Join ws (w.drop (cutL ws r w)) r
  | [], h => h0 h.nil
  | i :: t, h => by
    unfold cutL at h
    split at h
    · exact cutL_out h0 t h
    · rename_i hj
      exact hj h
/-- the number is told by what stands below it, and at it -/
theorem cutL_is (h0 : r ≠ 0) {w : List Nat} {m : Nat} (h1 : ¬ Join ws (w.drop m) r) (h2 : ∀ k, k < m → Join ws (w.drop k) r) : cutL ws r w = m := by
  rcases Nat.lt_trichotomy (cutL ws r w) m with h | h | h
  · exact absurd (h2 _ h) (cutL_out h0 w)
  · exact h
  · exact absurd (cutL_in w m h) h1
theorem drop_sub (w : List Nat) {m k : Nat} (h : k ≤ m) : ∀ i, i ∈ w.drop m → i ∈ w.drop k := fun i hi => by
  have e : w.drop m = (w.drop k).drop (m - k) := by
    rw [List.drop_drop]
    congr 1
    omega
  rw [e] at hi
  exact List.mem_of_mem_drop hi
theorem cutL_gt (h0 : r ≠ 0) {w : List Nat} {m : Nat} (h : Join ws (w.drop m) r) : m < cutL ws r w := by
  refine Nat.lt_of_not_le fun hl => cutL_out (ws := ws) h0 w ?_
  exact h.mono (drop_sub w hl)
theorem cutL_lek {w : List Nat} {m : Nat} (h : ¬ Join ws (w.drop m) r) : cutL ws r w ≤ m :=
  Nat.le_of_not_lt fun hl => h (cutL_in w m hl)

/-- least: k the most walls of an open lot that does not join the room -/
theorem cut_least (g : Growth ws (all ws)) (h0 : r ≠ 0) {k : Nat} (h1 : ∃ t, Feas ws t ∧ ¬ Join ws t r ∧ t.length = k) (h2 : ∀ t, Feas ws t → ¬ Join ws t r → t.length ≤ k) :
    (∃ w, Full ws w ∧ cutL ws r w = ws.length - k) ∧ ∀ w, Full ws w → ws.length - k ≤ cutL ws r w := by
  have low : ∀ w, Full ws w → ws.length - k ≤ cutL ws r w := fun w f => by
    have := h2 _ (f.1.drop (cutL ws r w)) (cutL_out h0 w)
    rw [List.length_drop, f.2] at this
    omega
  refine ⟨?_, low⟩
  obtain ⟨t, ft, hj, hk⟩ := h1
  obtain ⟨u, f, hu⟩ := ft.extend g _ rfl
  refine ⟨_, f, Nat.le_antisymm ?_ (low _ f)⟩
  refine cutL_lek ?_
  rw [← hk, ← hu, List.drop_left]
  exact hj
/-- greatest: k the fewest walls of an open lot that joins the room -/
theorem cut_greatest (g : Growth ws (all ws)) (h0 : r ≠ 0) {k : Nat} (h1 : ∃ t, Feas ws t ∧ Join ws t r ∧ t.length = k) (h2 : ∀ t, Feas ws t → Join ws t r → k ≤ t.length) :
    (∃ w, Full ws w ∧ cutL ws r w = ws.length - k + 1) ∧ ∀ w, Full ws w → cutL ws r w ≤ ws.length - k + 1 := by
  have up : ∀ w, Full ws w → cutL ws r w ≤ ws.length - k + 1 := fun w f => by
    rcases Nat.eq_zero_or_pos (cutL ws r w) with e | e
    · omega
    · have := h2 _ (f.1.drop (cutL ws r w - 1)) (cutL_in w _ (by omega))
      rw [List.length_drop, f.2] at this
      have := cutL_le (ws := ws) (r := r) w
      rw [f.2] at this
      omega
  refine ⟨?_, up⟩
  obtain ⟨t, ft, hj, hk⟩ := h1
  obtain ⟨u, f, hu⟩ := ft.extend g _ rfl
  refine ⟨_, f, Nat.le_antisymm (up _ f) ?_⟩
  have := cutL_gt (w := u ++ t) (m := u.length) h0 (by rw [List.drop_left]; exact hj)
  omega
theorem cut_never (h2 : ∀ t, Feas ws t → ¬ Join ws t r) {w : List Nat} (f : Full ws w) : cutL ws r w = 0 :=
  Nat.le_zero.mp (cutL_lek (h2 w f.1))

/-! ### all numbers between -/
def mix (w s : List Nat) : List Nat := w.filter (fun i => decide (i ∉ s)) ++ s
theorem feas_filter {w : List Nat} (fw : Feas ws w) {s : List Nat} (fs : Feas ws s) : Feas ws (mix w s) := by
  induction fw with
  | nil => exact fs
  | @cons i t ft hl hn hr ih =>
    unfold mix
    rw [List.filter_cons]
    by_cases hs : i ∈ s
    · rw [if_neg (by simp [hs])]
      exact ih
    · rw [if_pos (by simp [hs])]
      refine .cons ih hl (fun hm => ?_) (hr.mono fun j hj => ?_)
      · rcases List.mem_append.mp hm with hm | hm
        · exact hn (List.mem_filter.mp hm).1
        · exact hs hm
      · by_cases hj' : j ∈ s
        · exact List.mem_append_right _ hj'
        · exact List.mem_append_left _ (List.mem_filter.mpr ⟨hj, by simp [hj']⟩)
theorem mix_full {w : List Nat} (fw : Full ws w) {s : List Nat} (fs : Feas ws s) : Full ws (mix w s) := by
  have f := feas_filter fw.1 fs
  refine ⟨f, Nat.le_antisymm f.length_le ?_⟩
  have := sub_len (List.range ws.length) (mix w s) List.nodup_range fun i hi => by
    have hw := fw.mem (List.mem_range.mp hi)
    by_cases hs : i ∈ s
    · exact List.mem_append_right _ hs
    · exact List.mem_append_left _ (List.mem_filter.mpr ⟨hw, by simp [hs]⟩)
  rwa [List.length_range] at this
theorem drop_mem_app (A B : List Nat) (m : Nat) : ∀ i, i ∈ (A ++ B).drop m ↔ i ∈ A.drop m ∨ i ∈ B.drop (m - A.length) := fun i => by
  rw [List.drop_append]
  exact List.mem_append
theorem swap_drop (A B s : List Nat) (x : Nat) (m : Nat) : ∀ i, i ∈ (A ++ x :: B ++ s).drop (m + 1) → i ∈ (A ++ B ++ x :: s).drop m := by
  intro i hi
  have e1 : A ++ x :: B ++ s = A ++ (x :: (B ++ s)) := by simp
  have e2 : A ++ B ++ x :: s = A ++ (B ++ x :: s) := by simp
  rw [e1] at hi
  rw [e2]
  rcases (drop_mem_app _ _ _ _).mp hi with h | h
  · exact (drop_mem_app _ _ _ _).mpr (.inl (drop_sub A (Nat.le_succ m) i h))
  · refine (drop_mem_app _ _ _ _).mpr (.inr ?_)
    by_cases hm : A.length ≤ m
    · have e : m + 1 - A.length = (m - A.length) + 1 := by omega
      rw [e, List.drop_succ_cons] at h
      rcases (drop_mem_app _ _ _ _).mp h with h | h
      · exact (drop_mem_app _ _ _ _).mpr (.inl h)
      · refine (drop_mem_app _ _ _ _).mpr (.inr ?_)
        cases hk : m - A.length - B.length with
        | zero => rw [hk] at h; exact List.mem_cons_of_mem _ h
        | succ k =>
          rw [hk] at h
          rw [List.drop_succ_cons]
          exact drop_sub s (Nat.le_succ k) i h
    · have e : m - A.length = 0 := by omega
      rw [e, List.drop_zero]
      have h' := List.mem_of_mem_drop h
      simp only [List.mem_cons, List.mem_append] at h' ⊢
      rcases h' with h' | h' | h'
      · exact .inr (.inl h')
      · exact .inl h'
      · exact .inr (.inr h')
theorem mix_step (h0 : r ≠ 0) {w s : List Nat} {x : Nat} (hw : w.Nodup) (hx : x ∈ w) (hs : x ∉ s) : cutL ws r (mix w s) ≤ cutL ws r (mix w (x :: s)) + 1 := by
  have hm : x ∈ w.filter (fun i => decide (i ∉ s)) := List.mem_filter.mpr ⟨hx, by simp [hs]⟩
  obtain ⟨A, B, e⟩ := List.append_of_mem hm
  have nd : (A ++ x :: B).Nodup := by rw [← e]; exact hw.filter _
  have e2 : w.filter (fun i => decide (i ∉ x :: s)) = A ++ B := by
    have e3 : w.filter (fun i => decide (i ∉ x :: s)) = (w.filter (fun i => decide (i ∉ s))).filter (fun i => decide (i ≠ x)) := by
      rw [List.filter_filter]
      refine List.filter_congr fun i _ => ?_
      by_cases h1 : i = x <;> by_cases h2 : i ∈ s <;> simp [h1, h2]
    rw [e3, e, List.filter_append, List.filter_cons, if_neg (by simp)]
    have ndA := List.nodup_append.mp nd
    have hA : A.filter (fun i => decide (i ≠ x)) = A := List.filter_eq_self.mpr fun i hi => by
      have := ndA.2.2 i hi x List.mem_cons_self
      simp [this]
    have hB : B.filter (fun i => decide (i ≠ x)) = B := List.filter_eq_self.mpr fun i hi => by
      have h3 := (List.nodup_cons.mp ndA.2.1).1
      have : i ≠ x := fun z => h3 (z ▸ hi)
      simp [this]
    rw [hA, hB]
  have m1 : mix w s = A ++ x :: B ++ s := by unfold mix; rw [e]
  have m2 : mix w (x :: s) = A ++ B ++ x :: s := by unfold mix; rw [e2]
  refine Nat.le_of_not_lt fun hl => ?_
  have hj := cutL_in (ws := ws) (r := r) (mix w s) (cutL ws r (mix w (x :: s)) + 1) (by omega)
  refine cutL_out (ws := ws) h0 (mix w (x :: s)) ?_
  rw [m1] at hj
  have := hj.mono (l' := (mix w (x :: s)).drop (cutL ws r (mix w (x :: s)))) fun i hi => by
    rw [m2] at hi ⊢
    exact swap_drop A B s x _ i hi
  exact this
/-- each number between two that occur occurs -/
theorem cut_between (h0 : r ≠ 0) {w w' : List Nat} (fw : Full ws w) (fw' : Full ws w') {c : Nat} (h1 : cutL ws r w' ≤ c) (h2 : c ≤ cutL ws r w) : ∃ v, Full ws v ∧ cutL ws r v = c := by
  -- from mix w [] = w on to mix w w' = w'
  have key : ∀ s : List Nat, Feas ws s → cutL ws r (mix w s) ≤ c → ∃ v, Full ws v ∧ cutL ws r v = c := by
    intro s
    induction s with
    | nil =>
      intro _ h
      refine ⟨w, fw, Nat.le_antisymm ?_ h2⟩
      have e : mix w [] = w := by unfold mix; simp
      rwa [e] at h
    | cons x s ih =>
      intro fs h
      cases fs with
      | cons fs' hl hn hr =>
        by_cases hc : cutL ws r (mix w s) ≤ c
        · exact ih fs' hc
        · have := mix_step (ws := ws) h0 fw.1.nodup (fw.mem hl) hn
          exact ⟨mix w (x :: s), mix_full fw (.cons fs' hl hn hr), by omega⟩
  refine key w' fw'.1 ?_
  have e : mix w w' = w' := by
    unfold mix
    have : w.filter (fun i => decide (i ∉ w')) = [] := List.filter_eq_nil_iff.mpr fun i hi => by
      have := fw'.mem (fw.1.lt i hi)
      simp [this]
    rw [this]
    rfl
  rwa [e]
/-- two rooms are cut off together in all orders, if and only if no open lot tells them apart -/
theorem cut_both {q : Nat} (g : Growth ws (all ws)) (h0 : r ≠ 0) (h0' : q ≠ 0) : (∀ t, Feas ws t → (Join ws t r ↔ Join ws t q)) ↔ ∀ w, Full ws w → cutL ws r w = cutL ws q w := by
  constructor
  · intro h w f
    refine cutL_is h0 (fun z => ?_) fun k hk => ?_
    · exact cutL_out h0' w ((h _ (f.1.drop _)).mp z)
    · exact (h _ (f.1.drop _)).mpr (cutL_in w k hk)
  · intro h t ft
    obtain ⟨u, f, hu⟩ := ft.extend g _ rfl
    have e := h _ f
    have a : Join ws t r ↔ u.length < cutL ws r (u ++ t) := by
      constructor
      · intro z
        exact cutL_gt h0 (by rw [List.drop_left]; exact z)
      · intro z
        have := cutL_in (ws := ws) (r := r) (u ++ t) u.length z
        rwa [List.drop_left] at this
    have b : Join ws t q ↔ u.length < cutL ws q (u ++ t) := by
      constructor
      · intro z
        exact cutL_gt h0' (by rw [List.drop_left]; exact z)
      · intro z
        have := cutL_in (ws := ws) (r := q) (u ++ t) u.length z
        rwa [List.drop_left] at this
    rw [a, b, e]
end
end W35
end

section
set_option maxRecDepth 100000
set_option maxHeartbeats 4000000
/-! Rules that the layer lacks: sorted of a tuple, of a dict keyed by tuples, of tuples of ints without a bound on their number; enumerate of a tuple; set of a list of ints. -/
namespace W35R
open PySem PySem.Spec PyProof.Rows L2 SrtO

section
variable {prog : Program} {w : World} {A : Around} {E : Value → Shared → Prop} {s : Shared}

/-- the collected list of a tuple -/
theorem collect_tup {l : Addr} {vs : List Value} {Q : List Value → Shared → Prop} (hl : IsTup s.heap l vs.toArray) (hz : vs.length ≤ sizeLine)
    (h : ∀ g : Heap, (∀ b o, s.heap.get? b = some o → g.get? b = some o) → s.heap.objs.size ≤ g.objs.size → Q vs { s with heap := g }) : wpAny (model prog w) A (collect (.ref l)) Q E s := by
  obtain ⟨o, ho, hc, n, hd⟩ := hl
  unfold collect
  refine wpAny_bind (wpAny_runValue (codeAny_builtin entry_proto_collect' ?_))
  show wpAny _ _ (newList [] >>= fun m => again (.builtin "list.__iadd__" ⟨[m, .ref l], []⟩)) _ _ s
  refine wpAny_bind (wpAny_newList (wpAny_pure ⟨Code.quiet_builtin _ (by decide +kernel), codeAny_builtin entry_list_iadd' ?_⟩))
  have hn : (s.heap.push (seqObj "list" #[] 0)).get? s.heap.objs.size = some (seqObj "list" #[] 0) := Heap.get?_push_size _ rfl
  have ho' : (s.heap.push (seqObj "list" #[] 0)).get? l = some o := Heap.get?_push_of_some _ ho
  show wpAny _ _ (Builtin.List.listExtendWith (.ref s.heap.objs.size) (.ref l) (.ref s.heap.objs.size)) _ _ { s with heap := s.heap.push (seqObj "list" #[] 0) }
  unfold Builtin.List.listExtendWith
  refine wpAny_bind (wpAny_typeOf (T := "tuple") ⟨o, ho', hc⟩ ?_)
  have ht : (Value.type "tuple" == Value.type "tuple") = true := rfl
  rw [if_pos (by rw [ht]; simp)]
  refine wpAny_bind (listItems_at ho' hd (wpAny_bind (listItems_at hn rfl ?_)))
  rw [if_neg (by simp)]
  refine wpAny_bind (listUpdate_at hn rfl ?_ (Nat.zero_le _) (by show (#[] ++ vs.toArray).size ≤ sizeLine + 1; simp only [Array.size_append, List.size_toArray, List.length_nil]; omega))
  refine wpAny_pure ?_
  show wpAny _ _ (load s.heap.objs.size >>= _) _ _ _
  refine wpAny_bind (wpAny_load (get?_update_seq hn _) ?_)
  show wpAny _ _ (pure ((#[] : Array Value) ++ vs.toArray).toList) Q E _
  rw [show ((#[] : Array Value) ++ vs.toArray).toList = vs by simp]
  refine wpAny_pure (h _ (fun b u e => ?_) ?_)
  · rw [Heap.get?_update_ne _ _ _ _ (Nat.ne_of_lt (Heap.lt_size e))]
    exact Heap.get?_push_of_some _ e
  · rw [Heap.size_update, size_push']
    exact Nat.le_succ _
/-- the collected list of any source of the library's list(..) -/
theorem collect_src {T : String} {r d : Addr} {n : Nat} {P : Nat → Value → Prop} {OK : Heap → Prop} {Q : List Value → Shared → Prop} (K : PySem.W.KdlSrc prog w T r d n P OK) (hh : A.handled = none) (hok : OK s.heap) (hn : n ≤ sizeLine)
    (h : ∀ (g : Heap) (tk : Nat) (acc : Array Value), ItemsOf P acc n → (∀ b o, s.heap.get? b = some o → g.get? b = some o) → s.heap.objs.size ≤ g.objs.size → Q acc.toList { s with heap := g, toks := tk }) :
    wpAny (model prog w) A (collect (.ref r)) Q E s := by
  unfold collect
  refine wpAny_bind (wpAny_runValue (codeAny_builtin entry_proto_collect' ?_))
  show wpAny _ _ (newList [] >>= fun m => again (.builtin "list.__iadd__" ⟨[m, .ref r], []⟩)) _ _ s
  refine wpAny_bind (wpAny_newList (wpAny_pure ⟨Code.quiet_builtin _ (by decide +kernel), codeAny_builtin entry_list_iadd' ?_⟩))
  have hS : (s.heap.push (seqObj "list" #[] 0)).get? s.heap.objs.size = some { cls := .type "list", data := .seq #[] 0 } := Heap.get?_push_size _ rfl
  show wpAny _ _ (Builtin.List.listExtendWith (.ref s.heap.objs.size) (.ref r) (.ref s.heap.objs.size)) _ _ { s with heap := s.heap.push (seqObj "list" #[] 0) }
  have lt := K.there _ hok
  have fin : ∀ (g : Heap) (tk : Nat) (acc : Array Value) (c : Nat), (∀ b o, b ≠ s.heap.objs.size → (s.heap.push (seqObj "list" #[] 0)).get? b = some o → g.get? b = some o) →
      g.get? s.heap.objs.size = some { cls := .type "list", dict := none, data := .seq acc c, slots := #[] } → ItemsOf P acc n →
      wpAny (model prog w) A (load s.heap.objs.size >>= fun o => match o.data with
          | .seq xs _ => pure xs.toList
          | _ => unsupported "internal:collect") Q E { s with heap := g, toks := tk } := fun g tk acc c hk e hi =>
    wpAny_bind (wpAny_load e (wpAny_pure (h g tk acc hi (fun b o q => hk b o (Nat.ne_of_lt (Heap.lt_size q)) (Heap.get?_push_of_some _ q)) (Nat.le_of_lt (Heap.lt_size e)))))
  refine wpAny_mono (PySem.W.kdl_extend (A := A) (R := fun rr s' => rr = .ok (.ret (.ref s.heap.objs.size)) ∧ ∃ (g : Heap) (tk : Nat) (acc : Array Value) (c : Nat), s' = { s with heap := g, toks := tk } ∧
      (∀ b o, b ≠ s.heap.objs.size → (s.heap.push (seqObj "list" #[] 0)).get? b = some o → g.get? b = some o) ∧ g.get? s.heap.objs.size = some { cls := .type "list", dict := none, data := .seq acc c, slots := #[] } ∧ ItemsOf P acc n)
    (s := { s with heap := s.heap.push (seqObj "list" #[] 0) }) K hh (K.keep _ _ hok fun b _ o e => Heap.get?_push_of_some _ e) s.heap.objs.size (Nat.ne_of_gt lt.1) (Nat.ne_of_gt lt.2) (.ref s.heap.objs.size) 0 hS
    (fun g tk acc c hk e hi => ⟨rfl, g, tk, acc, c, rfl, hk, e, hi⟩) hn) (fun f s' q => ?_) (fun e s' q => ?_)
  · cases f with
    | done f =>
      obtain ⟨e, g, tk, acc, c, rfl, a1, a2, a3⟩ := q
      cases e
      exact fin g tk acc c a1 a2 a3
    | again c' =>
      refine ⟨q.1, codeAny_mono q.2 fun rr s'' q' => ?_⟩
      obtain ⟨rfl, g, tk, acc, c, rfl, a1, a2, a3⟩ := q'
      exact fin g tk acc c a1 a2 a3
  · exact absurd q.1 (by simp)

/-- sorted(x), x anything that is collected into vs -/
theorem sorted_any {x : Addr} {vs : List Value} {ltv : Value → Value → Bool} {Q : Value → Shared → Prop} (O : Swo ltv) (hz : vs.length ≤ sizeLine)
    (hc : ∀ (Q' : List Value → Shared → Prop) (E' : Value → Shared → Prop),
      (∀ (g : Heap) (tk : Nat), (∀ b o, s.heap.get? b = some o → g.get? b = some o) → s.heap.objs.size ≤ g.objs.size → Q' vs { s with heap := g, toks := tk }) → wpAny (model prog w) A.in1 (collect (.ref x)) Q' E' s)
    (hS : 2 ≤ vs.length → ∀ (g : Heap) (tk : Nat) (a : Addr), g.get? a = some (seqObj "list" vs.toArray 0) → (∀ b o, s.heap.get? b = some o → b ≠ a ∧ g.get? b = some o) →
      SortableO prog w A.in1.in1 { s with heap := g, toks := tk } a vs ltv)
    (h : ∀ (out : List Value) (g : Heap) (tk : Nat) (d : Addr) (n : Nat), Srtd ltv out → Stb ltv out vs → (∀ b o, s.heap.get? b = some o → g.get? b = some o) → s.heap.objs.size ≤ d →
      g.get? d = some (seqObj "list" out.toArray n) → Q (.ref d) { s with heap := g, toks := tk }) :
    wpAny (model prog w) A (call (.builtin "sorted") [.ref x]) Q E s := by
  refine Calls.call_function_entry kind_sorted plain_sorted entry_sorted (args_sorted1 _) ?_
  unfold Builtin.«sorted»
  refine wpAny_bind (m := checkCount "sorted" 1 1 _) (wpAny_pure ?_)
  refine wpAny_bind (hc _ _ fun g tk kp hle => ?_)
  refine wpAny_bind (wpAny_newList ?_ hz)
  have hoL : (g.push (seqObj "list" vs.toArray 0)).get? g.objs.size = some (seqObj "list" vs.toArray 0) := Heap.get?_push_size _ rfl
  have keep : ∀ b o, s.heap.get? b = some o → b ≠ g.objs.size ∧ (g.push (seqObj "list" vs.toArray 0)).get? b = some o := fun b o q =>
    ⟨Nat.ne_of_lt (Heap.lt_size (kp b o q)), Heap.get?_push_of_some _ (kp b o q)⟩
  show wpAny _ _ _ _ _ { s with heap := g.push (seqObj "list" vs.toArray 0), toks := tk }
  refine wpAny_bind (wpAny_holding (wpAny_call_entry slot_list_sort ⟨_, hoL, rfl⟩ entry_list_sort
    (list_sort_ord O hoL hz (fun h2 => hS h2 _ _ _ hoL keep) fun out hs hb => ⟨_, rfl, ?_⟩) (args_list_sort _)))
  obtain ⟨n, hn⟩ := sortedHeap_at (vs := vs) (out := out.toArray) hoL
  refine wpAny_pure ⟨_, rfl, h out _ tk g.objs.size n hs hb (fun b o e => ?_) hle hn⟩
  have hlt := Heap.lt_size (kp b o e)
  show (sortedHeap (g.push (seqObj "list" vs.toArray 0)) g.objs.size vs out.toArray).get? b = some o
  rw [sortedHeap_old (Nat.ne_of_lt hlt) (by rw [size_push']; exact Nat.lt_succ_of_lt hlt)]
  exact Heap.get?_push_of_some _ (kp b o e)

/-- tuples of d ints each from 0 to below B, by their numbers in base B -/
def ltT (h : Heap) (B : Int) (v u : Value) : Bool := decide (TS.code B (TS.intsOf h v) < TS.code B (TS.intsOf h u))
theorem swo_tup (h : Heap) (B : Int) : Swo (ltT h B) := by
  refine ⟨fun x y e => ?_, fun x y z e1 e2 => ?_⟩
  · have a := of_decide_eq_true (p := TS.code B (TS.intsOf h x) < TS.code B (TS.intsOf h y)) e
    exact decide_eq_false (p := TS.code B (TS.intsOf h y) < TS.code B (TS.intsOf h x)) (by omega)
  · have a := of_decide_eq_false (p := TS.code B (TS.intsOf h y) < TS.code B (TS.intsOf h x)) e1
    have b := of_decide_eq_false (p := TS.code B (TS.intsOf h z) < TS.code B (TS.intsOf h y)) e2
    exact decide_eq_false (p := TS.code B (TS.intsOf h z) < TS.code B (TS.intsOf h x)) (by omega)
theorem tups_sortable {h0 : Heap} {a : Addr} {vs : List Value} {d : Nat} {B : Int} (hd : 1 ≤ d) (h2 : 2 ≤ vs.length) (x : TS.TupsOk s.heap d B vs) (hr : ∀ v ∈ vs, TS.intsOf h0 v = TS.intsOf s.heap v)
    (ha : ∀ o, s.heap.get? a = some o → o.cls ≠ .type "tuple") : SortableO prog w A s a vs (ltT h0 B) := by
  intro g keep
  have kt : ∀ b o, s.heap.get? b = some o → o.cls = .type "tuple" → g.get? b = some o := fun b o e c => keep b o (fun z => by subst z; exact ha o e c) e
  have y : TS.TupsOk g d B vs := x.keeps kt
  obtain ⟨fs, k, hl, hi⟩ := TS.firsts_of hd vs y
  have rk : ∀ v ∈ vs, ∀ ns, TS.TupInts g v ns → TS.intsOf h0 v = ns := fun v hv ns t => by
    obtain ⟨ns0, t0, _⟩ := x v hv
    rw [hr v hv, t0.ints, ← (t0.keeps kt).ints, t.ints]
  refine ⟨tuples' true, fun Q E hq => ?_, fun p q hp hq => ?_⟩
  · refine PySem.W.kat_kind (T := .type "int") k (by omega) (fun f hf => ?_) rfl ?_
    · obtain ⟨n, t, rfl⟩ := hi f hf
      exact PySem.W.Looks.of_pure rfl
    · have e : (Value.type "int" != Value.type "tuple") = true := by first | decide +kernel | rfl
      rw [e]
      exact hq
  · obtain ⟨ns, tp, lp, bp⟩ := y _ hp
    obtain ⟨ms, tq, lq, bq⟩ := y _ hq
    have ep := rk _ hp _ tp
    have eq2 := rk _ hq _ tq
    have key : lt2 (ltT h0 B) p q = decide (TS.code B ns < TS.code B ms) := by
      show decide (TS.code B (TS.intsOf h0 p.1) < TS.code B (TS.intsOf h0 q.1)) = _
      rw [ep, eq2]
    rw [key]
    obtain ⟨a1, xs, e1, ⟨o1, ho1, _, n1, hd1⟩, i1⟩ := tp
    obtain ⟨a2, ys, e2, ⟨o2, ho2, _, n2, hd2⟩, i2⟩ := tq
    rw [e1, e2]
    refine PySem.W.kat_lt ho1 hd1 ho2 hd2 ?_
    have sz : decide (xs.size < ys.size) = false := by
      have l1 := i1.length
      have l2 := i2.length
      rw [Array.length_toList] at l1 l2
      exact decide_eq_false (by omega)
    rw [sz]
    exact TS.lex_ints 0 i1 i2 (by omega) bp bq ⟨rfl, rfl⟩
end

section
variable {X : Cx}
/-- sorted(xs), xs a list of tuples of d ints each in [0, B), any number of them: a new list of the same -/
def rSortTA (K : PySem.W.Frag) : List V → Hp → VK → Prop := fun vs H Q => ∃ (a : Addr) (xs : List V) (d : Nat) (B : Int), vs = [V.ref a] ∧ SqL K H a xs ∧ (1 ≤ d ∨ xs.length < 2) ∧ (∀ x ∈ xs, ∃ ns, TupI K H x ns ∧ ns.length = d ∧ TS.Bd B ns) ∧
  ∀ (ys : List V) (p : Addr), ys.Perm xs → H p = none → Q (.ref p) (upd H p (.lst ys))
theorem sort_back {pins : List (Addr × Obj)} {s : Shared} {σ : L2.St} {H : Hp} {vs its : List Value} {xs : List V} {lt : Value → Value → Bool} {Q : VK} (I : Inv X pins σ H s) (e1 : xs = its.map bkV) (e2 : ∀ u ∈ its, ∃ a, u = Value.ref a) (hz : xs.length ≤ sizeLine)
    (q : ∀ (ys : List V) (p : Addr), ys.Perm xs → H p = none → Q (.ref p) (upd H p (.lst ys))) (out : List Value) (g : Heap) (tk : Nat) (d : Addr) (n : Nat) (h2 : Stb lt out its) (kp : ∀ b o, s.heap.get? b = some o → g.get? b = some o)
    (hle : s.heap.objs.size ≤ d) (hg : g.get? d = some (seqObj "list" out.toArray n)) : EP X pins σ Q (.ref d) { s with heap := g, toks := tk } := by
  have h3 : ∀ u ∈ out, ∃ a, u = Value.ref a := fun u hu => e2 u (h2.perm.mem_iff.mp hu)
  have hp : (out.map bkV).Perm xs := by
    rw [e1]
    exact h2.perm.map bkV
  have hlen : (out.map bkV).length ≤ sizeLine := by
    rw [hp.length_eq]
    exact hz
  exact ⟨.ref d, upd H d (.lst (out.map bkV)), I.laid (t' := tk) kp hle ⟨hlen, out, n, bkV_vals h3, hg⟩, rfl, q _ _ hp (I.hok.fresh hle)⟩
theorem cr_sortTA : CallR X (.builtin "sorted") (rSortTA X.K) := by
  intro pins s σ H vs us Q I r h
  obtain ⟨a, xs, d, B, rfl, hs, hd, hx, q⟩ := h
  obtain ⟨its, rv, hl, hz⟩ := I.list hs
  rw [Vals.ref1 r]
  obtain ⟨e1, e2⟩ := bkV_refs rv fun x m => by
    obtain ⟨ns, ⟨t, e, _⟩, _⟩ := hx x m
    exact ⟨t, e⟩
  have tok : TS.TupsOk s.heap d B its := fun v hv => by
    obtain ⟨t, rfl⟩ := e2 v hv
    have hm : V.ref t ∈ xs := by
      rw [e1]
      exact List.mem_map.mpr ⟨_, hv, rfl⟩
    obtain ⟨ns, ⟨t', e, ht⟩, hn, hb⟩ := hx _ hm
    cases e
    exact ⟨ns, tupI_raw I ht, hn, hb⟩
  refine sorted_any (swo_tup s.heap B) (by rw [← rv.length]; exact hz) (fun Q' E' hq => collect_list hl.isList (hq _ s.toks (fun b o e => ?_) ?_) (by rw [← rv.length]; exact hz)) (fun h2 g tk c hc kk => ?_)
    (fun out g tk p n _ h2 kp hle hg => sort_back (vs := its) I e1 e2 hz q out g tk p n h2 kp hle hg)
  · rw [Heap.get?_update_ne _ _ _ _ (Nat.ne_of_lt (Heap.lt_size e))]
    exact Heap.get?_push_of_some _ e
  · rw [Heap.size_update, size_push']
    exact Nat.le_succ _
  · have kt : ∀ b o, s.heap.get? b = some o → o.cls = .type "tuple" → g.get? b = some o := fun b o e _ => (kk b o e).2
    have h1 : 1 ≤ d := by
      rcases hd with z | z
      · exact z
      · rw [rv.length] at z; omega
    refine tups_sortable (s := { s with heap := g, toks := tk }) h1 h2 (tok.keeps kt) (fun v hv => ?_) fun o e => ?_
    · obtain ⟨ns, t, _⟩ := tok v hv
      rw [t.ints, (t.keeps kt).ints]
    · have e' : some o = some (seqObj "list" its.toArray 0) := e.symm.trans hc
      cases e'
      intro z
      exact absurd (Value.type.inj z) (by decide)
/-- sorted(t), t a tuple of ints -/
def rSortTI (K : PySem.W.Frag) : List V → Hp → VK → Prop := fun vs H Q => ∃ (a : Addr) (ns : List Int), vs = [V.ref a] ∧ SqT K H a (ns.map V.int) ∧
  ∀ (ms : List Int) (p : Addr), ms.Perm ns → ms.Pairwise (· ≤ ·) → H p = none → Q (.ref p) (upd H p (.lst (ms.map V.int)))
theorem cr_sortTI : CallR X (.builtin "sorted") (rSortTI X.K) := by
  intro pins s σ H vs us Q I r h
  obtain ⟨a, ns, rfl, hs, q⟩ := h
  obtain ⟨its, rv, hl, hz⟩ := I.tuple hs
  rw [Vals.ref1 r]
  have hi := rv.ints
  have hz' : its.length ≤ sizeLine := by rw [← rv.length]; exact hz
  refine sorted_any swo_int hz' (fun Q' E' hq => collect_tup hl hz' fun g k1 k2 => hq g s.toks k1 k2) (fun h2 g tk c _ _ => SrtO.ints_sortable hi h2) fun out g tk d n h1 h2 kp hle hg => ?_
  obtain ⟨k1, k2, k3⟩ := SrtO.ints_out hi h1 h2
  have hlen : ((out.map SrtO.iv).map V.int).length ≤ sizeLine := by
    rw [List.length_map, k2.length_eq]
    rw [List.length_map] at hz
    exact hz
  exact ⟨.ref d, upd H d (.lst ((out.map SrtO.iv).map V.int)), I.laid (t' := tk) kp hle ⟨hlen, out, n, vals_of_ints k1, hg⟩, rfl, q _ _ k2 k3 (I.hok.fresh hle)⟩
/-- sorted(d), d a dict keyed by tuples of dd ints each in [0, B): a new list of its key tuples -/
def rSortDT : List V → Hp → VK → Prop := fun vs H Q => ∃ (a : Addr) (kvs : List (List Key × V)) (dd : Nat) (B : Int), vs = [V.ref a] ∧ H a = some (.dT kvs) ∧ 1 ≤ dd ∧
  (∀ p ∈ kvs, ∃ ns : List Int, p.1 = ns.map Sum.inl ∧ ns.length = dd ∧ TS.Bd B ns) ∧
  ∀ (bs : List Addr) (ys : List V) (p : Addr), IsKeys H kvs bs → ys.Perm (bs.map V.ref) → H p = none → Q (.ref p) (upd H p (.lst ys))
theorem kV_ints (ns : List Int) : (ns.map (Sum.inl : Int → Key)).map kV = ns.map V.int := by
  rw [List.map_map]
  rfl
theorem paired_mem {α β : Type} {F : α → β → Prop} : ∀ {l₁ : List α} {l₂ : List β} {y : β}, Paired F l₁ l₂ → y ∈ l₂ → ∃ x, x ∈ l₁ ∧ F x y
  | _, _, _, .nil, h => by cases h
  | _, _, y, .cons r t, h => by
    rcases List.mem_cons.mp h with e | h
    · rw [e]; exact ⟨_, List.mem_cons_self, r⟩
    · obtain ⟨x, a, b⟩ := paired_mem t h
      exact ⟨x, List.mem_cons_of_mem _ a, b⟩
theorem cr_sortDT (hc : X.calm = true) : CallR X (.builtin "sorted") rSortDT := by
  intro pins s σ H vs us Q I r h
  obtain ⟨d, kvs, dd, B, rfl, hd, h1, hk, q⟩ := h
  rw [Vals.ref1 r]
  obtain ⟨z, hs, ks, pr, o, es, ep, ho, hx, hdt, he, hn⟩ := (show ObjOk X.prog X.w H s.heap d (.dT kvs) from I.hok d _ hd)
  have l1 : es.size = ks.length := size_of_entries he
  have l2 : kvs.length = ks.length := Paired.length pr
  have keys : ∀ acc : Array Value, ItemsOf (fun i v => ∃ en : DictEntry, es[i]? = some en ∧ v = en.key) acc es.size → acc.toList = (ks.map fun x => x.2.1).map Value.ref := fun acc it => by
    apply List.ext_getElem?
    intro j
    rw [List.getElem?_map, List.getElem?_map]
    have hl : acc.toList.length = ks.length := by rw [Array.length_toList, it.1]; exact l1
    cases hj : acc.toList[j]? with
    | none =>
      have h1 := List.getElem?_eq_none_iff.mp hj
      rw [List.getElem?_eq_none (by omega)]
      all_goals rfl
    | some v =>
      obtain ⟨en, hen, hv⟩ := it.2 j v (by rw [← Array.getElem?_toList]; exact hj)
      have qe := entry_at he j
      rw [hen] at qe
      cases hb : ks[j]? with
      | none =>
        rw [hb] at qe
        exact nomatch (show some en = none from qe)
      | some b =>
        rw [hb] at qe
        have e2 : en = entryOfKey (tupleKind (mixKind X.prog X.w)) b := Option.some.inj qe
        rw [hv, e2]
        all_goals rfl
  have tok : TS.TupsOk s.heap dd B ((ks.map fun x => x.2.1).map Value.ref) := fun v hv => by
    obtain ⟨b, hb, rfl⟩ := List.mem_map.mp hv
    obtain ⟨x, hx, rfl⟩ := List.mem_map.mp hb
    obtain ⟨p, hp, e, ht, _⟩ := paired_mem pr hx
    obtain ⟨ns, e1, e2, e3⟩ := hk p hp
    refine ⟨ns, tupI_raw I (SqT.of ?_), e2, e3⟩
    rw [ht, e1, kV_ints]
  have hz' : ((ks.map fun x => x.2.1).map Value.ref).length ≤ sizeLine := by
    rw [List.length_map, List.length_map]
    omega
  have eb0 : ∀ l : List Addr, l.map V.ref = (l.map Value.ref).map bkV := fun l => by
    rw [List.map_map]
    rfl
  have eb := eb0 (ks.map fun x => x.2.1)
  refine sorted_any (swo_tup s.heap B) hz' (fun Q' E' hq => collect_src (kdl_raw hs hx hdt) (I.ok.hd hc) ho (by omega) fun g tk acc it k1 k2 => ?_) (fun h2 g tk c hc' kk => ?_)
    (fun out g tk p n _ h2 kp hle hg => sort_back (vs := []) I eb (fun u hu => ?_) (by rw [eb, List.length_map]; exact hz') (fun ys p' hp hf => q _ ys p' (isKeys_of pr) hp hf) out g tk p n h2 kp hle hg)
  · rw [keys acc it]
    exact hq g tk k1 k2
  · have kt : ∀ b o, s.heap.get? b = some o → o.cls = .type "tuple" → g.get? b = some o := fun b o e _ => (kk b o e).2
    refine tups_sortable (s := { s with heap := g, toks := tk }) h1 h2 (tok.keeps kt) (fun v hv => ?_) fun o e => ?_
    · obtain ⟨ns, t, _⟩ := tok v hv
      rw [t.ints, (t.keeps kt).ints]
    · have e' : some o = some (seqObj "list" _ 0) := e.symm.trans hc'
      cases e'
      intro z
      exact absurd (Value.type.inj z) (by decide)
  · obtain ⟨b, _, e⟩ := List.mem_map.mp hu
    exact ⟨b, e.symm⟩
end
end W35R
end

section
set_option maxRecDepth 100000
set_option maxHeartbeats 4000000
/-! set(l) of a list of ints; enumerate(t) of a tuple. -/
namespace W35R
open PySem PySem.Spec PyProof.Rows L2

section
variable {P : Program} {w : World} {A : Around} {E : Value → Shared → Prop} {s : Shared}
abbrev setNew (w : World) : Obj := { cls := .type "set", dict := none, data := .set #[] 0 (.fresh 0 0 (!w.params.followText "set-order")) }
/-- the set of a list of ints -/
theorem set_of_list {l : Addr} {its : List Value} (ns : List Int) {Q : Value → Shared → Prop} (hh : A.handled = none) (hl : s.heap.IsList l its.toArray) (hit : IntsAre its ns) (hb : ns.length + 1 < scanBound)
    (h : ∀ (g : Heap) (tk c : Nat), SetR w g s.heap.objs.size (fun j => decide (j ∈ ns)) c → c ≤ ns.length → (∀ b o, s.heap.get? b = some o → g.get? b = some o) → Q (.ref s.heap.objs.size) { s with heap := g, toks := tk }) :
    wpAny (model P w) A (call (.type "set") [.ref l]) Q E s := by
  have hlen : its.toArray.size = ns.length := by
    rw [List.size_toArray]
    exact IntsAre.length hit
  obtain ⟨c, tl, hmro⟩ := PySem.F.called_set.mro
  have hmade := PySem.F.called_set.made
  have hsub := PySem.F.called_set.sub
  refine wpAny_call (codeAny_of_tree ?_)
  show wpAny _ _ (callAny (.type "set") _) _ _ _
  refine wpAny_pure ⟨Code.quiet_builtin _ (by decide +kernel), codeAny_builtin PySem.F.entry_type_call ?_⟩
  rw [Around.under_plain (weight_type_call_type "set" [.ref l] []) rfl]
  have h1 := PySem.F.called_set.notType
  have h2 := PySem.F.called_set.canCreate
  have hct := PySem.F.typeCall_set_1 (.ref l)
  repeat (any_goals (first | assumption | wp_step))
  refine codeAny_mono (code_set_led1 (.ref l) (E := E) (Q₁ := fun obj t => obj = .ref s.heap.objs.size ∧ t = { s with heap := s.heap.push (setNew w) }) ⟨rfl, rfl⟩) fun r t hr => ?_
  cases r with
  | error e => exact hr
  | ok fl =>
    cases fl with
    | ret obj =>
      obtain ⟨rfl, rfl⟩ := hr
      have hS : (s.heap.push (setNew w)).get? s.heap.objs.size = some (setNew w) := Heap.get?_push_size _ rfl
      have hT : Shared.TypeIs { s with heap := s.heap.push (setNew w) } (.ref s.heap.objs.size) "set" := ⟨_, hS, rfl⟩
      have hli := PySem.F.called_set.init.lookup
      have hbi := PySem.F.called_set.init.bind (.ref s.heap.objs.size)
      repeat (any_goals (first | assumption | wp_step))
      refine codeAny_mono (codeAny_call_builtin (R := wants (fun r t => r = .none ∧ ∃ g tk c, t = { s with heap := g, toks := tk } ∧ SetR w g s.heap.objs.size (fun j => decide (j ∈ ns)) c ∧ c ≤ ns.length ∧
          (∀ b o, s.heap.get? b = some o → g.get? b = some o)) E) PySem.F.called_set.init.plain PySem.F.entry_set_init (check_set_init_1 hT ?_)) fun r₂ t₂ hr₂ => ?_
      · obtain ⟨⟨ocls, odict, odata, oslots⟩, hol, hcl, nl, hdl⟩ := hl
        simp only at hcl hdl
        subst hcl hdl
        have hol' : (s.heap.push (setNew w)).get? l = some { cls := .type "list", dict := odict, data := .seq its.toArray nl, slots := oslots } := Heap.get?_push_of_some _ hol
        have hsls := PySem.F.sub_list_set
        have hslf := PySem.F.sub_list_frozenset
        have hne : (Value.type "list" == Value.type "dict") = false := by decide
        have hl1 : (s.heap.push (setNew w)).IsList l its.toArray := ⟨_, hol', rfl, nl, rfl⟩
        unfold Builtin.«set.__init__» noKeywords Builtin.Frozenset.updateFrom
        generalize hPI : pyIter = PI
        wp_walk
        subst hPI
        refine wpAny_pyIter_list hl1 (wpAny_bind (wpAny_runValue ?_))
        have hlS : l < s.heap.objs.size := Heap.lt_size hol
        have hh3 : A.in1.in1.in1.handled = none := by simp [hh]
        have hz1 : (s.heap.push (setNew w)).objs.size = s.heap.objs.size + 1 := Heap.size_push ..
        have hneI : l ≠ (s.heap.push (setNew w)).objs.size := by
          rw [hz1]; exact Nat.ne_of_lt (Nat.lt_succ_of_lt hlS)
        have hSf : s.heap.objs.size ∉ [(s.heap.push (setNew w)).objs.size, l] := by
          rw [hz1]; simp only [List.mem_cons, List.not_mem_nil, or_false, not_or]
          exact ⟨Nat.ne_of_lt (Nat.lt_succ_self _), Nat.ne_of_gt hlS⟩
        have hval : ∀ (i : Nat) (v : Value), its.toArray[i]? = some v → ∃ k t, ns[i]? = some k ∧ v = .int k t := fun i v hv => by
          have hi : i < ns.length := by rw [← hlen]; exact (Array.getElem?_eq_some_iff.mp hv).1
          obtain ⟨t, e⟩ := PyProof.Rows.IntsAre.int_at hit i v (by simpa using hv)
          refine ⟨ns[i], t, List.getElem?_eq_getElem hi, ?_⟩
          rw [e, List.getD_eq_getElem?_getD, List.getElem?_eq_getElem hi] <;> rfl
        have hget : ((s.heap.push (setNew w)).push { cls := .type "list_iterator", data := .fields #[.ref l, .int 0 0] }).get? s.heap.objs.size = some (setNew w) := Heap.get?_push_of_some _ hS
        refine set_update_ints ((Walks.list hh3 _ l hneI its.toArray).toS) s.heap.objs.size hSf ns hlen hb hval (its.toArray.size - 0) 0 _ (by omega) (Nat.zero_le _)
          ⟨⟨_, Heap.get?_push_size _ rfl, rfl, rfl⟩, (hl1.push _)⟩ ⟨0, Nat.le_refl 0, setR_new_at hget⟩ fun s' c' hm hc' hS' => ?_
        obtain ⟨g, g2, d', tk', os'⟩ := s'
        have eg : g2 = s.gens := hm.gens
        have ed : d' = s.drawn := hm.drawn
        have eo : os' = s.os := hm.os
        subst eg; subst ed; subst eo
        show wpAny _ _ _ _ _ _
        refine wpAny_pure ?_
        show wpAny _ _ (ret Value.none) _ _ _
        rw [hlen] at hc'
        refine wpAny_pure ⟨rfl, g, tk', c', rfl, hS', hc', fun b o e => ?_⟩
        have hb0 : b < s.heap.objs.size := Heap.lt_size e
        refine hm.heap b o ?_ (Heap.get?_push_of_some _ (Heap.get?_push_of_some _ e))
        rw [hz1]
        simp only [List.mem_cons, List.not_mem_nil, or_false, not_or]
        exact ⟨Nat.ne_of_lt hb0, Nat.ne_of_lt (Nat.lt_succ_of_lt hb0)⟩
      · cases r₂ with
        | error e => exact hr₂
        | ok fl₂ =>
          cases fl₂ with
          | ret r =>
            obtain ⟨rfl, g, tk, c', rfl, hS', hc', hk'⟩ := hr₂
            repeat (any_goals (first | assumption | wp_step))
            exact h _ _ _ hS' hc' hk'
          | _ => exact hr₂.elim
    | _ => exact hr.elim
end
theorem in_len : ∀ (l D : List Int), l.Nodup → (∀ x ∈ l, x ∈ D) → l.length ≤ D.length
  | [], _, _, _ => Nat.zero_le _
  | a :: l, D, nd, h => by
    have nd' := List.nodup_cons.mp nd
    have h1 := in_len l (D.erase a) nd'.2 fun i hi => by
      refine (List.mem_erase_of_ne fun e => ?_).mpr (h i (List.mem_cons_of_mem _ hi))
      rw [e] at hi
      exact nd'.1 hi
    have h2 := List.length_erase_of_mem (h a List.mem_cons_self)
    have h3 : 0 < D.length := List.length_pos_of_mem (h a List.mem_cons_self)
    rw [List.length_cons]
    omega
section
variable {X : Cx}
/-- set(l), l a list of ints, all of them among D -/
def rSetLI (K : PySem.W.Frag) (w : World) : List V → Hp → VK → Prop := fun vs H Q => ∃ (a : Addr) (ns D : List Int), vs = [V.ref a] ∧ SqL K H a (ns.map V.int) ∧ ns.length ≤ 1000 ∧ (∀ x ∈ ns, x ∈ D) ∧
  ∀ (p : Addr) (n : Nat), n ≤ D.length → H p = none → Q (.ref p) (upd H p (SetO w p (fun j => decide (j ∈ ns)) n))
theorem cr_setLI (hc : X.calm = true) : CallR X (.type "set") (rSetLI X.K X.w) := by
  intro pins s σ H vs us Q I r h
  obtain ⟨a, ns, D, rfl, hs, hz, hD, q⟩ := h
  obtain ⟨its, rv, hl, _⟩ := I.list hs
  rw [Vals.ref1 r]
  refine set_of_list ns (I.ok.hd hc) hl.isList rv.ints (by unfold scanBound; omega) fun g tk c R _ kp => ?_
  have hn : c ≤ D.length := by
    obtain ⟨o, es, ep, t, _, _, _, _, nd, hm, _, _, hn, _⟩ := id R
    have h1 := in_len (es.toList.map keyOf) D nd fun x hx => hD x (of_decide_eq_true ((hm x).mpr hx))
    rw [List.length_map, Array.length_toList] at h1
    omega
  exact ⟨.ref s.heap.objs.size, upd H s.heap.objs.size (SetO X.w s.heap.objs.size (fun j => decide (j ∈ ns)) c), I.laid (t' := tk) kp (Nat.le_refl _) (setO_new R), rfl, q _ c hn (I.hok.fresh (Nat.le_refl _))⟩
end

/-! ### enumerate(t) -/
section
open AutoSeq1 (wpAny_loadPart')
theorem enum_new1 {v : Value} {o : Obj} {H : Heap → Prop} (B : Begins v o H) :
    Meets (Builtin.«enumerate.__new__» ⟨[.type "enumerate", v], []⟩) (fun _ R s => H s.heap ∧
      R (.ok (.ret (.ref (s.heap.push o).objs.size))) { s with heap := (s.heap.push o).push { cls := .type "enumerate", data := .fields #[.none, .bool false, .ref s.heap.objs.size, rawInt 0, .none, .none] } }) :=
  .of_wp fun prog w A R s h => by
    obtain ⟨hp, g, d, tk, os⟩ := s
    obtain ⟨h1, h⟩ := h
    have hsub := sub_enumerate
    have q1 : ∀ {A' : Around} {E : Value → Shared → Prop} {Q : Value → Shared → Prop}, Q (.ref hp.objs.size) ⟨hp.push o, g, d, tk, os⟩ → wpAny (model prog w) A' (pyIter v) Q E ⟨hp, g, d, tk, os⟩ :=
      fun q => B.iter prog w _ _ ⟨hp, g, d, tk, os⟩ _ h1 q
    wp_walk using q1
    refine wpAny_stack_any fun st => wpAny_pure ?_
    split
    · rename_i c _ _ _ _ _
      cases (c == Value.type "enumerate") <;> (wp_walk using q1; exact ⟨_, rfl, h⟩)
    · wp_walk using q1
      exact ⟨_, rfl, h⟩
variable {prog : Program} {w : World} {A : Around} {E : Value → Shared → Prop} {s : Shared}
theorem enum_call1 {v : Value} {o : Obj} {H : Heap → Prop} {Q : Value → Shared → Prop} (B : Begins v o H) (h1 : H s.heap)
    (h : ∀ g, IsEnum g (s.heap.objs.size + 1) s.heap.objs.size 0 .none → g.get? s.heap.objs.size = some o → (∀ b o, s.heap.get? b = some o → g.get? b = some o) → Q (.ref (s.heap.objs.size + 1)) { s with heap := g }) :
    wpAny (model prog w) A (call (.type "enumerate") [v]) Q E s := by
  refine callType_new PySem.F.called_enumerate (by decide) (PySem.F.typeCall_enumerate_1 _) (PySem.F.newCall_enumerate_1 _) (fun obj => PySem.F.args_object_init_2 obj _) PySem.F.entry_enumerate_new (enum_new1 B) ⟨h1, ?_⟩
  have hz : (s.heap.push o).objs.size = s.heap.objs.size + 1 := Heap.size_push ..
  show _ ∧ _
  have he : ((s.heap.push o).push { cls := .type "enumerate", data := .fields #[.none, .bool false, .ref s.heap.objs.size, rawInt 0, .none, .none] }).get? (s.heap.push o).objs.size = some { cls := .type "enumerate", data := .fields #[.none, .bool false, .ref s.heap.objs.size, rawInt 0, .none, .none] } := Heap.get?_push_size _ rfl
  rw [hz] at he ⊢
  exact ⟨⟨_, he, rfl⟩, h _ he (Heap.get?_push_of_some _ (Heap.get?_push_size _ B.free)) fun b o x => Heap.get?_push_of_some _ (Heap.get?_push_of_some _ x)⟩
end
/-- the tuple at a, each item in a new pair -/
def ItT (K : PySem.W.Frag) (a : Addr) : It :=
  ⟨fun i H => ∃ (xs : List V) (x : V), SqT K H a xs ∧ xs[i]? = some x, fun i H v H' => ∃ T x, v = .ref T ∧ H T = none ∧ H' = upd H T (.tup [.int (i : Nat), x]) ∧ ∀ xs, SqT K H a xs → xs[i]? = some x, fun i H => ∃ xs : List V, SqT K H a xs ∧ xs.length = i⟩
theorem turn_enumT {P : Program} {w : World} {K : PySem.W.Frag} {elts : List Expr} {kk : Nat} {tpos : Pos} (a e it : Addr) (hae : e ≠ a) (hai : a ≠ it) :
    Turn P w K (.Tuple elts kk tpos) (ItT K a) [e, it] e (fun i h => (∃ old, IsEnum h e it ((i : Nat) : Int) old) ∧ h.IsTupleIter it a i ∧ e ≠ it) where
  mem := by simp
  obj := fun i h st b hb => by
    obtain ⟨⟨old, he⟩, ⟨o, ho, hc, hd⟩, _⟩ := st
    have e' : b = e ∨ b = it := by simpa using hb
    rcases e' with z | z
    · rw [z]; exact ⟨_, he, fun v q => nomatch q⟩
    · rw [z]; exact ⟨o, ho, fun v q => by rw [hd] at q; cases q⟩
  keep := fun i h h' st k => let ⟨⟨old, he⟩, hi, hne⟩ := st; ⟨⟨old, k e (by simp) _ he⟩, hi.at fun o q => k it (by simp) o q, hne⟩
  item := by
    intro X hP hw hK hc i pins s σ H E I hf st hg
    subst hP hw hK
    obtain ⟨⟨old, he⟩, hit, hne⟩ := st
    obtain ⟨xs, x, hq, hx⟩ := hg
    obtain ⟨its, rv, p, hz⟩ := I.tuple hq
    obtain ⟨u, hu, ru⟩ := rv.get hx
    have hu' : its.toArray[i]? = some u := by simpa using hu
    have hel : e < s.heap.objs.size := Heap.lt_size he
    have hil : it < s.heap.objs.size := by obtain ⟨_, q, _⟩ := hit; exact Heap.lt_size q
    have hh := I.ok.hd hc
    refine wpAny_pyNext_enum_itemD (Draws.tuple (A := X.A.in1) hh it a hai its.toArray) he ⟨hit, show s.heap.IsTuple a its.toArray from p⟩ (Array.getElem?_eq_some_iff.mp hu').1 hne (by simp [hne, hae]) fun y h' tk hy ho hit' hT hsz hk => ?_
    have ey : y = u := Option.some.inj (hy.symm.trans hu')
    subst ey
    refine ⟨_, rfl, wpAny_letOwnedTupleGo_enum (s := { s with heap := h', toks := tk + 1 }) ho fun h'' he' sb => ?_⟩
    have hT2 : h''.get? s.heap.objs.size = some { cls := .type "tuple", data := .seq #[.int i tk, y] } := (sb.2 _ (Nat.ne_of_gt hel)).trans hT
    have new : ObjOk X.prog X.w (upd H s.heap.objs.size (.tup [.int (i : Nat), x])) h'' s.heap.objs.size (.tup [.int (i : Nat), x]) :=
      ⟨by show 2 ≤ sizeLine; decide, [.int i tk, y], .cons ⟨_, rfl⟩ (.cons ru .nil), ⟨_, hT2, rfl, _, rfl⟩⟩
    have I1 : Inv X pins σ (upd H s.heap.objs.size (.tup [.int (i : Nat), x])) { s with heap := h'', toks := tk + 1 } :=
      I.turnedNew (ch := [e, it]) (fun b ob hb q => (sb.2 b (fun z => hb (by simp [z]))).trans (hk b ob (fun z => hb (by simp [z])) (fun z => hb (by simp [z])) q)) hf (Nat.le_refl _) new
    refine ⟨.ref s.heap.objs.size, _, I1, rfl, ⟨_, x, rfl, I.hok.fresh (Nat.le_refl _), rfl, fun ys hy => by rw [I.tuple_inj hy hq]; exact hx⟩, ⟨⟨y, ?_⟩, hit'.1.at fun o q => (sb.2 it (Ne.symm hne)).trans q, hne⟩, fun b hb => ?_⟩
    · have e1 : ((i + 1 : Nat) : Int) = (i : Int) + 1 := by omega
      rw [e1]; exact he'
    · have hb' : b < s.heap.objs.size := by
        have e' : b = e ∨ b = it := by simpa using hb
        rcases e' with z | z
        · rw [z]; exact hel
        · rw [z]; exact hil
      rw [upd_ne (Nat.ne_of_lt hb')]
      exact (hf b hb).1
  done := by
    intro X hP hw hK hc i pins s σ H E I hf st hg
    subst hP hw hK
    obtain ⟨⟨old, he⟩, hit, hne⟩ := st
    obtain ⟨xs, hq, hx⟩ := hg
    obtain ⟨its, rv, p, hz⟩ := I.tuple hq
    obtain ⟨f0, f1, f2, f3, f4, f5⟩ := hf it (by simp)
    have hl := rv.length
    have hi : i = its.toArray.size := by rw [List.size_toArray]; omega
    subst hi
    exact wpAny_pyNext_enum_endD (Draws.tuple (A := X.A.in1) (I.ok.hd hc) it a hai its.toArray) he ⟨hit, show s.heap.IsTuple a its.toArray from p⟩ fun h' eb => ⟨rfl, I.turned (t' := s.toks) (fun b o hb q => eb b o hb q) f0 f1 f3 f4 f5⟩
  self := fun A i s Q E st h => let ⟨⟨_, he⟩, _⟩ := st; wpAny_pyIter_enum he h
def iEnumT (K : PySem.W.Frag) (ta : TA) : TI := fun σ H R => ta σ H fun vs H1 => ∃ a xs, vs = [.ref a] ∧ SqT K H1 a xs ∧ R (ItT K a) H1
theorem pi_enumT {X : Cx} {e : Expr} {ta : TA} {p pos tpos : Pos} {elts : List Expr} {kk : Nat} (hg : Gl X "enumerate") (hm : X.mg "enumerate" = none) (ha : PA X [e] ta) (hs : starEach [e] X.env = [(false, eval e X.env)] := by rfl) :
    PI X (.Tuple elts kk tpos) (.Call (.Name "enumerate" p) [e] [] pos) (iEnumT X.K ta) := by
  refine ⟨fun pins s σ H R I h => ?_⟩
  refine Call_ (ld_blt I hg hm boot_enumerate (PyProof.Rows.callWith_type1 (thn (ha.run pos pins s σ H _ I h) fun us t ⟨vs, H1, I1, r1, q1⟩ => ?_) hs rfl))
  obtain ⟨a, xs, ex, hq, q⟩ := q1
  subst ex
  rw [Vals.ref1 r1]
  obtain ⟨its, rv, p', hz⟩ := I1.tuple hq
  have hal : a < t.heap.objs.size := p'.lt
  refine enum_call1 (begins_tuple a its.toArray) (show t.heap.IsTuple a its.toArray from p') fun g he hit hk => wpAny_pyIter_enum he ?_
  have I2 : Inv X pins σ H1 { t with heap := g } := I1.kept (t' := t.toks) hk
  refine ⟨t.heap.objs.size + 1, [t.heap.objs.size + 1, t.heap.objs.size], _, _, H1, rfl, I2, turn_enumT a (t.heap.objs.size + 1) t.heap.objs.size (Nat.ne_of_gt (Nat.lt_succ_of_lt hal)) (Nat.ne_of_lt hal), ⟨⟨.none, he⟩, ⟨_, hit, rfl, rfl⟩, Nat.succ_ne_self _⟩, fun b hb => ?_, q⟩
  have e' : b = t.heap.objs.size + 1 ∨ b = t.heap.objs.size := by simpa using hb
  have hle : t.heap.objs.size ≤ b := by
    rcases e' with z | z
    · rw [z]; exact Nat.le_add_right _ _
    · rw [z]; exact Nat.le_refl _
  exact I1.fpOk hle (I1.hok.fresh hle)
end W35R
end

section
set_option maxRecDepth 100000
set_option maxHeartbeats 4000000
/-! The text by places, what a def promises in short words, the data. -/
namespace W35P
open PySem PySem.Spec PyProof.Rows L2 W35 W35R

def topS (i : Nat) : Stmt := PySem.Challenge.pw_walledin_k35_whole_times_of_rooms.main.body.getD i (.Pass ⟨0, 0, 0, 0⟩)

/-- a def of the text, found by its name -/
structure Df (K : PySem.W.Frag) (mg : Str → Option Value) (x : Str) (st : Stmt) (ps : List Str) : Prop where
  ex : ∃ (f : Addr) (fd : FuncData), Fun K x x st f fd ∧ mg x = some (.ref f) ∧ Binds K fd ps []
/-- a def that keeps its promise, called by its name -/
structure Cb (P : Program) (w : World) (K : PySem.W.Frag) (mg : Str → Option Value) (base : Heap) (k : Nat) (x : Str) (sp : Sp) : Prop where
  ex : ∃ (f : Addr) (fd : FuncData) (ps : List Str), FnOk P w K mg base CX0 k f fd ps sp ∧ mg x = some (.ref f) ∧ PySem.W.keepIn K (.ref f) = true ∧ Binds K fd ps []
/-- the built-ins' names are free, the two constants stand -/
structure Gb (mg : Str → Option Value) : Prop where
  isi : mg "isinstance" = none
  int : mg "int" = none
  bool : mg "bool" = none
  tuple : mg "tuple" = none
  list : mg "list" = none
  str : mg "str" = none
  len : mg "len" = none
  range : mg "range" = none
  enum : mg "enumerate" = none
  sorted : mg "sorted" = none
  any : mg "any" = none
  all : mg "all" = none
  max : mg "max" = none
  min : mg "min" = none
  set : mg "set" = none
  rooms : ∃ t, mg "MOST_ROOMS" = some (.int 9 t)
  walls : ∃ t, mg "MOST_WALLS" = some (.int 12 t)
section
variable {P : Program} {w : World} {K : PySem.W.Frag} {mg : Str → Option Value} {base : Heap}
theorem Df.ok {x : Str} {st : Stmt} {N ps : List Str} {k : Nat} {sp : Sp} (D : Df K mg x st ps) (S : FnScope N ps (defScope st)) (len : ∀ vs H Q E, sp vs H Q E → vs.length = ps.length)
    (hbody : ∀ (f : Addr) (cdv : Value) (A : Around) (outer : List Env) (s : Shared) (H : Hp) (vs : List V) (Q : VK) (E : XK), Room k (A.deeper (envOfC x (defScope st) s.heap.objs.size f cdv)) → sp vs H Q E →
      ∃ t, PSs (cxOf CX0 P w K mg base N x (defScope st) f cdv A outer s H E).nox (defBody st) t ∧ t { nx := fun _ H' => Q .non H', rt := Q } (start N vs) H) : Cb P w K mg base (k + 1) x sp := by
  obtain ⟨f, fd, F, g, b⟩ := D.ex
  exact ⟨f, fd, ps, F.ok S len fun cdv A outer s H vs Q E hr h => hbody f cdv A outer s H vs Q E hr h, g, F.kp, b⟩
end
section
variable {X : Cx} {k j : Nat} {x : Str} {sp : Sp} {e : Expr} {es : List Expr} {t : TA} {p pos : Pos}
theorem pe_cb (c : Cb X.prog X.w X.K X.mg X.base k x sp) (hr : Room j X.A) (ha : PA X (e :: es) t) (hk : k ≤ j := by decide) (hg : Gl X x := by rfl)
    (hdb : (x == ("__debug__" : Str)) = false := by decide) (he : starEach (e :: es) X.env = (false, eval e X.env) :: starEach es X.env := by rfl) (hpl : (backTo pos (starEach es X.env)).any (·.1) = false := by rfl) :
    PE X (.Call (.Name x p) (e :: es) [] pos) (tCall sp [] E0 t) := by
  obtain ⟨f, fd, ps, F, hm, kp, b⟩ := c.ex
  exact pe_call F (hr.mono hk) hg hm kp b .nil pass0 ha hdb he hpl
end

/-! ### data -/
abbrev iv (l : List Nat) : List V := l.map fun (n : Nat) => V.int (n : Int)
abbrev zs (l : List Nat) : List Int := l.map fun (n : Nat) => (n : Int)
theorem iv_zs (l : List Nat) : (zs l).map V.int = iv l := by
  rw [List.map_map]
  rfl
theorem same_upd {H : Hp} {p : Addr} {o : HO} (h : H p = none) : Same H (upd H p o) := fun b x e => by
  rw [upd_ne (ne_of_none e h)]
  exact e
/-- a yard: the pair of its number of rooms and of the tuple of its walls -/
structure YardAt (H : Hp) (y : Addr) (many : Nat) (ws : List Wl) : Prop where
  ex : ∃ (wa : Addr) (as : List Addr), H y = some (.tup [.int many, .ref wa]) ∧ H wa = some (.tup (as.map V.ref)) ∧ as.length = ws.length ∧
    ∀ (i : Nat) (w : Wl), ws[i]? = some w → ∃ a, as[i]? = some a ∧ H a = some (.tup [.int w.lo, .int w.hi, .int w.sd])
theorem YardAt.same {H H' : Hp} {y : Addr} {many : Nat} {ws : List Wl} (s : Same H H') (h : YardAt H y many ws) : YardAt H' y many ws := by
  obtain ⟨wa, as, h1, h2, h3, h4⟩ := h
  exact ⟨wa, as, s _ _ h1, s _ _ h2, h3, fun i w e => let ⟨a, e1, e2⟩ := h4 i w e; ⟨a, e1, s _ _ e2⟩⟩
abbrev TupAt (H : Hp) (p : Addr) (l : List Nat) : Prop := H p = some (.tup (iv l))
abbrev LstAt (H : Hp) (p : Addr) (l : List Nat) : Prop := H p = some (.lst (iv l))
theorem eqV_nat (a b : Nat) : eqV (V.int (a : Int)) (V.int (b : Int)) = decide (a = b) := by
  by_cases e : a = b
  · subst e
    simp [eqV]
  · have e' : ¬ ((a : Int) = (b : Int)) := by omega
    simp [eqV, e, e']
theorem flat_iv : ∀ l : List Nat, (iv l).all flatV = true
  | [] => rfl
  | a :: l => by
    show (true && (iv l).all flatV) = true
    rw [flat_iv l]
    rfl
theorem inV_iv (r : Nat) : ∀ l : List Nat, inV (V.int (r : Int)) (iv l) = decide (r ∈ l)
  | [] => rfl
  | a :: l => by
    show (eqV (V.int (a : Int)) (V.int (r : Int)) || inV (V.int (r : Int)) (iv l)) = _
    rw [inV_iv r l, eqV_nat]
    by_cases h1 : a = r <;> by_cases h2 : r ∈ l <;> simp [h1, h2, eq_comm]
    all_goals omega

/-! ### built-ins by name -/
theorem b_isi : bootBuiltins "isinstance" = some (.builtin "isinstance") := by decide +kernel
theorem b_int : bootBuiltins "int" = some (.type "int") := by decide +kernel
theorem b_bool : bootBuiltins "bool" = some (.type "bool") := by decide +kernel
theorem b_str : bootBuiltins "str" = some (.type "str") := by decide +kernel
theorem b_list : bootBuiltins "list" = some (.type "list") := by decide +kernel
theorem b_tuple : bootBuiltins "tuple" = some (.type "tuple") := by decide +kernel
theorem b_len : bootBuiltins "len" = some (.builtin "len") := by decide +kernel
theorem b_sorted : bootBuiltins "sorted" = some (.builtin "sorted") := by decide +kernel
theorem b_any : bootBuiltins "any" = some (.builtin "any") := by decide +kernel
theorem b_all : bootBuiltins "all" = some (.builtin "all") := by decide +kernel
theorem b_max : bootBuiltins "max" = some (.builtin "max") := by decide +kernel
theorem b_min : bootBuiltins "min" = some (.builtin "min") := by decide +kernel
theorem b_set : bootBuiltins "set" = some (.type "set") := by decide +kernel
theorem k_tt : kitB "tuple" "tuple" = some true := by decide +kernel
theorem k_ii : kitB "int" "int" = some true := by decide +kernel
theorem k_ib : kitB "int" "bool" = some false := by decide +kernel
theorem k_bb : kitB "bool" "bool" = some true := by decide +kernel
theorem k_ll : kitB "list" "list" = some true := by decide +kernel
theorem k_is_ : kitB "int" "str" = some false := by decide +kernel
theorem k_lt : kitB "list" "tuple" = some false := by decide +kernel
theorem k_it : kitB "int" "tuple" = some false := by decide +kernel
theorem k_il : kitB "int" "list" = some false := by decide +kernel
/-- isinstance of one built-in type -/
def rIs1 (K : PySem.W.Frag) : List V → Hp → VK → Prop := fun xs H Q => ∃ (x : V) (n t : String) (b : Bool), xs = [x, .ty n] ∧ TyX K H x (.type t) ∧ kitB t n = some b ∧ Q (.bl b) H
theorem call_is1 {X : Cx} : CallR X (.builtin "isinstance") (rIs1 X.K) := fun pins s σ H xs us Q I r h => by
  obtain ⟨x, n, t, b, e, ty, kb, q⟩ := h
  exact call_isi pins s σ H xs us Q I r ⟨x, .ty n, .type t, .type n, b, e, .ty n, ty, kit_ty kb, q⟩
theorem pe_ty {X : Cx} {n : Str} {m : String} {pos : Pos} (hm : X.mg n = none) (hv : bootBuiltins n = some (.type m)) (hg : Gl X n := by rfl) (hn : n ≠ "__name__" := by decide) (hd : (n == ("__debug__" : Str)) = false := by decide) :
    PE X (.Name n pos) (tC (.ty m)) := pe_bltn hg hm hv rfl hn hd
theorem pe_isi {X : Cx} {e : Expr} {te : TE} {n : Str} {m : String} {p q pos : Pos} (T : Gb X.mg) (he : PE X e te) (hm : X.mg n = none) (hv : bootBuiltins n = some (.type m)) (hg : Gl X "isinstance" := by rfl) (hg2 : Gl X n := by rfl)
    (hn : n ≠ "__name__" := by decide) (hd : (n == ("__debug__" : Str)) = false := by decide) (s1 : starEach [e, .Name n q] X.env = (false, eval e X.env) :: starEach [.Name n q] X.env := by rfl)
    (s2 : (backTo pos (starEach [.Name n q] X.env)).any (·.1) = false := by rfl) (s3 : starEach [.Name n q] X.env = (false, eval (.Name n q) X.env) :: starEach [] X.env := by rfl) :
    PE X (.Call (.Name "isinstance" p) [e, .Name n q] [] pos) (tCB (rIs1 X.K) (tCons te (tCons (tC (.ty m)) tNil))) :=
  pe_callB (he := s1) (hpl := s2) call_is1 hg T.isi b_isi (pa_cons (hs := s1) he (pa_cons (hs := s3) (pe_ty hm hv hg2 hn hd) pa_nil))
theorem ty_int {K : PySem.W.Frag} {H : Hp} {i : Int} : TyX K H (.int i) (.type "int") := .base (.int i)
theorem ty_bl {K : PySem.W.Frag} {H : Hp} {i : Bool} : TyX K H (.bl i) (.type "bool") := .base (.bl i)
theorem ty_tup {K : PySem.W.Frag} {H : Hp} {a : Addr} {xs : List V} (h : H a = some (.tup xs)) : TyX K H (.ref a) (.type "tuple") := .base (.tup h)
theorem ty_lst {K : PySem.W.Frag} {H : Hp} {a : Addr} {xs : List V} (h : H a = some (.lst xs)) : TyX K H (.ref a) (.type "list") := .base (.lst h)
end W35P
end

section
set_option maxRecDepth 100000
set_option maxHeartbeats 4000000
/-! is_int, is_from, is_wall, need_yard, need_room, need_inner, sides_of, every -/
namespace W35P
open PySem PySem.Spec PyProof.Rows L2 W35 W35R
section
variable {P : Program} {w : World} {K : PySem.W.Frag} {mg : Str → Option Value} {base : Heap}

abbrev sIsInt : Stmt := topS 8
theorem scIsInt : FnScope ["value"] ["value"] (defScope sIsInt) := ⟨rfl, rfl, rfl, by decide +kernel, rfl, by decide +kernel, by decide +kernel⟩
def spIsInt : Sp := fun vs H Q _ => ∃ i : Int, vs = [.int i] ∧ Q (.bl true) H
theorem cb_is_int (D : Df K mg "is_int" sIsInt ["value"]) (T : Gb mg) : Cb P w K mg base 1 "is_int" spIsInt := by
  refine D.ok scIsInt (fun vs H Q E h => ?_) (fun f cdv A outer s H vs Q E hr h => ?_)
  · obtain ⟨i, rfl, _⟩ := h
    rfl
  · obtain ⟨i, rfl, q⟩ := h
    refine ⟨_, pss_one (ps_ret (pe_and (pe_isi T (pv 0) T.int b_int) (pe_one (pe_not (pe_isi T (pv 0) T.bool b_bool))))), ?_⟩
    exact ⟨_, rfl, _, _, _, _, rfl, ty_int, k_ii, _, rfl, iteT ⟨_, rfl, _, _, _, _, rfl, ty_int, k_ib, _, rfl, q⟩⟩

abbrev sIsFrom : Stmt := topS 9
theorem scIsFrom : FnScope ["value", "least", "most"] ["value", "least", "most"] (defScope sIsFrom) := ⟨rfl, rfl, rfl, by decide +kernel, rfl, by decide +kernel, by decide +kernel⟩
def spIsFrom : Sp := fun vs H Q _ => ∃ i a b : Int, vs = [.int i, .int a, .int b] ∧ Q (.bl (decide (a ≤ i ∧ i ≤ b))) H
theorem cb_is_from (D : Df K mg "is_from" sIsFrom ["value", "least", "most"]) (c1 : Cb P w K mg base 1 "is_int" spIsInt) : Cb P w K mg base 2 "is_from" spIsFrom := by
  refine D.ok scIsFrom (fun vs H Q E h => ?_) (fun f cdv A outer s H vs Q E hr h => ?_)
  · obtain ⟨i, a, b, rfl, _⟩ := h
    rfl
  · obtain ⟨i, a, b, rfl, q⟩ := h
    refine ⟨_, pss_one (ps_ret (pe_and (pe_cb c1 hr (pa_cons (pv 0) pa_nil)) (pe_one (pe_chain op_le op_le (pv 1) (pv 0) (pv 2))))), ?_⟩
    refine ⟨_, rfl, i, rfl, _, rfl, iteT ⟨_, rfl, _, rfl, _, _, rfl, rfl, _, rfl, ?_⟩⟩
    by_cases h1 : a ≤ i
    · rw [if_pos (decide_eq_true h1)]
      refine ⟨_, rfl, _, _, rfl, rfl, ?_⟩
      have e : decide (i ≤ b) = decide (a ≤ i ∧ i ≤ b) := decide_eq_decide.mpr ⟨fun z => ⟨h1, z⟩, fun z => z.2⟩
      show Q (.bl (decide (i ≤ b))) H
      rw [e]
      exact q
    · rw [if_neg (by rw [decide_eq_false h1]; exact Bool.false_ne_true)]
      have e : decide (a ≤ i ∧ i ≤ b) = false := decide_eq_false fun z => h1 z.1
      rw [e] at q
      exact q

abbrev sIsWall : Stmt := topS 10
theorem scIsWall : FnScope ["value", "many", "low", "high", "side"] ["value", "many"] (defScope sIsWall) := ⟨rfl, rfl, rfl, by decide +kernel, rfl, by decide +kernel, by decide +kernel⟩
/-- of a wall that is one -/
def spIsWall : Sp := fun vs H Q _ => ∃ (a : Addr) (many lo hi sd : Int), vs = [.ref a, .int many] ∧ H a = some (.tup [.int lo, .int hi, .int sd]) ∧ 0 ≤ lo ∧ lo < hi ∧ hi < many ∧ 0 ≤ sd ∧ sd ≤ 2 ∧ Q (.bl true) H
theorem cb_is_wall (D : Df K mg "is_wall" sIsWall ["value", "many"]) (T : Gb mg) (c1 : Cb P w K mg base 2 "is_from" spIsFrom) : Cb P w K mg base 3 "is_wall" spIsWall := by
  refine D.ok scIsWall (fun vs H Q E h => ?_) (fun f cdv A outer s H vs Q E hr h => ?_)
  · obtain ⟨a, m, lo, hi, sd, rfl, _⟩ := h
    rfl
  · obtain ⟨a, m, lo, hi, sd, rfl, ha, h0, h1, h2, h3, h4, q⟩ := h
    refine ⟨_, pss_cons (ps_if (PW.pt (pw_or (pt_not (pt_val (pe_isi T (pv 0) T.tuple b_tuple))) (pw_or1 (pt_cmpR op_ne (pe_callB call_len_seq (by rfl) T.len b_len (pa_cons (pv 0) pa_nil)) pe_int (nomark _))))) (pss_one (ps_ret pe_bl)) pss_nil)
      (pss_cons (ps_asg (pv 0) (pg_tup rfl (pgs_cons (pg_name (i := 2) scIsWall.nd rfl (.inl rfl)) (pgs_cons (pg_name (i := 3) scIsWall.nd rfl (.inl rfl)) (pgs_cons (pg_name (i := 4) scIsWall.nd rfl (.inl rfl)) pgs_nil)))))
      (pss_one (ps_ret (pe_and (pe_cb c1 hr (pa_cons (pv 2) (pa_cons pe_int (pa_cons (pe_op op_sub (pv 1) pe_int) pa_nil))))
        (pe_and (pe_cb c1 hr (pa_cons (pv 3) (pa_cons pe_int (pa_cons (pe_op op_sub (pv 1) pe_int) pa_nil))))
        (pe_and (pe_cmp (pc_lt (pv 2) (pv 3)) rfl) (pe_one (pe_cb c1 hr (pa_cons (pv 4) (pa_cons pe_int (pa_cons pe_int pa_nil)))))))))))
      , ?_⟩
    refine ⟨_, rfl, _, _, _, _, rfl, ty_tup ha, k_tt, _, rfl, iteF ⟨_, rfl, a, _, rfl, .inr (SqT.of ha), rfl, _, rfl, ?_⟩⟩
    refine iteF ?_
    refine ⟨_, rfl, a, _, rfl, SqT.of ha, rfl, _, _, rfl, _, _, rfl, _, _, rfl, rfl, ?_⟩
    refine ⟨_, rfl, _, rfl, _, _, rfl, rfl, lo, 0, m - 1, rfl, _, rfl, ?_⟩
    rw [if_pos (decide_eq_true ⟨h0, by omega⟩)]
    refine ⟨_, rfl, _, rfl, _, _, rfl, rfl, hi, 0, m - 1, rfl, _, rfl, ?_⟩
    rw [if_pos (decide_eq_true ⟨by omega, by omega⟩)]
    refine ⟨_, rfl, _, rfl, _, _, rfl, rfl, _, rfl, ?_⟩
    rw [if_pos (decide_eq_true h1)]
    refine ⟨_, rfl, sd, 0, 2, rfl, ?_⟩
    rw [decide_eq_true ⟨h3, h4⟩]
    exact q

abbrev sSides : Stmt := topS 13
theorem scSides : FnScope ["wall", "low", "high", "side"] ["wall"] (defScope sSides) := ⟨rfl, rfl, rfl, by decide +kernel, rfl, by decide +kernel, by decide +kernel⟩
def spSides : Sp := fun vs H Q _ => ∃ (a : Addr) (x : Wl), vs = [.ref a] ∧ H a = some (.tup [.int x.lo, .int x.hi, .int x.sd]) ∧ x.sd ≤ 2 ∧
  ∀ (H' : Hp) (p : Addr), Same H H' → H p = none → TupAt H' p x.sides → Q (.ref p) H'
theorem cb_sides (D : Df K mg "sides_of" sSides ["wall"]) : Cb P w K mg base 1 "sides_of" spSides := by
  refine D.ok scSides (fun vs H Q E h => ?_) (fun f cdv A outer s H vs Q E hr h => ?_)
  · obtain ⟨a, x, rfl, _⟩ := h
    rfl
  · obtain ⟨a, x, rfl, ha, hx, q⟩ := h
    refine ⟨_, pss_cons (ps_asg (pv 0) (pg_tup rfl (pgs_cons (pg_name (i := 1) scSides.nd rfl (.inl rfl)) (pgs_cons (pg_name (i := 2) scSides.nd rfl (.inl rfl)) (pgs_cons (pg_name (i := 3) scSides.nd rfl (.inl rfl)) pgs_nil)))))
      (pss_one (ps_ret (pe_ix ix_list (pe_lst (pa_cons (pe_tup (pa_cons (pv 1) pa_nil)) (pa_cons (pe_tup (pa_cons (pv 2) pa_nil)) (pa_cons (pe_tup (pa_cons (pv 1) (pa_cons (pv 2) pa_nil))) pa_nil)))) (pv 3) (fun _ _ => rfl)))), ?_⟩
    refine ⟨_, rfl, a, _, rfl, SqT.of ha, rfl, _, _, rfl, _, _, rfl, _, _, rfl, rfl, ?_⟩
    refine ⟨_, rfl, by show 1 ≤ sizeLine; decide, fun p1 n1 => ⟨_, rfl, by show 1 ≤ sizeLine; decide, fun p2 n2 => ⟨_, rfl, _, rfl, by show 2 ≤ sizeLine; decide, fun p3 n3 => ⟨by show 3 ≤ sizeLine; decide, fun l nl => ?_⟩⟩⟩⟩
    have s1 := same_upd (o := .tup [.int x.lo]) n1
    have s2 := same_upd (o := .tup [.int x.hi]) n2
    have s3 := same_upd (o := .tup [.int x.lo, .int x.hi]) n3
    have sl := same_upd (o := .lst [.ref p1, .ref p2, .ref p3]) nl
    have S := (s1.trans s2).trans (s3.trans sl)
    have f2 := s1.free n2
    have f3 := (s1.trans s2).free n3
    have e1 := ((s2.trans s3).trans sl) _ _ (upd_same (H := H) (a := p1) (o := .tup [.int x.lo]))
    have e2 := (s3.trans sl) _ _ (upd_same (a := p2) (o := .tup [.int x.hi]))
    have e3 := sl _ _ (upd_same (a := p3) (o := .tup [.int x.lo, .int x.hi]))
    have h3 : x.sd = 0 ∨ x.sd = 1 ∨ x.sd = 2 := by omega
    rcases h3 with h | h | h
    · refine ⟨_, rfl, l, _, _, .ref p1, rfl, rfl, SqL.of upd_same, at_of (j := 0) (by rw [h]) rfl, q _ p1 S n1 ?_⟩
      rw [Wl.sides, if_pos h]
      exact e1
    · refine ⟨_, rfl, l, _, _, .ref p2, rfl, rfl, SqL.of upd_same, at_of (j := 1) (by rw [h]) rfl, q _ p2 S f2 ?_⟩
      rw [Wl.sides, if_neg (by omega), if_pos h]
      exact e2
    · refine ⟨_, rfl, l, _, _, .ref p3, rfl, rfl, SqL.of upd_same, at_of (j := 2) (by rw [h]) rfl, q _ p3 S f3 ?_⟩
      rw [Wl.sides, if_neg (by omega), if_neg (by omega)]
      exact e3

theorem rg_iv (n : Nat) : rgV 0 (n : Int) = iv (List.range n) := by
  unfold rgV
  rw [show ((n : Int) - 0).toNat = n by omega]
  refine List.map_congr_left fun i _ => ?_
  rw [Int.zero_add]
theorem iv_len (l : List Nat) : (iv l).length = l.length := List.length_map _
abbrev sEvery : Stmt := topS 14
theorem scEvery : FnScope ["yard"] ["yard"] (defScope sEvery) := ⟨rfl, rfl, rfl, by decide +kernel, rfl, by decide +kernel, by decide +kernel⟩
def spEvery : Sp := fun vs H Q _ => ∃ (y : Addr) (many : Nat) (ws : List Wl), vs = [.ref y] ∧ YardAt H y many ws ∧ ws.length ≤ 6 ∧
  ∀ (H' : Hp) (p : Addr), Same H H' → H p = none → TupAt H' p (all ws) → Q (.ref p) H'
theorem cb_every (D : Df K mg "every" sEvery ["yard"]) (T : Gb mg) : Cb P w K mg base 1 "every" spEvery := by
  refine D.ok scEvery (fun vs H Q E h => ?_) (fun f cdv A outer s H vs Q E hr h => ?_)
  · obtain ⟨y, many, ws, rfl, _⟩ := h
    rfl
  · obtain ⟨y, many, ws, rfl, ⟨wa, as, h1, h2, h3, h4⟩, hl, q⟩ := h
    refine ⟨_, pss_one (ps_ret (pe_tupRg rfl (by rfl) T.tuple (prg_1 (by rfl) T.range (pe_callB call_len_seq (by rfl) T.len b_len (pa_cons (pe_ix ix_tup (pv 0) pe_int (fun _ _ => rfl)) pa_nil))))), ?_⟩
    have hn : ((as.map V.ref).length : Int) = (ws.length : Nat) := by rw [List.length_map, h3]
    refine ⟨_, rfl, y, _, 1, .ref wa, rfl, rfl, SqT.of h1, atI_nat (j := 1) rfl, wa, _, rfl, .inr (SqT.of h2), _, rfl, ?_, fun p np => ?_⟩
    · rw [hn]
      exact RgOk.of_le (by omega) (by omega) (by omega) (by omega)
    · rw [hn, rg_iv]
      exact q _ p (same_upd np) np upd_same

abbrev sNeedRoom : Stmt := topS 12
theorem scNeedRoom : FnScope ["yard", "value"] ["yard", "value"] (defScope sNeedRoom) := ⟨rfl, rfl, rfl, by decide +kernel, rfl, by decide +kernel, by decide +kernel⟩
def spNeedRoom : Sp := fun vs H Q _ => ∃ (y : Addr) (many : Nat) (ws : List Wl) (r : Int), vs = [.ref y, .int r] ∧ YardAt H y many ws ∧ 0 ≤ r ∧ r < many ∧ Q .non H
theorem cb_need_room (D : Df K mg "need_room" sNeedRoom ["yard", "value"]) (c1 : Cb P w K mg base 2 "is_from" spIsFrom) : Cb P w K mg base 3 "need_room" spNeedRoom := by
  refine D.ok scNeedRoom (fun vs H Q E h => ?_) (fun f cdv A outer s H vs Q E hr h => ?_)
  · obtain ⟨y, many, ws, r, rfl, _⟩ := h
    rfl
  · obtain ⟨y, many, ws, r, rfl, ⟨wa, as, h1, h2, h3, h4⟩, r0, r1, q⟩ := h
    refine ⟨_, pss_one (ps_if (pt_not (pt_val (pe_cb c1 hr (pa_cons (pv 1) (pa_cons pe_int (pa_cons (pe_op op_sub (pe_ix ix_tup (pv 0) pe_int (fun _ _ => rfl)) pe_int) pa_nil)))))) pss_never pss_nil), ?_⟩
    refine ⟨_, rfl, _, rfl, y, _, 0, .int many, rfl, rfl, SqT.of h1, atI_nat (j := 0) rfl, _, _, rfl, rfl, r, 0, (many : Int) - 1, rfl, _, rfl, ?_⟩
    rw [decide_eq_true ⟨r0, by omega⟩]
    exact iteF q

abbrev sNeedInner : Stmt := topS 25
theorem scNeedInner : FnScope ["yard", "value"] ["yard", "value"] (defScope sNeedInner) := ⟨rfl, rfl, rfl, by decide +kernel, rfl, by decide +kernel, by decide +kernel⟩
def spNeedInner : Sp := fun vs H Q _ => ∃ (y : Addr) (many : Nat) (ws : List Wl) (r : Int), vs = [.ref y, .int r] ∧ YardAt H y many ws ∧ 1 ≤ r ∧ r < many ∧ Q .non H
theorem cb_need_inner (D : Df K mg "need_inner" sNeedInner ["yard", "value"]) (c1 : Cb P w K mg base 3 "need_room" spNeedRoom) : Cb P w K mg base 4 "need_inner" spNeedInner := by
  refine D.ok scNeedInner (fun vs H Q E h => ?_) (fun f cdv A outer s H vs Q E hr h => ?_)
  · obtain ⟨y, many, ws, r, rfl, _⟩ := h
    rfl
  · obtain ⟨y, many, ws, r, rfl, hY, r0, r1, q⟩ := h
    refine ⟨_, pss_cons (ps_expr (pe_cb c1 hr (pa_cons (pv 0) (pa_cons (pv 1) pa_nil)))) (pss_one (ps_if (pt_cmpR op_eq (pv 1) pe_int (nomark _)) pss_never pss_nil)), ?_⟩
    refine ⟨_, rfl, _, rfl, y, many, ws, r, rfl, hY, by omega, r1, _, rfl, rfl, _, rfl, ?_⟩
    rw [decide_eq_false (fun z => by have := V.int.inj z; omega)]
    exact iteF q

/-- over enumerate of a tuple -/
theorem for_enumT {a : Addr} {xs : List V} {g : TG} {tb : TS} {D : Ends} {σ : L2.St} {H : Hp} (Pv : Nat → L2.St → Hp → Prop) (h0 : Pv 0 σ H) (hl : ∀ i σ H, i ≤ xs.length → Pv i σ H → SqT K H a xs)
    (hs : ∀ i x σ H Tp, xs[i]? = some x → Pv i σ H → H Tp = none → g (.ref Tp) σ (upd H Tp (.tup [.int (i : Nat), x])) fun σ2 H2 => tb { D with nx := Pv (i + 1), ct := Pv (i + 1), bk := D.nx } σ2 H2) (hd : ∀ σ H, Pv xs.length σ H → D.nx σ H) :
    ∃ W : Nat → Nat → L2.St → Hp → Prop, (∃ m, W 0 m σ H) ∧ ∀ i m σ H, W i m σ H →
      ((ItT K a).stop i H ∧ D.nx σ H) ∨ ((ItT K a).go i H ∧ ∃ N : L2.St → Hp → Prop, (∀ σ' H', N σ' H' → ∃ m', m' < m ∧ W (i + 1) m' σ' H') ∧ ∀ x H', (ItT K a).yld i H x H' → g x σ H' fun σ2 H2 => tb { D with nx := N, ct := N, bk := D.nx } σ2 H2) := by
  refine ⟨fun i m σ H => m = xs.length - i ∧ i ≤ xs.length ∧ Pv i σ H, ⟨xs.length, by simp, Nat.zero_le _, h0⟩, ?_⟩
  rintro i m σ H ⟨rfl, hi, p⟩
  have q := hl i σ H hi p
  by_cases hlt : i < xs.length
  · refine .inr ⟨⟨xs, xs[i], q, by simp [hlt]⟩, Pv (i + 1), fun σ' H' p' => ⟨xs.length - (i + 1), by omega, rfl, hlt, p'⟩, fun x H' y => ?_⟩
    obtain ⟨Tp, z, e1, e2, e3, y⟩ := y
    subst e1 e3
    exact hs i z σ H Tp (y xs q) p e2
  · have e : i = xs.length := by omega
    subst e
    exact .inl ⟨⟨xs, q, rfl⟩, hd σ H p⟩

abbrev sNeedYard : Stmt := topS 11
theorem scNeedYard : FnScope ["value", "index", "wall"] ["value"] (defScope sNeedYard) := ⟨rfl, rfl, rfl, by decide +kernel, rfl, by decide +kernel, by decide +kernel⟩
def spNeedYard : Sp := fun vs H Q _ => ∃ (y : Addr) (many : Nat) (ws : List Wl), vs = [.ref y] ∧ YardAt H y many ws ∧ YOk many ws ∧ ∀ H', Same H H' → Q .non H'
theorem cb_need_yard (D : Df K mg "need_yard" sNeedYard ["value"]) (T : Gb mg) (c1 : Cb P w K mg base 2 "is_from" spIsFrom) (c2 : Cb P w K mg base 3 "is_wall" spIsWall) : Cb P w K mg base 4 "need_yard" spNeedYard := by
  refine D.ok scNeedYard (fun vs H Q E h => ?_) (fun f cdv A outer s H vs Q E hr h => ?_)
  · obtain ⟨y, many, ws, rfl, _⟩ := h
    rfl
  · obtain ⟨y, many, ws, rfl, hY, ok, q⟩ := h
    obtain ⟨wa, as, h1, h2, h3, h4⟩ := id hY
    obtain ⟨tr, mr⟩ := T.rooms
    obtain ⟨tw, mw⟩ := T.walls
    refine ⟨_, pss_cons (ps_if (PW.pt (pw_or (pt_not (pt_val (pe_isi T (pv 0) T.tuple b_tuple))) (pw_or (pt_cmpR op_ne (pe_callB call_len_seq (by rfl) T.len b_len (pa_cons (pv 0) pa_nil)) pe_int (nomark _))
        (pw_or1 (pt_not (pt_val (pe_cb c1 hr (pa_cons (pe_ix ix_tup (pv 0) pe_int (fun _ _ => rfl)) (pa_cons pe_int (pa_cons (pe_glob (v := .int 9) rfl mr ⟨_, rfl⟩) pa_nil)))))))))) pss_never pss_nil)
      (pss_cons (ps_if (PW.pt (pw_or (pt_not (pt_val (pe_isi T (pe_ix ix_tup (pv 0) pe_int (fun _ _ => rfl)) T.tuple b_tuple))) (pw_or1 (pt_cmpR op_gt (pe_callB call_len_seq (by rfl) T.len b_len (pa_cons (pe_ix ix_tup (pv 0) pe_int (fun _ _ => rfl)) pa_nil))
        (pe_glob (v := .int 12) rfl mw ⟨_, rfl⟩) (nomark _))))) pss_never pss_nil)
      (pss_one (ps_for PassesOwn.never rfl (pi_enumT (by rfl) T.enum (pa_cons (pe_ix ix_tup (pv 0) pe_int (fun _ _ => rfl)) pa_nil))
        (pg_tup rfl (pgs_cons (pg_name (i := 1) scNeedYard.nd rfl (.inl rfl)) (pgs_cons (pg_name (i := 2) scNeedYard.nd rfl (.inl rfl)) pgs_nil)))
        (pss_one (ps_if (pt_not (pt_val (pe_cb c2 hr (pa_cons (pv 2) (pa_cons (pe_ix ix_tup (pv 0) pe_int (fun _ _ => rfl)) pa_nil))))) pss_never pss_nil))))), ?_⟩
    refine ⟨_, rfl, _, _, _, _, rfl, ty_tup h1, k_tt, _, rfl, iteF ⟨_, rfl, y, _, rfl, .inr (SqT.of h1), rfl, _, rfl, iteF ?_⟩⟩
    refine ⟨_, rfl, y, _, 0, .int many, rfl, rfl, SqT.of h1, atI_nat (j := 0) rfl, many, 1, 9, rfl, _, rfl, ?_⟩
    have o1 := ok.1
    have o2 := ok.2.1
    rw [decide_eq_true ⟨by omega, by omega⟩]
    refine iteF ?_
    refine ⟨_, rfl, y, _, 1, .ref wa, rfl, rfl, SqT.of h1, atI_nat (j := 1) rfl, _, _, _, _, rfl, ty_tup h2, k_tt, _, rfl, iteF ?_⟩
    refine ⟨_, rfl, y, _, 1, .ref wa, rfl, rfl, SqT.of h1, atI_nat (j := 1) rfl, wa, _, rfl, .inr (SqT.of h2), _, _, rfl, rfl, _, rfl, ?_⟩
    have o3 := ok.2.2.1
    have hn : (as.map V.ref).length = ws.length := by rw [List.length_map, h3]
    rw [decide_eq_false (by rw [hn]; omega)]
    refine iteF ?_
    refine ⟨_, rfl, y, _, 1, .ref wa, rfl, rfl, SqT.of h1, atI_nat (j := 1) rfl, wa, _, rfl, SqT.of h2, ?_⟩
    refine for_enumT (K := K) (a := wa) (xs := as.map V.ref) (fun i σ H1 => Same H H1 ∧ ∃ a b, σ = [some (.ref y), a, b]) ⟨Same.refl H, none, none, rfl⟩ (fun i σ H1 _ p => SqT.of (p.1 _ _ h2)) ?_ (fun σ H1 p => q H1 p.1)
    rintro i x σ H1 Tp hx ⟨S, a, b, rfl⟩ nT
    have sT := same_upd (o := .tup [.int (i : Nat), x]) nT
    obtain ⟨ax, hax, rfl⟩ : ∃ ax, as[i]? = some ax ∧ x = V.ref ax := by
      rw [List.getElem?_map] at hx
      cases e : as[i]? with
      | none => rw [e] at hx; cases hx
      | some ax => rw [e] at hx; exact ⟨ax, rfl, (Option.some.inj hx).symm⟩
    have hi : i < ws.length := by rw [← h3]; exact (List.getElem?_eq_some_iff.mp hax).1
    obtain ⟨ax', e1, e2⟩ := h4 i ws[i] (List.getElem?_eq_getElem hi)
    have ea : ax' = ax := Option.some.inj (e1.symm.trans hax)
    subst ea
    obtain ⟨w1, w2, w3⟩ := ok.2.2.2 ws[i] (List.getElem_mem hi)
    refine ⟨Tp, _, rfl, SqT.of upd_same, rfl, _, _, rfl, _, _, rfl, rfl, ?_⟩
    refine ⟨_, rfl, _, rfl, y, _, 0, .int many, rfl, rfl, SqT.of ((S.trans sT) _ _ h1), atI_nat (j := 0) rfl, ax', many, _, _, _, rfl, (S.trans sT) _ _ e2, by omega, by omega, by omega, by omega, by omega, _, rfl, ?_⟩
    refine iteF ⟨S.trans sT, _, _, rfl⟩
end
end W35P
end

section
set_option maxRecDepth 100000
set_option maxHeartbeats 4000000
/-! reached, joined -/
namespace W35P
open PySem PySem.Spec PyProof.Rows L2 W35 W35R

/-! ### what the two loops keep -/
structure Fnd (R : Nat → Prop) (fs : List Nat) : Prop where
  nd : fs.Nodup
  z : 0 ∈ fs
  ok : ∀ r, r ∈ fs → R r
theorem Fnd.start {R : Nat → Prop} (h : R 0) : Fnd R [0] := ⟨by simp, by simp, fun r hr => by rw [List.mem_singleton.mp hr]; exact h⟩
theorem Fnd.add {R : Nat → Prop} {fs : List Nat} {v : Nat} (h : Fnd R fs) (hv : v ∉ fs) (r : R v) : Fnd R (fs ++ [v]) := by
  refine ⟨List.nodup_append.mpr ⟨h.nd, by simp, fun a ha b hb e => ?_⟩, List.mem_append_left _ h.z, fun x hx => ?_⟩
  · rw [List.mem_singleton.mp hb] at e
    exact hv (e ▸ ha)
  · rcases List.mem_append.mp hx with hx | hx
    · exact h.ok x hx
    · rw [List.mem_singleton.mp hx]; exact r
theorem Fnd.len {R : Nat → Prop} {fs : List Nat} {many : Nat} (h : Fnd R fs) (hR : ∀ r, R r → r < many) : fs.length ≤ many := nodup_le many fs h.nd fun r hr => hR r (h.ok r hr)
/-- one wall is closed: nothing more is come to through its gap -/
def ClR (x : Wl) (fs : List Nat) : Prop := (x.lo ∈ fs → x.lo ∈ x.sides → x.hi ∈ fs) ∧ (x.hi ∈ fs → x.hi ∈ x.sides → x.lo ∈ fs)
def ClJ (x : Wl) (fs : List Nat) : Prop := x.lo ∈ fs ↔ x.hi ∈ fs
theorem reach_in {ws : List Wl} {lot fs : List Nat} (z : 0 ∈ fs) (c : ∀ n, n ∈ lot → ∀ x, ws[n]? = some x → ClR x fs) {r : Nat} (h : Reach ws lot r) : r ∈ fs := by
  induction h with
  | zero => exact z
  | up a b s _ ih => exact (c _ a _ b).1 ih s
  | down a b s _ ih => exact (c _ a _ b).2 ih s
theorem join_in {ws : List Wl} {lot fs : List Nat} (z : 0 ∈ fs) (c : ∀ n, n ∈ lot → ∀ x, ws[n]? = some x → ClJ x fs) {r : Nat} (h : Join ws lot r) : r ∈ fs := by
  induction h with
  | zero => exact z
  | up a b _ ih => exact (c _ a _ b).mp ih
  | down a b _ ih => exact (c _ a _ b).mpr ih
theorem nats_of {ms : List Int} {fs : List Nat} (h : ms.Perm (zs fs)) : ∃ rs : List Nat, ms = zs rs ∧ rs.Perm fs := by
  refine ⟨ms.map Int.toNat, ?_, ?_⟩
  · have nn : ∀ x ∈ ms, ((x.toNat : Nat) : Int) = x := fun x hx => by
      obtain ⟨n, _, e⟩ := List.mem_map.mp (h.mem_iff.mp hx)
      omega
    unfold zs
    rw [List.map_map]
    have : ms.map ((fun n : Nat => (n : Int)) ∘ Int.toNat) = ms.map id := List.map_congr_left nn
    rw [this, List.map_id]
  · have := h.map Int.toNat
    unfold zs at this
    rw [List.map_map] at this
    have e : fs.map (Int.toNat ∘ fun n : Nat => (n : Int)) = fs := List.map_id'' (fun x => Int.toNat_natCast x) fs
    rw [e] at this
    exact this
theorem samePut {H H1 : Hp} {p : Addr} {o : HO} (s : Same H H1) (h : H p = none) : Same H (upd H1 p o) := fun b x e => by
  rw [upd_ne (ne_of_none e h)]
  exact s b x e
theorem sameNew {H H1 : Hp} {p : Addr} {o : HO} (s : Same H H1) (h : H1 p = none) : Same H (upd H1 p o) := s.trans (same_upd h)

theorem zs_iv (l : List Nat) : iv l = (zs l).map V.int := (iv_zs l).symm
theorem app_iv (l : List Nat) (v : Nat) : iv l ++ [V.int (v : Int)] = iv (l ++ [v]) := by
  rw [iv, iv, List.map_append]
  rfl
theorem at_iv {l : List Nat} {i n : Nat} (h : l[i]? = some n) : (iv l)[i]? = some (V.int (n : Int)) := by
  rw [iv, List.getElem?_map, h]
  rfl
theorem of_at_iv {l : List Nat} {i : Nat} {x : V} (h : (iv l)[i]? = some x) : ∃ n : Nat, l[i]? = some n ∧ x = V.int (n : Int) := by
  rw [iv, List.getElem?_map] at h
  cases e : l[i]? with
  | none => rw [e] at h; cases h
  | some n => rw [e] at h; exact ⟨n, rfl, (Option.some.inj h).symm⟩
theorem small9 {n : Nat} (h : n ≤ 1000) : n < sizeLine := Nat.lt_of_le_of_lt h (by decide)
theorem mem_take_succ {l : List Nat} {i n m : Nat} (h : l[i]? = some n) (hm : m ∈ l.take (i + 1)) : m ∈ l.take i ∨ m = n := by
  rw [List.take_add_one, h] at hm
  rcases List.mem_append.mp hm with hm | hm
  · exact .inl hm
  · exact .inr (by simpa using hm)
section
variable {P : Program} {w : World} {K : PySem.W.Frag} {mg : Str → Option Value} {base : Heap}
abbrev sReached : Stmt := topS 15
theorem scReached : FnScope ["yard", "lot", "found", "rising", "number", "low", "high", "side", "one", "other"] ["yard", "lot"] (defScope sReached) := ⟨rfl, rfl, rfl, by decide +kernel, rfl, by decide +kernel, by decide +kernel⟩
def spReached : Sp := fun vs H Q _ => ∃ (y l : Addr) (many : Nat) (ws : List Wl) (lot : List Nat), vs = [.ref y, .ref l] ∧ YardAt H y many ws ∧ YOk many ws ∧ TupAt H l lot ∧ (∀ i, i ∈ lot → i < ws.length) ∧
  ∀ (H' : Hp) (p : Addr) (rs : List Nat), Same H H' → H p = none → LstAt H' p rs → (∀ r, r ∈ rs ↔ Reach ws lot r) → Q (.ref p) H'
set_option maxHeartbeats 16000000 in
theorem cb_reached (D : Df K mg "reached" sReached ["yard", "lot"]) (T : Gb mg) (c1 : Cb P w K mg base 1 "sides_of" spSides) : Cb P w K mg base 2 "reached" spReached := by
  refine D.ok scReached (fun vs H Q E h => ?_) (fun f cdv A outer s H vs Q E hr h => ?_)
  · obtain ⟨y, l, many, ws, lot, rfl, _⟩ := h
    rfl
  · obtain ⟨y, l, many, ws, lot, rfl, hY, ok, hL, hlt, q⟩ := h
    obtain ⟨wa, as, h1, h2, h3, h4⟩ := id hY
    have nd := scReached.nd
    refine ⟨_, pss_cons (ps_par (i := 2) (j := 3) rfl nd rfl rfl (by decide) rfl rfl (pa_cons (pe_lst (pa_cons pe_int pa_nil)) (pa_cons pe_bl pa_nil)) (by rfl))
      (pss_cons (ps_while PassesOwn.never (pt_val (pv 3))
        (pss_cons (ps_set (i := 3) nd rfl (.inl rfl) pe_bl)
        (pss_one (ps_for PassesOwn.never rfl (pi_tup (pv 1)) (pg_name (i := 4) nd rfl (.inl rfl))
          (pss_cons (ps_asg (pe_ix ix_tup (pe_ix ix_tup (pv 0) pe_int (fun _ _ => rfl)) (pv 4) (fun _ _ => rfl)) (pg_tup rfl (pgs_cons (pg_name (i := 5) nd rfl (.inl rfl)) (pgs_cons (pg_name (i := 6) nd rfl (.inl rfl)) (pgs_cons (pg_name (i := 7) nd rfl (.inl rfl)) pgs_nil)))))
          (pss_one (ps_for PassesOwn.never rfl (pi_tup (pe_tup (pa_cons (pe_tup (pa_cons (pv 5) (pa_cons (pv 6) pa_nil))) (pa_cons (pe_tup (pa_cons (pv 6) (pa_cons (pv 5) pa_nil))) pa_nil))))
            (pg_tup rfl (pgs_cons (pg_name (i := 8) nd rfl (.inl rfl)) (pgs_cons (pg_name (i := 9) nd rfl (.inl rfl)) pgs_nil)))
            (pss_one (ps_if (PW.pt (pw_and (pt_cmpR op_in_seq (pv 8) (pv 2) (by rfl)) (pw_and (pt_cmpR op_notIn_seq (pv 9) (pv 2) (by rfl)) (pw_and1 (pt_cmpR op_in_seq (pv 8)
                (pe_cb c1 hr (pa_cons (pe_ix ix_tup (pe_ix ix_tup (pv 0) pe_int (fun _ _ => rfl)) (pv 4) (fun _ _ => rfl)) pa_nil)) (by rfl))))))
              (pss_cons (ps_expr (pe_bm PySem.F.plainAttrs_list PySem.F.slot_list_append PySem.F.type_list_append mt_append (pv 2) (pa_cons (pv 9) pa_nil))) (pss_one (ps_set (i := 3) nd rfl (.inl rfl) pe_bl))) pss_nil)))))))))
      (pss_one (ps_ret (pe_callB cr_sortedI (by rfl) T.sorted b_sorted (pa_cons (pv 2) pa_nil))))), ?_⟩
    refine ⟨by show 1 ≤ sizeLine; decide, fun fd nfd => ⟨_, _, rfl, ?_⟩⟩
    have lenB : ∀ {fs : List Nat}, Fnd (Reach ws lot) fs → fs.length ≤ many := fun h => h.len fun r x => x.lt ok
    -- while rising
    refine ⟨fun m σ H1 => ∃ (fs : List Nat) (b : Bool) (a4 a5 a6 a7 a8 a9 : Option V), σ = [some (.ref y), some (.ref l), some (.ref fd), some (.bl b), a4, a5, a6, a7, a8, a9] ∧ Same H H1 ∧ LstAt H1 fd fs ∧ Fnd (Reach ws lot) fs ∧
        (b = false → ∀ n, n ∈ lot → ∀ x, ws[n]? = some x → ClR x fs) ∧ m = 2 * (many - fs.length) + b.toNat, ⟨_, [0], true, none, none, none, none, none, none, rfl, same_upd nfd, upd_same, Fnd.start .zero, (fun z => by cases z), rfl⟩, ?_⟩
    rintro m σ H1 ⟨fs, b, a4, a5, a6, a7, a8, a9, rfl, S1, hF, hG, hC, rfl⟩
    refine ⟨_, rfl, b, rfl, ?_⟩
    cases b with
    | false =>
      refine iteF ?_
      refine ⟨_, rfl, fd, zs fs, rfl, SqL.of (by rw [iv_zs]; exact hF), fun ms p hp _ np => ?_⟩
      obtain ⟨rs, rfl, hp'⟩ := nats_of hp
      refine q _ p rs (sameNew S1 np) (S1.free np) (by rw [iv_zs]; exact upd_same) fun r => ?_
      rw [hp'.mem_iff]
      exact ⟨hG.ok r, fun x => reach_in hG.z (hC rfl) x⟩
    | true =>
      refine iteT ⟨_, fun σ' H' n => n, ?_⟩
      -- for number in lot
      refine ⟨_, rfl, l, rfl, ⟨_, SqT.of (S1 _ _ hL)⟩, for_tup (K := K) (a := l) (xs := iv lot) (fun i σ H2 => ∃ (fs' : List Nat) (b' : Bool) (a4 a5 a6 a7 a8 a9 : Option V), σ = [some (.ref y), some (.ref l), some (.ref fd), some (.bl b'), a4, a5, a6, a7, a8, a9] ∧ Same H H2 ∧ LstAt H2 fd fs' ∧
        Fnd (Reach ws lot) fs' ∧ (b' = true → fs.length < fs'.length) ∧ (b' = false → fs' = fs ∧ ∀ n, n ∈ lot.take i → ∀ x, ws[n]? = some x → ClR x fs)) ⟨fs, false, _, _, _, _, _, _, rfl, S1, hF, hG, (fun z => by cases z), fun _ => ⟨rfl, fun n hn => by simp at hn⟩⟩
        (fun i σ H2 _ ⟨_, _, _, _, _, _, _, _, _, S2, _⟩ => SqT.of (S2 _ _ hL)) ?_ ?_⟩
      · rintro i x σ H2 hx ⟨fs', b', a4, a5, a6, a7, a8, a9, rfl, S2, hF2, hG2, t1, t2⟩
        obtain ⟨n, hn, rfl⟩ := of_at_iv hx
        have hnl := hlt n (List.mem_of_getElem? hn)
        obtain ⟨xw, hxw⟩ : ∃ xw, ws[n]? = some xw := ⟨ws[n], List.getElem?_eq_getElem hnl⟩
        obtain ⟨ax, e1, e2⟩ := h4 n xw hxw
        have hsd := (ok.2.2.2 xw (List.mem_of_getElem? hxw)).2.2
        have hax : (as.map V.ref)[n]? = some (.ref ax) := by rw [List.getElem?_map, e1]; rfl
        -- low, high, side = yard[1][number]
        refine ⟨_, rfl, y, _, 1, .ref wa, rfl, rfl, SqT.of (S2 _ _ h1), atI_nat (j := 1) rfl, _, rfl, wa, _, n, .ref ax, rfl, rfl, SqT.of (S2 _ _ h2), atI_nat hax, ax, _, rfl, SqT.of (S2 _ _ e2), rfl, _, _, rfl, _, _, rfl, _, _, rfl, rfl, ?_⟩
        -- for one, other in ((low, high), (high, low))
        refine ⟨_, rfl, _, rfl, by show 2 ≤ sizeLine; decide, fun p1 n1 => ⟨_, rfl, _, rfl, by show 2 ≤ sizeLine; decide, fun p2 n2 => ⟨by show 2 ≤ sizeLine; decide, fun p3 n3 => ⟨p3, rfl, ⟨_, SqT.of upd_same⟩, ?_⟩⟩⟩⟩
        have u1 := same_upd (o := .tup [.int (xw.lo : Int), .int (xw.hi : Int)]) n1
        have u2 := same_upd (o := .tup [.int (xw.hi : Int), .int (xw.lo : Int)]) n2
        have u3 := same_upd (o := .tup [.ref p1, .ref p2]) n3
        have S3 := ((S2.trans u1).trans u2).trans u3
        have hF3 := ((u1.trans u2).trans u3) _ _ hF2
        have hp1 := (u2.trans u3) _ _ (upd_same (H := H2) (a := p1) (o := .tup [.int (xw.lo : Int), .int (xw.hi : Int)]))
        have hp2 := u3 _ _ (upd_same (a := p2) (o := .tup [.int (xw.hi : Int), .int (xw.lo : Int)]))
        refine for_tup (K := K) (a := p3) (xs := [.ref p1, .ref p2]) (fun k σ H4 => ∃ (gs : List Nat) (b'' : Bool) (a8 a9 : Option V), σ = [some (.ref y), some (.ref l), some (.ref fd), some (.bl b''), some (.int n), some (.int xw.lo), some (.int xw.hi), some (.int xw.sd), a8, a9] ∧ Same H H4 ∧ LstAt H4 fd gs ∧
            Fnd (Reach ws lot) gs ∧ (b'' = true → fs.length < gs.length) ∧ (b'' = false → gs = fs ∧ (∀ n, n ∈ lot.take i → ∀ x, ws[n]? = some x → ClR x fs) ∧ (1 ≤ k → xw.lo ∈ fs → xw.lo ∈ xw.sides → xw.hi ∈ fs) ∧ (2 ≤ k → xw.hi ∈ fs → xw.hi ∈ xw.sides → xw.lo ∈ fs)) ∧
            H4 p1 = some (.tup [.int xw.lo, .int xw.hi]) ∧ H4 p2 = some (.tup [.int xw.hi, .int xw.lo]) ∧ H4 p3 = some (.tup [.ref p1, .ref p2]))
          ⟨fs', b', _, _, rfl, S3, hF3, hG2, t1, (fun z => ⟨(t2 z).1, (t2 z).2, fun k => by omega, fun k => by omega⟩), hp1, hp2, upd_same⟩ (fun k σ H4 _ ⟨_, _, _, _, _, _, _, _, _, _, _, _, z⟩ => SqT.of z) ?_ ?_
        · rintro k x σ H4 hx ⟨gs, b'', a8, a9, rfl, S4, hF4, hG4, v1, v2, hp1, hp2, hp3⟩
          obtain ⟨u, v, tp, rfl, htp, hreach, hprog⟩ : ∃ (u v : Nat) (tp : Addr), x = .ref tp ∧ H4 tp = some (.tup [.int u, .int v]) ∧ (u ∈ xw.sides → Reach ws lot u → Reach ws lot v) ∧
              ((u ∈ fs → u ∈ xw.sides → v ∈ fs) → (1 ≤ k → xw.lo ∈ fs → xw.lo ∈ xw.sides → xw.hi ∈ fs) ∧ (2 ≤ k → xw.hi ∈ fs → xw.hi ∈ xw.sides → xw.lo ∈ fs) →
                (1 ≤ k + 1 → xw.lo ∈ fs → xw.lo ∈ xw.sides → xw.hi ∈ fs) ∧ (2 ≤ k + 1 → xw.hi ∈ fs → xw.hi ∈ xw.sides → xw.lo ∈ fs)) := by
            match k, hx with
            | 0, hx =>
              have e : V.ref p1 = x := Option.some.inj hx
              exact ⟨xw.lo, xw.hi, p1, e.symm, hp1, fun a b => .up (List.mem_of_getElem? hn) hxw a b, fun a b => ⟨fun _ => a, fun z => by omega⟩⟩
            | 1, hx =>
              have e : V.ref p2 = x := Option.some.inj hx
              exact ⟨xw.hi, xw.lo, p2, e.symm, hp2, fun a b => .down (List.mem_of_getElem? hn) hxw a b, fun a b => ⟨fun _ => b.1 (Nat.le_refl _), fun _ => a⟩⟩
            | k + 2, hx => simp at hx
          refine ⟨tp, _, rfl, SqT.of htp, rfl, _, _, rfl, _, _, rfl, rfl, ?_⟩
          -- one in found and other not in found and one in sides_of(..)
          refine ⟨_, rfl, _, rfl, fd, _, rfl, .inl (SqL.of hF4), rfl, flat_iv _, _, rfl, ?_⟩
          show (if (if false then !inV (.int u) (iv gs) else inV (.int u) (iv gs)) = true then _ else _)
          rw [if_neg Bool.false_ne_true, inV_iv]
          have stay : ∀ {H5 : Hp}, Same H4 H5 → ¬ (u ∈ gs ∧ v ∉ gs ∧ u ∈ xw.sides) → Same H H5 ∧ LstAt H5 fd gs ∧ Fnd (Reach ws lot) gs ∧ (b'' = true → fs.length < gs.length) ∧ (b'' = false → gs = fs ∧ (∀ n, n ∈ lot.take i → ∀ x, ws[n]? = some x → ClR x fs) ∧ (1 ≤ k + 1 → xw.lo ∈ fs → xw.lo ∈ xw.sides → xw.hi ∈ fs) ∧ (2 ≤ k + 1 → xw.hi ∈ fs → xw.hi ∈ xw.sides → xw.lo ∈ fs)) ∧
              H5 p1 = some (.tup [.int xw.lo, .int xw.hi]) ∧ H5 p2 = some (.tup [.int xw.hi, .int xw.lo]) ∧ H5 p3 = some (.tup [.ref p1, .ref p2]) := fun {H5} s5 no => by
            refine ⟨S4.trans s5, s5 _ _ hF4, hG4, v1, fun z => ?_, s5 _ _ hp1, s5 _ _ hp2, s5 _ _ hp3⟩
            obtain ⟨z1, z2, z3⟩ := v2 z
            refine ⟨z1, z2, hprog (fun a b => ?_) z3⟩
            rw [← z1] at a ⊢
            exact Classical.byContradiction fun c => no ⟨a, c, b⟩
          by_cases hu : u ∈ gs
          · rw [if_pos (decide_eq_true hu)]
            refine ⟨_, rfl, _, rfl, fd, _, rfl, .inl (SqL.of hF4), rfl, flat_iv _, _, rfl, ?_⟩
            show (if (if true then !inV (.int v) (iv gs) else inV (.int v) (iv gs)) = true then _ else _)
            rw [if_pos rfl, inV_iv]
            by_cases hv : v ∈ gs
            · rw [if_neg (by simp [hv])]
              exact iteF ⟨gs, b'', _, _, rfl, stay (Same.refl _) fun z => z.2.1 hv⟩
            · rw [if_pos (by simp [hv])]
              refine ⟨_, rfl, _, rfl, y, _, 1, .ref wa, rfl, rfl, SqT.of (S4 _ _ h1), atI_nat (j := 1) rfl, _, rfl, wa, _, n, .ref ax, rfl, rfl, SqT.of (S4 _ _ h2), atI_nat hax, ax, xw, rfl, S4 _ _ e2, hsd, fun H5 p5 s5 np5 hp5 => ?_⟩
              refine ⟨p5, _, rfl, .inr (SqT.of hp5), rfl, flat_iv _, _, rfl, ?_⟩
              show (if (if false then !inV (.int u) (iv xw.sides) else inV (.int u) (iv xw.sides)) = true then _ else _)
              rw [if_neg Bool.false_ne_true, inV_iv]
              by_cases hs : u ∈ xw.sides
              · rw [if_pos (decide_eq_true hs)]
                have lb := lenB hG4
                have o2 := ok.2.1
                refine ⟨_, rfl, .inl ⟨rfl, _, SqL.of (s5 _ _ hF4)⟩, _, rfl, fd, _, _, rfl, rfl, s5 _ _ hF4, small9 (by rw [iv_len]; omega), ?_⟩
                have hfd1 : p1 ≠ fd := fun z => by
                  have a := s5 _ _ hp1
                  rw [z, s5 _ _ hF4] at a
                  cases a
                have hfd2 : p2 ≠ fd := fun z => by
                  have a := s5 _ _ hp2
                  rw [z, s5 _ _ hF4] at a
                  cases a
                have hfd3 : p3 ≠ fd := fun z => by
                  have a := s5 _ _ hp3
                  rw [z, s5 _ _ hF4] at a
                  cases a
                refine ⟨gs ++ [v], true, _, _, rfl, samePut (S4.trans s5) nfd, by rw [app_iv]; exact upd_same, hG4.add hv (hreach hs (hG4.ok u hu)), fun _ => ?_, (fun z => by cases z), by rw [upd_ne hfd1]; exact s5 _ _ hp1, by rw [upd_ne hfd2]; exact s5 _ _ hp2, by rw [upd_ne hfd3]; exact s5 _ _ hp3⟩
                rw [List.length_append]
                have : fs.length ≤ gs.length := by
                  cases hb : b'' with
                  | true => exact Nat.le_of_lt (v1 hb)
                  | false => rw [(v2 hb).1]; exact Nat.le_refl _
                show fs.length < gs.length + 1
                omega
              · rw [if_neg (by simp [hs])]
                exact ⟨gs, b'', _, _, rfl, stay s5 fun z => hs z.2.2⟩
          · rw [if_neg (by simp [hu])]
            exact iteF ⟨gs, b'', _, _, rfl, stay (Same.refl _) fun z => hu z.1⟩
        · rintro σ H4 ⟨gs, b'', a8, a9, rfl, S4, hF4, hG4, v1, v2, _⟩
          refine ⟨gs, b'', _, _, _, _, _, _, rfl, S4, hF4, hG4, v1, fun z => ?_⟩
          obtain ⟨z1, z2, z3, z4⟩ := v2 z
          refine ⟨z1, fun m hm x hmx => ?_⟩
          rcases mem_take_succ hn hm with hm | hm
          · exact z2 m hm x hmx
          · subst hm
            have e : x = xw := Option.some.inj (hmx.symm.trans hxw)
            subst e
            exact ⟨z3 (by show 1 ≤ 2; decide), z4 (by show 2 ≤ 2; decide)⟩
      · rintro σ H2 ⟨fs', b', a4, a5, a6, a7, a8, a9, rfl, S2, hF2, hG2, t1, t2⟩
        have lb := lenB hG2
        refine ⟨2 * (many - fs'.length) + b'.toNat, ?_, fs', b', _, _, _, _, _, _, rfl, S2, hF2, hG2, fun z => ?_, rfl⟩
        · cases hb : b' with
          | true =>
            have := t1 hb
            show 2 * (many - fs'.length) + 1 < 2 * (many - fs.length) + 1
            omega
          | false =>
            rw [(t2 hb).1]
            show 2 * (many - fs.length) + 0 < 2 * (many - fs.length) + 1
            omega
        · obtain ⟨z1, z2⟩ := t2 z
          rw [z1]
          rw [iv_len, List.take_length] at z2
          exact z2

abbrev sJoined : Stmt := topS 16
theorem scJoined : FnScope ["yard", "lot", "found", "rising", "number", "low", "high"] ["yard", "lot"] (defScope sJoined) := ⟨rfl, rfl, rfl, by decide +kernel, rfl, by decide +kernel, by decide +kernel⟩
def spJoined : Sp := fun vs H Q _ => ∃ (y l : Addr) (many : Nat) (ws : List Wl) (lot : List Nat), vs = [.ref y, .ref l] ∧ YardAt H y many ws ∧ YOk many ws ∧ TupAt H l lot ∧ (∀ i, i ∈ lot → i < ws.length) ∧
  ∀ (H' : Hp) (p : Addr) (rs : List Nat), Same H H' → H p = none → LstAt H' p rs → (∀ r, r ∈ rs ↔ Join ws lot r) → Q (.ref p) H'
set_option maxHeartbeats 16000000 in
theorem cb_joined (D : Df K mg "joined" sJoined ["yard", "lot"]) (T : Gb mg) : Cb P w K mg base 1 "joined" spJoined := by
  refine D.ok scJoined (fun vs H Q E h => ?_) (fun f cdv A outer s H vs Q E hr h => ?_)
  · obtain ⟨y, l, many, ws, lot, rfl, _⟩ := h
    rfl
  · obtain ⟨y, l, many, ws, lot, rfl, hY, ok, hL, hlt, q⟩ := h
    obtain ⟨wa, as, h1, h2, h3, h4⟩ := id hY
    have nd := scJoined.nd
    refine ⟨_, pss_cons (ps_par (i := 2) (j := 3) rfl nd rfl rfl (by decide) rfl rfl (pa_cons (pe_lst (pa_cons pe_int pa_nil)) (pa_cons pe_bl pa_nil)) (by rfl))
      (pss_cons (ps_while PassesOwn.never (pt_val (pv 3))
        (pss_cons (ps_set (i := 3) nd rfl (.inl rfl) pe_bl)
        (pss_one (ps_for PassesOwn.never rfl (pi_tup (pv 1)) (pg_name (i := 4) nd rfl (.inl rfl))
          (pss_cons (ps_asg (pe_slice sl_tupA (pe_ix ix_tup (pe_ix ix_tup (pv 0) pe_int (fun _ _ => rfl)) (pv 4) (fun _ _ => rfl)) po_none (po_some pe_int)) (pg_tup rfl (pgs_cons (pg_name (i := 5) nd rfl (.inl rfl)) (pgs_cons (pg_name (i := 6) nd rfl (.inl rfl)) pgs_nil))))
          (pss_one (ps_if (pt_cmpR op_ne (pe_cmpR op_in_seq (pv 5) (pv 2) (by rfl)) (pe_cmpR op_in_seq (pv 6) (pv 2) (by rfl)) (nomark _))
              (pss_cons (ps_expr (pe_bm PySem.F.plainAttrs_list PySem.F.slot_list_append PySem.F.type_list_append mt_append (pv 2) (pa_cons (pe_ifExp (pt_cmpR op_in_seq (pv 5) (pv 2) (by rfl)) (pv 6) (pv 5)) pa_nil)))
                (pss_one (ps_set (i := 3) nd rfl (.inl rfl) pe_bl))) pss_nil)))))))
      (pss_one (ps_ret (pe_callB cr_sortedI (by rfl) T.sorted b_sorted (pa_cons (pv 2) pa_nil))))), ?_⟩
    refine ⟨by show 1 ≤ sizeLine; decide, fun fd nfd => ⟨_, _, rfl, ?_⟩⟩
    have lenB : ∀ {fs : List Nat}, Fnd (Join ws lot) fs → fs.length ≤ many := fun h => h.len fun r x => x.lt ok
    -- while rising
    refine ⟨fun m σ H1 => ∃ (fs : List Nat) (b : Bool) (a4 a5 a6 : Option V), σ = [some (.ref y), some (.ref l), some (.ref fd), some (.bl b), a4, a5, a6] ∧ Same H H1 ∧ LstAt H1 fd fs ∧ Fnd (Join ws lot) fs ∧
        (b = false → ∀ n, n ∈ lot → ∀ x, ws[n]? = some x → ClJ x fs) ∧ m = 2 * (many - fs.length) + b.toNat, ⟨_, [0], true, none, none, none, rfl, same_upd nfd, upd_same, Fnd.start .zero, (fun z => by cases z), rfl⟩, ?_⟩
    rintro m σ H1 ⟨fs, b, a4, a5, a6, rfl, S1, hF, hG, hC, rfl⟩
    refine ⟨_, rfl, b, rfl, ?_⟩
    cases b with
    | false =>
      refine iteF ?_
      refine ⟨_, rfl, fd, zs fs, rfl, SqL.of (by rw [iv_zs]; exact hF), fun ms p hp _ np => ?_⟩
      obtain ⟨rs, rfl, hp'⟩ := nats_of hp
      refine q _ p rs (sameNew S1 np) (S1.free np) (by rw [iv_zs]; exact upd_same) fun r => ?_
      rw [hp'.mem_iff]
      exact ⟨hG.ok r, fun x => join_in hG.z (hC rfl) x⟩
    | true =>
      refine iteT ⟨_, fun σ' H' n => n, ?_⟩
      -- for number in lot
      refine ⟨_, rfl, l, rfl, ⟨_, SqT.of (S1 _ _ hL)⟩, for_tup (K := K) (a := l) (xs := iv lot) (fun i σ H2 => ∃ (fs' : List Nat) (b' : Bool) (a4 a5 a6 : Option V), σ = [some (.ref y), some (.ref l), some (.ref fd), some (.bl b'), a4, a5, a6] ∧ Same H H2 ∧ LstAt H2 fd fs' ∧
        Fnd (Join ws lot) fs' ∧ (b' = true → fs.length < fs'.length) ∧ (b' = false → fs' = fs ∧ ∀ n, n ∈ lot.take i → ∀ x, ws[n]? = some x → ClJ x fs)) ⟨fs, false, _, _, _, rfl, S1, hF, hG, (fun z => by cases z), fun _ => ⟨rfl, fun n hn => by simp at hn⟩⟩
        (fun i σ H2 _ ⟨_, _, _, _, _, _, S2, _⟩ => SqT.of (S2 _ _ hL)) ?_ ?_⟩
      · rintro i x σ H2 hix ⟨fs', b', a4, a5, a6, rfl, S2, hF2, hG2, t1, t2⟩
        obtain ⟨n, hn, rfl⟩ := of_at_iv hix
        have hnl := hlt n (List.mem_of_getElem? hn)
        obtain ⟨xw, hxw⟩ : ∃ xw, ws[n]? = some xw := ⟨ws[n], List.getElem?_eq_getElem hnl⟩
        obtain ⟨ax, e1, e2⟩ := h4 n xw hxw
        have hax : (as.map V.ref)[n]? = some (.ref ax) := by rw [List.getElem?_map, e1]; rfl
        -- low, high = yard[1][number][:2]
        refine ⟨_, rfl, y, _, 1, .ref wa, rfl, rfl, SqT.of (S2 _ _ h1), atI_nat (j := 1) rfl, _, rfl, wa, _, n, .ref ax, rfl, rfl, SqT.of (S2 _ _ h2), atI_nat hax, 2, rfl, ax, _, rfl, SqT.of (S2 _ _ e2), (fun z => absurd (show HT.sIx 3 3 (some 2) = 3 from z.2) (by decide)), fun _ p1 n1 => ?_⟩
        have u1 : Same H2 (upd H2 p1 (.tup (cutV [.int (xw.lo : Int), .int (xw.hi : Int), .int (xw.sd : Int)] none (some 2)))) := same_upd n1
        have ecut : cutV [.int (xw.lo : Int), .int (xw.hi : Int), .int (xw.sd : Int)] none (some 2) = [.int (xw.lo : Int), .int (xw.hi : Int)] := rfl
        rw [ecut] at u1 ⊢
        refine ⟨p1, _, rfl, SqT.of upd_same, rfl, _, _, rfl, _, _, rfl, rfl, ?_⟩
        have S3 := S2.trans u1
        have hF3 := u1 _ _ hF2
        refine ⟨_, rfl, _, rfl, fd, _, rfl, .inl (SqL.of hF3), rfl, flat_iv _, _, rfl, _, rfl, fd, _, rfl, .inl (SqL.of hF3), rfl, flat_iv _, rfl, _, rfl, ?_⟩
        show (if (!decide (V.bl (if false = true then !inV (.int xw.lo) (iv fs') else inV (.int xw.lo) (iv fs')) = V.bl (if false = true then !inV (.int xw.hi) (iv fs') else inV (.int xw.hi) (iv fs')))) = true then _ else _)
        rw [if_neg Bool.false_ne_true, if_neg Bool.false_ne_true, inV_iv, inV_iv]
        have stay : ClJ xw fs' → ∃ (gs : List Nat) (b'' : Bool) (a4 a5 a6 : Option V), ([some (.ref y), some (.ref l), some (.ref fd), some (.bl b'), some (.int n), some (.int xw.lo), some (.int xw.hi)] : L2.St) = [some (.ref y), some (.ref l), some (.ref fd), some (.bl b''), a4, a5, a6] ∧ Same H (upd H2 p1 (.tup [.int (xw.lo : Int), .int (xw.hi : Int)])) ∧
            LstAt (upd H2 p1 (.tup [.int (xw.lo : Int), .int (xw.hi : Int)])) fd gs ∧ Fnd (Join ws lot) gs ∧ (b'' = true → fs.length < gs.length) ∧ (b'' = false → gs = fs ∧ ∀ n, n ∈ lot.take (i + 1) → ∀ x, ws[n]? = some x → ClJ x fs) := fun c => by
          refine ⟨fs', b', _, _, _, rfl, S3, hF3, hG2, t1, fun z => ?_⟩
          obtain ⟨z1, z2⟩ := t2 z
          refine ⟨z1, fun m hm x hmx => ?_⟩
          rcases mem_take_succ hn hm with hm | hm
          · exact z2 m hm x hmx
          · subst hm
            have e : x = xw := Option.some.inj (hmx.symm.trans hxw)
            subst e
            rw [← z1]
            exact c
        have lb := lenB hG2
        have o2 := ok.2.1
        have hlen : fs.length ≤ fs'.length := by
          cases hb : b' with
          | true => exact Nat.le_of_lt (t1 hb)
          | false => rw [(t2 hb).1]; exact Nat.le_refl _
        have grow : ∀ v : Nat, v ∉ fs' → Join ws lot v → ∃ (gs : List Nat) (b'' : Bool) (a4 a5 a6 : Option V), ([some (.ref y), some (.ref l), some (.ref fd), some (.bl true), some (.int n), some (.int xw.lo), some (.int xw.hi)] : L2.St) = [some (.ref y), some (.ref l), some (.ref fd), some (.bl b''), a4, a5, a6] ∧
            Same H (upd (upd H2 p1 (.tup [.int (xw.lo : Int), .int (xw.hi : Int)])) fd (.lst (iv fs' ++ [.int (v : Int)]))) ∧ LstAt (upd (upd H2 p1 (.tup [.int (xw.lo : Int), .int (xw.hi : Int)])) fd (.lst (iv fs' ++ [.int (v : Int)]))) fd gs ∧ Fnd (Join ws lot) gs ∧
            (b'' = true → fs.length < gs.length) ∧ (b'' = false → gs = fs ∧ ∀ n, n ∈ lot.take (i + 1) → ∀ x, ws[n]? = some x → ClJ x fs) := fun v hv jv =>
          ⟨fs' ++ [v], true, _, _, _, rfl, samePut S3 nfd, by rw [app_iv]; exact upd_same, hG2.add hv jv, (fun _ => by rw [List.length_append]; show fs.length < fs'.length + 1; omega), (fun z => by cases z)⟩
        have tyF : tyV K "list" (.ref fd) (upd H2 p1 (.tup [.int (xw.lo : Int), .int (xw.hi : Int)])) := .inl ⟨rfl, _, SqL.of hF3⟩
        by_cases hlo : xw.lo ∈ fs' <;> by_cases hhi : xw.hi ∈ fs'
        · rw [decide_eq_true hlo, decide_eq_true hhi]
          exact iteF (stay ⟨fun _ => hhi, fun _ => hlo⟩)
        · rw [decide_eq_true hlo, decide_eq_false hhi]
          refine iteT ⟨_, rfl, tyF, _, rfl, _, rfl, fd, _, rfl, .inl (SqL.of hF3), rfl, flat_iv _, _, rfl, ?_⟩
          show (if (if false = true then !inV (.int xw.lo) (iv fs') else inV (.int xw.lo) (iv fs')) = true then _ else _)
          rw [if_neg Bool.false_ne_true, inV_iv, if_pos (decide_eq_true hlo)]
          exact ⟨_, rfl, fd, _, _, rfl, rfl, hF3, small9 (by rw [iv_len]; omega), grow xw.hi hhi (.up (List.mem_of_getElem? hn) hxw (hG2.ok _ hlo))⟩
        · rw [decide_eq_false hlo, decide_eq_true hhi]
          refine iteT ⟨_, rfl, tyF, _, rfl, _, rfl, fd, _, rfl, .inl (SqL.of hF3), rfl, flat_iv _, _, rfl, ?_⟩
          show (if (if false = true then !inV (.int xw.lo) (iv fs') else inV (.int xw.lo) (iv fs')) = true then _ else _)
          rw [if_neg Bool.false_ne_true, inV_iv, if_neg (by rw [decide_eq_false hlo]; exact Bool.false_ne_true)]
          exact ⟨_, rfl, fd, _, _, rfl, rfl, hF3, small9 (by rw [iv_len]; omega), grow xw.lo hlo (.down (List.mem_of_getElem? hn) hxw (hG2.ok _ hhi))⟩
        · rw [decide_eq_false hlo, decide_eq_false hhi]
          exact iteF (stay ⟨fun z => absurd z hlo, fun z => absurd z hhi⟩)
      · rintro σ H2 ⟨fs', b', a4, a5, a6, rfl, S2, hF2, hG2, t1, t2⟩
        have lb := lenB hG2
        refine ⟨2 * (many - fs'.length) + b'.toNat, ?_, fs', b', _, _, _, rfl, S2, hF2, hG2, fun z => ?_, rfl⟩
        · cases hb : b' with
          | true =>
            have := t1 hb
            show 2 * (many - fs'.length) + 1 < 2 * (many - fs.length) + 1
            omega
          | false =>
            rw [(t2 hb).1]
            show 2 * (many - fs.length) + 0 < 2 * (many - fs.length) + 1
            omega
        · obtain ⟨z1, z2⟩ := t2 z
          rw [z1]
          rw [iv_len, List.take_length] at z2
          exact z2
end
end W35P
end

section
set_option maxRecDepth 100000
set_option maxHeartbeats 4000000
/-! == and != of lists of ints, of a list with []; the scopes of the comprehensions. -/
namespace W35P
open PySem PySem.Spec PyProof.Rows L2 W35 W35R

/-- ints, or tuples of ints -/
def Pl (K : PySem.W.Frag) (H : Hp) (x : V) : Prop := (∃ i, x = .int i) ∨ ∃ (t : Addr) (ns : List Int), x = .ref t ∧ SqT K H t (ns.map V.int)
theorem dpInts {K : PySem.W.Frag} {H : Hp} : ∀ ns : List Int, DpAll K H (ns.map V.int) (ns.map PyData.int)
  | [] => .nil
  | n :: ns => .cons (.int n) (dpInts ns)
theorem layInts : ∀ ns : List Int, PyData.canLayAll0 (ns.map PyData.int) = true
  | [] => rfl
  | n :: ns => by
    show PyData.canLayAll0 (PyData.int n :: ns.map PyData.int) = true
    rw [PyData.canLayAll0, layInts ns]
    rfl
theorem depthInts : ∀ ns : List Int, PyData.depthAll (ns.map PyData.int) = 0
  | [] => rfl
  | n :: ns => by
    show PyData.depthAll (PyData.int n :: ns.map PyData.int) = 0
    rw [PyData.depthAll, depthInts ns]
    rfl
theorem shapedInts (ns : List Int) : SeqAt.shaped (.list (ns.map PyData.int)) = true := by
  unfold SeqAt.shaped
  rw [PyData.canLay0, layInts, PyData.depth, depthInts]
  rfl
theorem dpPl {K : PySem.W.Frag} {H : Hp} : ∀ xs : List V, (∀ x ∈ xs, Pl K H x) → ∃ ds, DpAll K H xs ds ∧ PyData.canLayAll0 ds = true ∧ PyData.depthAll ds ≤ 1 ∧ (ds = [] ↔ xs = [])
  | [], _ => ⟨[], .nil, rfl, by decide, by simp⟩
  | x :: xs, h => by
    obtain ⟨ds, h1, h2, h3, _⟩ := dpPl xs fun y hy => h y (List.mem_cons_of_mem _ hy)
    rcases h x List.mem_cons_self with ⟨i, rfl⟩ | ⟨t, ns, rfl, ht⟩
    · refine ⟨.int i :: ds, .cons (.int i) h1, ?_, ?_, by simp⟩
      · rw [PyData.canLayAll0, h2]
        rfl
      · rw [PyData.depthAll, PyData.depth]
        omega
    · refine ⟨.tuple (ns.map PyData.int) :: ds, .cons (.tup ht (dpInts ns)) h1, ?_, ?_, by simp⟩
      · rw [PyData.canLayAll0, h2, PyData.canLay0, layInts]
        rfl
      · rw [PyData.depthAll, PyData.depth, depthInts]
        omega
section
variable {X : Cx}
def rEqZ (K : PySem.W.Frag) : R2 := fun x y H Q => ∃ (a b : Addr) (ns ms : List Int), x = .ref a ∧ y = .ref b ∧ SqL K H a (ns.map V.int) ∧ SqL K H b (ms.map V.int) ∧ Q (.bl (decide (ns = ms))) H
def rNeZ (K : PySem.W.Frag) : R2 := fun x y H Q => ∃ (a b : Addr) (ns ms : List Int), x = .ref a ∧ y = .ref b ∧ SqL K H a (ns.map V.int) ∧ SqL K H b (ms.map V.int) ∧ Q (.bl (!decide (ns = ms))) H
theorem eqvInts (ns ms : List Int) : PyData.eqv (.list (ns.map PyData.int)) (.list (ms.map PyData.int)) = decide (ns = ms) := by
  rw [PyData.eqv]
  exact PySem.W.ked_eqvAll ns ms
theorem op_eqZ (hu : X.A.units + 64 < cLine) : OpR X (compareOp .Eq) (rEqZ X.K) := fun pins s σ H x y v u Q I rx ry h => by
  obtain ⟨a, b, ns, ms, rfl, rfl, ha, hb, q⟩ := h
  exact op_eqD hu pins s σ H _ _ v u Q I rx ry ⟨_, _, .lst ha (dpInts ns), .lst hb (dpInts ms), shapedInts ns, shapedInts ms, by rw [eqvInts]; exact q⟩
theorem op_neZ (hu : X.A.units + 64 < cLine) : OpR X (compareOp .NotEq) (rNeZ X.K) := fun pins s σ H x y v u Q I rx ry h => by
  obtain ⟨a, b, ns, ms, rfl, rfl, ha, hb, q⟩ := h
  exact op_neD hu pins s σ H _ _ v u Q I rx ry ⟨_, _, .lst ha (dpInts ns), .lst hb (dpInts ms), shapedInts ns, shapedInts ms, by rw [eqvInts]; exact q⟩
/-- a list against an empty one -/
def rEq0 (K : PySem.W.Frag) : R2 := fun x y H Q => ∃ (a b : Addr) (xs : List V), x = .ref a ∧ y = .ref b ∧ SqL K H a xs ∧ SqL K H b [] ∧ (∀ z ∈ xs, Pl K H z) ∧ Q (.bl xs.isEmpty) H
def rNe0 (K : PySem.W.Frag) : R2 := fun x y H Q => ∃ (a b : Addr) (xs : List V), x = .ref a ∧ y = .ref b ∧ SqL K H a xs ∧ SqL K H b [] ∧ (∀ z ∈ xs, Pl K H z) ∧ Q (.bl (!xs.isEmpty)) H
theorem eqv0 {ds : List PyData} {xs : List V} (h : ds = [] ↔ xs = []) : PyData.eqv (.list ds) (.list []) = xs.isEmpty := by
  rw [PyData.eqv]
  cases ds with
  | nil =>
    rw [h.mp rfl]
    rfl
  | cons d ds =>
    cases xs with
    | nil => cases h.mpr rfl
    | cons x xs => rfl
theorem shaped1 {ds : List PyData} (h1 : PyData.canLayAll0 ds = true) (h2 : PyData.depthAll ds ≤ 1) : SeqAt.shaped (.list ds) = true := by
  unfold SeqAt.shaped
  rw [PyData.canLay0, h1, PyData.depth]
  exact decide_eq_true (by omega)
theorem op_eq0 (hu : X.A.units + 64 < cLine) : OpR X (compareOp .Eq) (rEq0 X.K) := fun pins s σ H x y v u Q I rx ry h => by
  obtain ⟨a, b, xs, rfl, rfl, ha, hb, hx, q⟩ := h
  obtain ⟨ds, d1, d2, d3, d4⟩ := dpPl xs hx
  exact op_eqD hu pins s σ H _ _ v u Q I rx ry ⟨_, _, .lst ha d1, .lst hb .nil, shaped1 d2 d3, shapedInts [], by rw [eqv0 d4]; exact q⟩
theorem op_ne0 (hu : X.A.units + 64 < cLine) : OpR X (compareOp .NotEq) (rNe0 X.K) := fun pins s σ H x y v u Q I rx ry h => by
  obtain ⟨a, b, xs, rfl, rfl, ha, hb, hx, q⟩ := h
  obtain ⟨ds, d1, d2, d3, d4⟩ := dpPl xs hx
  exact op_neD hu pins s σ H _ _ v u Q I rx ry ⟨_, _, .lst ha d1, .lst hb .nil, shaped1 d2 d3, shapedInts [], by rw [eqv0 d4]; exact q⟩
end
/-! ### rules within a comprehension's block: the written part by its own name -/
section
variable {X : Cx}
theorem inK (K : PySem.W.Frag) (h : X.K = K := by rfl) : OpR X (compareOp .In) (rIn K false) := h ▸ op_in_seq
theorem notInK (K : PySem.W.Frag) (h : X.K = K := by rfl) : OpR X (compareOp .NotIn) (rIn K true) := h ▸ op_notIn_seq
theorem anyK (K : PySem.W.Frag) (hc : X.calm = true := by rfl) (h : X.K = K := by rfl) : CallR X (.builtin "any") (rAny K) := h ▸ cr_any hc
theorem ixTK (K : PySem.W.Frag) (h : X.K = K := by rfl) : IxR X (rIxT K) := h ▸ ix_tup
theorem ixLK (K : PySem.W.Frag) (h : X.K = K := by rfl) : IxR X (rIxL K) := h ▸ ix_list
theorem is1K (K : PySem.W.Frag) (h : X.K = K := by rfl) : CallR X (.builtin "isinstance") (rIs1 K) := h ▸ call_is1
theorem lenK (K : PySem.W.Frag) (h : X.K = K := by rfl) : CallR X (.builtin "len") (fun xs H Q => ∃ p ys, xs = [.ref p] ∧ (SqL K H p ys ∨ SqT K H p ys) ∧ Q (.int ys.length) H) := h ▸ call_len_seq
theorem piTK {tg l : Expr} {tl : TE} (K : PySem.W.Frag) (hl : PE X l tl) (h : X.K = K := by rfl) : PI X tg l (iTup K tl) := h ▸ pi_tup hl
theorem pgTK {es : List Expr} {k : Nat} {t : TGs} {n : Nat} {pos : Pos} (K : PySem.W.Frag) (hp : PGs X es t) (hc : X.calm = true := by rfl) (h : X.K = K := by rfl)
    (hn : (assignEach es X.env).length = n := by rfl) (hst : (assignEach es X.env).findIdx? (·.1) = none := by rfl) : PG X (.Tuple es k pos) (gTup K n t) := h ▸ pg_tup hc hp hn hst
theorem pe_isiK {e : Expr} {te : TE} {n : Str} {m : String} {p q pos : Pos} (K : PySem.W.Frag) (hi : X.mg "isinstance" = none) (he : PE X e te) (hm : X.mg n = none) (hv : bootBuiltins n = some (.type m)) (h : X.K = K := by rfl) (hg : Gl X "isinstance" := by rfl) (hg2 : Gl X n := by rfl)
    (hn : n ≠ "__name__" := by decide) (hd : (n == ("__debug__" : Str)) = false := by decide) (s1 : starEach [e, .Name n q] X.env = (false, eval e X.env) :: starEach [.Name n q] X.env := by rfl)
    (s2 : (backTo pos (starEach [.Name n q] X.env)).any (·.1) = false := by rfl) (s3 : starEach [.Name n q] X.env = (false, eval (.Name n q) X.env) :: starEach [] X.env := by rfl) :
    PE X (.Call (.Name "isinstance" p) [e, .Name n q] [] pos) (tCB (rIs1 K) (tCons te (tCons (tC (.ty m)) tNil))) :=
  pe_callB (he := s1) (hpl := s2) (is1K K h) hg hi b_isi (pa_cons (hs := s1) he (pa_cons (hs := s3) (pe_ty hm hv hg2 hn hd) pa_nil))
end
/-! ### scopes of comprehensions -/
def sc0 : Scope := { kind := .function, names := [], isGenerator := false, isCoroutine := false }
def lcS (e : Expr) : Scope := match e with
  | .ListComp _ _ sc _ => sc
  | _ => sc0
def lcElt (e : Expr) : Expr := match e with
  | .ListComp e _ _ _ => e
  | e => e
def lcIf (e : Expr) : Expr := match e with
  | .ListComp _ (⟨_, _, c :: _, _⟩ :: _) _ _ => c
  | e => e
def arg0 (e : Expr) : Expr := match e with
  | .Call _ (a :: _) _ _ => a
  | e => e
def retE (s : Stmt) : Expr := match s with
  | .Return (some e) _ => e
  | _ => .Constant .none 0 ⟨0, 0, 0, 0⟩
def asgE (s : Stmt) : Expr := match s with
  | .Assign _ e _ => e
  | _ => .Constant .none 0 ⟨0, 0, 0, 0⟩
def bodyAt (s : Stmt) (i : Nat) : Stmt := (defBody s).getD i (.Pass ⟨0, 0, 0, 0⟩)
end W35P
end

section
set_option maxRecDepth 100000
set_option maxHeartbeats 8000000
/-! rest_of, need_order, is_growth, can_come_of -/
namespace W35P
open PySem PySem.Spec PyProof.Rows L2 W35 W35R
section
variable {P : Program} {w : World} {K : PySem.W.Frag} {mg : Str → Option Value} {base : Heap}

abbrev sRest : Stmt := topS 17
abbrev lcRest : Expr := arg0 (retE (bodyAt sRest 0))
theorem scRest : FnScope ["yard", "lot", "number"] ["yard", "lot"] (defScope sRest) := ⟨rfl, rfl, rfl, by decide +kernel, rfl, by decide +kernel, by decide +kernel⟩
theorem blRest : BlkOk ["yard", "lot", "number"] (defScope sRest) (lcS lcRest) [("number", 2)] := blkOk_by (by decide +kernel)
def spRest : Sp := fun vs H Q _ => ∃ (y l : Addr) (many : Nat) (ws : List Wl) (lot : List Nat), vs = [.ref y, .ref l] ∧ YardAt H y many ws ∧ ws.length ≤ 6 ∧ TupAt H l lot ∧
  ∀ (H' : Hp) (p : Addr) (cs : List Nat), Same H H' → H p = none → TupAt H' p cs → (∀ i, i ∈ cs ↔ i < ws.length ∧ i ∉ lot) → cs.length ≤ ws.length → Q (.ref p) H'
theorem filter_snoc {p : Nat → Bool} {l : List Nat} {i n : Nat} (h : l[i]? = some n) : (l.take (i + 1)).filter p = if p n = true then (l.take i).filter p ++ [n] else (l.take i).filter p := by
  rw [List.take_add_one, h, List.filter_append]
  show _ ++ List.filter p [n] = _
  by_cases hp : p n = true
  · rw [if_pos hp, List.filter_cons, if_pos hp]
    rfl
  · rw [if_neg hp, List.filter_cons, if_neg hp, List.filter_nil, List.append_nil]
theorem cb_rest (D : Df K mg "rest_of" sRest ["yard", "lot"]) (T : Gb mg) (c1 : Cb P w K mg base 1 "every" spEvery) : Cb P w K mg base 2 "rest_of" spRest := by
  refine D.ok scRest (fun vs H Q E h => ?_) (fun f cdv A outer s H vs Q E hr h => ?_)
  · obtain ⟨y, l, many, ws, lot, rfl, _⟩ := h
    rfl
  · obtain ⟨y, l, many, ws, lot, rfl, hY, hl, hL, q⟩ := h
    have nd := scRest.nd
    refine ⟨_, pss_one (ps_ret (pe_tupleOf (by rfl) T.tuple (pe_lc (own := [("number", 2)]) (g := gName 2) rfl nd (pi_tup (pe_cb c1 hr (pa_cons (pv 0) pa_nil))) blRest (fun _ _ _ _ _ => pg_name (i := 2) nd rfl (Or.inl rfl))
      (fun _ _ _ _ _ => pts_one (pt_cmpR (notInK K) (pv 2) (pv 1) (by rfl))) (fun _ _ _ _ _ => pv 2)))), ?_⟩
    refine ⟨_, rfl, y, many, ws, rfl, hY, hl, fun H1 p1 S1 np1 hp1 => ⟨p1, rfl, ⟨_, SqT.of hp1⟩, fun D nD => ?_⟩⟩
    refine lc_tup (K := K) (a := p1) (xs := iv (all ws)) (fun i H2 => Same H1 H2 ∧ LstAt H2 D (((all ws).take i).filter fun i => decide (i ∉ lot))) ⟨same_upd nD, upd_same⟩ (fun i H2 _ p => SqT.of (p.1 _ _ hp1)) ?_ ?_
    · rintro i x H2 hx ⟨S2, hD⟩
      obtain ⟨n, hn, rfl⟩ := of_at_iv hx
      refine ⟨rfl, _, rfl, _, rfl, l, _, rfl, .inr (SqT.of ((S1.trans S2) _ _ hL)), rfl, flat_iv _, _, rfl, ?_⟩
      show (if (if true = true then !inV (.int n) (iv lot) else inV (.int n) (iv lot)) = true then _ else _)
      rw [if_pos rfl, inV_iv]
      have hlen : (((all ws).take i).filter fun i => decide (i ∉ lot)).length ≤ 6 := by
        refine Nat.le_trans (List.length_filter_le _ _) ?_
        rw [List.length_take]
        have : (all ws).length = ws.length := List.length_range
        omega
      by_cases hm : n ∈ lot
      · rw [if_neg (by simp [hm])]
        refine ⟨S2, ?_⟩
        rw [filter_snoc hn, if_neg (by simp [hm])]
        exact hD
      · rw [if_pos (by simp [hm])]
        refine ⟨_, rfl, _, hD, small9 (by rw [iv_len]; omega), samePut S2 nD, ?_⟩
        rw [filter_snoc hn, if_pos (by simp [hm]), app_iv]
        exact upd_same
    · rintro H2 ⟨S2, hD⟩
      rw [iv_len, List.take_length] at hD
      refine .inl ⟨D, _, rfl, SqL.of hD, fun p np => ?_⟩
      refine q _ p _ (S1.trans (sameNew S2 np)) (S1.free (S2.free np)) upd_same (fun i => ?_) ?_
      · rw [List.mem_filter]
        show i ∈ List.range ws.length ∧ _ ↔ _
        rw [List.mem_range]
        simp
      · refine Nat.le_trans (List.length_filter_le _ _) ?_
        exact Nat.le_of_eq List.length_range

abbrev sNeedOrder : Stmt := topS 19
def cond (s : Stmt) : Expr := match s with
  | .If c _ _ _ => c
  | _ => .Constant .none 0 ⟨0, 0, 0, 0⟩
def orAt (e : Expr) (i : Nat) : Expr := match e with
  | .BoolOp _ es _ => es.getD i e
  | e => e
abbrev lcNO : Expr := arg0 (orAt (cond (bodyAt sNeedOrder 0)) 1)
theorem scNO : FnScope ["yard", "value", "one"] ["yard", "value"] (defScope sNeedOrder) := ⟨rfl, rfl, rfl, by decide +kernel, rfl, by decide +kernel, by decide +kernel⟩
theorem blNO : BlkOk ["yard", "value", "one"] (defScope sNeedOrder) (lcS lcNO) [("one", 2)] := blkOk_by (by decide +kernel)
def spNeedOrder : Sp := fun vs H Q _ => ∃ (y o : Addr) (many : Nat) (ws : List Wl) (or : List Nat), vs = [.ref y, .ref o] ∧ YardAt H y many ws ∧ ws.length ≤ 6 ∧ TupAt H o or ∧ or.Perm (all ws) ∧ ∀ H', Same H H' → Q .non H'
theorem sorted_perm : ∀ {l m : List Int}, l.Perm m → l.Pairwise (· ≤ ·) → m.Pairwise (· ≤ ·) → l = m := fun {l m} p h1 h2 =>
  p.eq_of_pairwise (fun a b _ _ x y => Int.le_antisymm x y) h1 h2
theorem range_sorted (n : Nat) : (zs (List.range n)).Pairwise (· ≤ ·) := by
  unfold zs
  rw [List.pairwise_map]
  exact List.pairwise_lt_range.imp fun h => by omega
theorem cb_need_order (D : Df K mg "need_order" sNeedOrder ["yard", "value"]) (T : Gb mg) (c1 : Cb P w K mg base 1 "every" spEvery) : Cb P w K mg base 2 "need_order" spNeedOrder := by
  refine D.ok scNO (fun vs H Q E h => ?_) (fun f cdv A outer s H vs Q E hr h => ?_)
  · obtain ⟨y, l, many, ws, lot, rfl, _⟩ := h
    rfl
  · obtain ⟨y, l, many, ws, lot, rfl, hY, hl, hL, hp, q⟩ := h
    have nd := scNO.nd
    refine ⟨_, pss_cons (ps_if (PW.pt (pw_or (pt_not (pt_val (pe_isi T (pv 1) T.tuple b_tuple))) (pw_or1 (pt_val (pe_callB (cr_any rfl) (by rfl) T.any b_any (pa_cons
        (pe_lc (own := [("one", 2)]) (g := gName 2) (tt := tYes) rfl nd (pi_tup (pv 1)) blNO (fun _ _ _ _ _ => pg_name (i := 2) nd rfl (Or.inl rfl)) (fun _ _ _ _ _ => pts_nil)
          (fun _ _ _ _ _ => pe_or (pe_not (pe_isiK K T.isi (pv 2) T.int b_int)) (pe_one (pe_isiK K T.isi (pv 2) T.bool b_bool)))) pa_nil)))))) pss_never pss_nil)
      (pss_one (ps_if (pt_cmpR (op_neZ hr.units) (pe_callB cr_sortTI (by rfl) T.sorted b_sorted (pa_cons (pv 1) pa_nil)) (pe_callTy call_list_of (by rfl) T.list b_list (pa_cons (pe_cb c1 hr (pa_cons (pv 0) pa_nil)) pa_nil)) (nomark _)) pss_never pss_nil)), ?_⟩
    have hn : lot.length ≤ 6 := by
      rw [hp.length_eq]
      show (List.range ws.length).length ≤ 6
      rw [List.length_range]
      exact hl
    refine ⟨_, rfl, _, _, _, _, rfl, ty_tup hL, k_tt, _, rfl, iteF ?_⟩
    refine ⟨_, rfl, l, rfl, ⟨_, SqT.of hL⟩, fun D nD => ?_⟩
    refine lc_tup (K := K) (a := l) (xs := iv lot) (fun i H2 => Same H H2 ∧ H2 D = some (.lst ((List.replicate i false).map V.bl))) ⟨same_upd nD, upd_same⟩ (fun i H2 _ p => SqT.of (p.1 _ _ hL)) ?_ ?_
    · rintro i x H2 hx ⟨S2, hD⟩
      obtain ⟨n, hn', rfl⟩ := of_at_iv hx
      have hi : i < lot.length := (List.getElem?_eq_some_iff.mp hn').1
      refine ⟨rfl, _, rfl, _, _, _, _, rfl, ty_int, k_ii, _, rfl, _, rfl, iteF ?_⟩
      refine ⟨_, rfl, _, _, _, _, rfl, ty_int, k_ib, _, hD, small9 (by rw [List.length_map, List.length_replicate]; omega), samePut S2 nD, ?_⟩
      rw [List.replicate_succ', List.map_append]
      exact upd_same
    · rintro H2 ⟨S2, hD⟩
      refine ⟨D, _, rfl, SqL.of hD, _, rfl, ?_⟩
      have e : (List.replicate (iv lot).length false).any id = false := by
        rw [List.any_eq_false]
        intro x hx
        rw [(List.mem_replicate.mp hx).2]
        exact Bool.false_ne_true
      rw [e]
      refine iteF ?_
      refine ⟨_, rfl, l, zs lot, rfl, SqT.of (by rw [iv_zs]; exact S2 _ _ hL), fun ms p hm hs np => ?_⟩
      refine ⟨_, rfl, y, many, ws, rfl, hY.same (sameNew S2 np), hl, fun H3 p3 S3 np3 hp3 => ⟨p3, _, rfl, .inr (SqT.of hp3), fun l4 n4 => ?_⟩⟩
      have S4 := same_upd (o := .lst (iv (all ws))) n4
      have em : ms = zs (all ws) := sorted_perm (hm.trans (hp.map _)) hs (range_sorted _)
      refine ⟨p, l4, ms, zs (all ws), rfl, rfl, SqL.of ((S3.trans S4) _ _ upd_same), SqL.of (by rw [iv_zs]; exact upd_same), _, rfl, ?_⟩
      rw [decide_eq_true em]
      exact iteF (q _ ((sameNew S2 np).trans (S3.trans S4)))

/-! ### is_growth -/
abbrev sGrowth : Stmt := topS 20
abbrev lcG : Expr := arg0 (retE (bodyAt sGrowth 1))
abbrev lcG2 : Expr := arg0 (lcElt lcG)
theorem scGrowth : FnScope ["yard", "lot", "rooms", "number", "room"] ["yard", "lot"] (defScope sGrowth) := ⟨rfl, rfl, rfl, by decide +kernel, rfl, by decide +kernel, by decide +kernel⟩
theorem blG : BlkOk ["yard", "lot", "rooms", "number", "room"] (defScope sGrowth) (lcS lcG) [("number", 3)] := blkOk_by (by decide +kernel)
theorem blG2 : BlkOk ["yard", "lot", "rooms", "number", "room"] (relS (lcS lcG) (defScope sGrowth)) (lcS lcG2) [("room", 4)] := blkOk_by (by decide +kernel)
def spGrowth : Sp := fun vs H Q _ => ∃ (y l : Addr) (many : Nat) (ws : List Wl) (lot : List Nat), vs = [.ref y, .ref l] ∧ YardAt H y many ws ∧ YOk many ws ∧ TupAt H l lot ∧ (∀ i, i ∈ lot → i < ws.length) ∧ lot.length ≤ 6 ∧
  ∀ (H' : Hp) (b : Bool), Same H H' → (b = true ↔ Growth ws lot) → Q (.bl b) H'
/-- what the inner comprehension tells: whether a side of a wall is among the rooms -/
theorem any_sides {rs : List Nat} {x : Wl} {i : Nat} {ws : List Wl} {lot : List Nat} (hr : ∀ r, r ∈ rs ↔ Reach ws lot r) (hx : ws[i]? = some x) : ((x.sides.map fun r => decide (r ∈ rs)).any id) = true ↔ Ready ws lot i := by
  rw [List.any_map, List.any_eq_true]
  constructor
  · rintro ⟨r, h1, h2⟩
    exact ⟨x, hx, r, h1, (hr r).mp (of_decide_eq_true h2)⟩
  · rintro ⟨x', e, r, h1, h2⟩
    have : x' = x := Option.some.inj (e.symm.trans hx)
    subst this
    exact ⟨r, h1, decide_eq_true ((hr r).mpr h2)⟩
theorem sides_len (x : Wl) : x.sides.length ≤ 2 := by
  unfold Wl.sides
  split
  · exact Nat.le_succ 1
  · split
    · exact Nat.le_succ 1
    · exact Nat.le_refl 2
open Classical in
theorem cb_growth (D : Df K mg "is_growth" sGrowth ["yard", "lot"]) (T : Gb mg) (c1 : Cb P w K mg base 1 "sides_of" spSides) (c2 : Cb P w K mg base 2 "reached" spReached) : Cb P w K mg base 3 "is_growth" spGrowth := by
  refine D.ok scGrowth (fun vs H Q E h => ?_) (fun f cdv A outer s H vs Q E hr h => ?_)
  · obtain ⟨y, l, many, ws, lot, rfl, _⟩ := h
    rfl
  · obtain ⟨y, l, many, ws, lot, rfl, hY, ok, hL, hlt, hlen, q⟩ := h
    obtain ⟨wa, as, h1, h2, h3, h4⟩ := id hY
    have nd := scGrowth.nd
    refine ⟨_, pss_cons (ps_set (i := 2) nd rfl (.inr rfl) (pe_cb c2 hr (pa_cons (pv 0) (pa_cons (pv 1) pa_nil))))
      (pss_one (ps_ret (pe_callB (cr_all rfl) (by rfl) T.all b_all (pa_cons (pe_lc (own := [("number", 3)]) (g := gName 3) (tt := tYes) rfl nd (pi_tup (pv 1)) blG (fun _ _ _ _ _ => pg_name (i := 3) nd rfl (Or.inl rfl)) (fun _ _ _ _ _ => pts_nil)
        (fun _ _ _ _ _ => pe_callB (anyK K) (by rfl) T.any b_any (pa_cons (pe_lc (own := [("room", 4)]) (g := gName 4) (tt := tYes) rfl nd (piTK K (pe_cb c1 hr (pa_cons (pe_ix (ixTK K) (pe_ix (ixTK K) (pv 0) pe_int (fun _ _ => rfl)) (pv 3) (fun _ _ => rfl)) pa_nil))) blG2
          (fun _ _ _ _ _ => pg_name (i := 4) nd rfl (Or.inl rfl)) (fun _ _ _ _ _ => pts_nil) (fun _ _ _ _ _ => pe_cmpR (inK K) (pv 4) (pv 2) (by rfl))) pa_nil))) pa_nil)))), ?_⟩
    refine ⟨_, rfl, _, rfl, y, l, many, ws, lot, rfl, hY, ok, hL, hlt, fun H1 rp rs S1 _ hrp hrs => ?_⟩
    refine ⟨_, rfl, l, rfl, ⟨_, SqT.of (S1 _ _ hL)⟩, fun D nD => ?_⟩
    refine lc_tup (K := K) (a := l) (xs := iv lot) (fun i H2 => Same H1 H2 ∧ H2 D = some (.lst (((lot.take i).map fun n => decide (Ready ws lot n)).map V.bl))) ⟨same_upd nD, upd_same⟩ (fun i H2 _ p => SqT.of ((S1.trans p.1) _ _ hL)) ?_ ?_
    · rintro i x H2 hx ⟨S2, hD⟩
      obtain ⟨n, hn, rfl⟩ := of_at_iv hx
      have hi : i < lot.length := (List.getElem?_eq_some_iff.mp hn).1
      have hnl := hlt n (List.mem_of_getElem? hn)
      obtain ⟨xw, hxw⟩ : ∃ xw, ws[n]? = some xw := ⟨ws[n], List.getElem?_eq_getElem hnl⟩
      obtain ⟨ax, e1, e2⟩ := h4 n xw hxw
      have hsd := (ok.2.2.2 xw (List.mem_of_getElem? hxw)).2.2
      have hax : (as.map V.ref)[n]? = some (.ref ax) := by rw [List.getElem?_map, e1]; rfl
      have S12 := S1.trans S2
      refine ⟨rfl, ⟨_, rfl, y, _, 1, .ref wa, rfl, rfl, SqT.of (S12 _ _ h1), atI_nat (j := 1) rfl, _, rfl, wa, _, n, .ref ax, rfl, rfl, SqT.of (S12 _ _ h2), atI_nat hax, ax, xw, rfl, S12 _ _ e2, hsd, fun H3 p3 S3 np3 hp3 => ⟨p3, rfl, ⟨_, SqT.of hp3⟩, fun D2 nD2 => ?_⟩⟩⟩
      refine lc_tup (K := K) (a := p3) (xs := iv xw.sides) (fun j H4 => Same H3 H4 ∧ H4 D2 = some (.lst (((xw.sides.take j).map fun r => decide (r ∈ rs)).map V.bl))) ⟨same_upd nD2, upd_same⟩ (fun j H4 _ p => SqT.of (p.1 _ _ hp3)) ?_ ?_
      · rintro j x H4 hx ⟨S4, hD2⟩
        obtain ⟨r, hr', rfl⟩ := of_at_iv hx
        have S24 := (S2.trans S3).trans S4
        refine ⟨rfl, ⟨_, rfl, _, rfl, rp, _, rfl, .inl (SqL.of (S24 _ _ hrp)), rfl, flat_iv _, _, hD2, small9 (by
          rw [List.length_map, List.length_map, List.length_take]
          have := sides_len xw
          omega), samePut S4 nD2, ?_⟩⟩
        rw [if_neg Bool.false_ne_true, inV_iv, List.take_add_one, hr', List.map_append, List.map_append]
        exact upd_same
      · rintro H4 ⟨S4, hD2⟩
        rw [iv_len, List.take_length] at hD2
        have S34 := S3.trans S4
        refine ⟨D2, _, rfl, SqL.of hD2, _, S34 _ _ hD, small9 (by
          rw [List.length_map, List.length_map, List.length_take]
          omega), samePut (S2.trans S34) nD, ?_⟩
        have e : ((xw.sides.map fun r => decide (r ∈ rs)).any id) = decide (Ready ws lot n) := by
          rw [Bool.eq_iff_iff, any_sides hrs hxw]
          exact (decide_eq_true_iff).symm
        rw [e, List.take_add_one, hn, List.map_append, List.map_append]
        exact upd_same
    · rintro H2 ⟨S2, hD⟩
      rw [iv_len, List.take_length] at hD
      refine ⟨D, _, rfl, SqL.of hD, q _ _ (S1.trans S2) ?_⟩
      rw [List.all_map, List.all_eq_true]
      exact ⟨fun h i hi => of_decide_eq_true (h i hi), fun h i hi => decide_eq_true (h i hi)⟩

/-! ### can_come_of -/
abbrev sCan : Stmt := topS 22
abbrev lcC : Expr := arg0 (retE (bodyAt sCan 2))
abbrev lcC2 : Expr := arg0 (lcIf lcC)
theorem scCan : FnScope ["yard", "lot", "rooms", "some", "one", "room"] ["yard", "lot"] (defScope sCan) := ⟨rfl, rfl, rfl, by decide +kernel, rfl, by decide +kernel, by decide +kernel⟩
theorem blC : BlkOk ["yard", "lot", "rooms", "some", "one", "room"] (defScope sCan) (lcS lcC) [("one", 4)] := blkOk_by (by decide +kernel)
theorem blC2 : BlkOk ["yard", "lot", "rooms", "some", "one", "room"] (relS (lcS lcC) (defScope sCan)) (lcS lcC2) [("room", 5)] := blkOk_by (by decide +kernel)
def spCan : Sp := fun vs H Q _ => ∃ (y l : Addr) (many : Nat) (ws : List Wl) (lot : List Nat), vs = [.ref y, .ref l] ∧ YardAt H y many ws ∧ YOk many ws ∧ TupAt H l lot ∧ (∀ i, i ∈ lot → i < ws.length) ∧
  ∀ (H' : Hp) (p : Addr) (cs : List Nat), Same H H' → H p = none → TupAt H' p cs → (∀ i, i ∈ cs ↔ i < ws.length ∧ i ∉ lot ∧ Ready ws lot i) → cs.length ≤ ws.length → Q (.ref p) H'
open Classical in
theorem cb_can (D : Df K mg "can_come_of" sCan ["yard", "lot"]) (T : Gb mg) (c1 : Cb P w K mg base 1 "sides_of" spSides) (c2 : Cb P w K mg base 2 "reached" spReached) (c3 : Cb P w K mg base 2 "rest_of" spRest) : Cb P w K mg base 3 "can_come_of" spCan := by
  refine D.ok scCan (fun vs H Q E h => ?_) (fun f cdv A outer s H vs Q E hr h => ?_)
  · obtain ⟨y, l, many, ws, lot, rfl, _⟩ := h
    rfl
  · obtain ⟨y, l, many, ws, lot, rfl, hY, ok, hL, hlt, q⟩ := h
    obtain ⟨wa, as, h1, h2, h3, h4⟩ := id hY
    have nd := scCan.nd
    refine ⟨_, pss_cons (ps_set (i := 2) nd rfl (.inr rfl) (pe_cb c2 hr (pa_cons (pv 0) (pa_cons (pv 1) pa_nil))))
      (pss_cons (ps_set (i := 3) nd rfl (.inl rfl) (pe_cb c3 hr (pa_cons (pv 0) (pa_cons (pv 1) pa_nil))))
      (pss_one (ps_ret (pe_tupleOf (by rfl) T.tuple (pe_lc (own := [("one", 4)]) (g := gName 4) rfl nd (pi_tup (pv 3)) blC (fun _ _ _ _ _ => pg_name (i := 4) nd rfl (Or.inl rfl))
        (fun _ _ _ _ _ => pts_one (pt_val (pe_callB (anyK K) (by rfl) T.any b_any (pa_cons (pe_lc (own := [("room", 5)]) (g := gName 5) (tt := tYes) rfl nd (piTK K (pe_cb c1 hr (pa_cons (pe_ix (ixTK K) (pe_ix (ixTK K) (pv 0) pe_int (fun _ _ => rfl)) (pv 4) (fun _ _ => rfl)) pa_nil))) blC2
          (fun _ _ _ _ _ => pg_name (i := 5) nd rfl (Or.inl rfl)) (fun _ _ _ _ _ => pts_nil) (fun _ _ _ _ _ => pe_cmpR (inK K) (pv 5) (pv 2) (by rfl))) pa_nil)))) (fun _ _ _ _ _ => pv 4)))))), ?_⟩
    refine ⟨_, rfl, _, rfl, y, l, many, ws, lot, rfl, hY, ok, hL, hlt, fun H1 rp rs S1 _ hrp hrs => ?_⟩
    refine ⟨_, rfl, _, rfl, y, l, many, ws, lot, rfl, hY.same S1, ok.2.2.1, S1 _ _ hL, fun H2 sp ss S2 _ hsp hss hsl => ?_⟩
    refine ⟨_, rfl, sp, rfl, ⟨_, SqT.of hsp⟩, fun D nD => ?_⟩
    have o3 := ok.2.2.1
    refine lc_tup (K := K) (a := sp) (xs := iv ss) (fun i H3 => Same H2 H3 ∧ LstAt H3 D ((ss.take i).filter fun n => decide (Ready ws lot n))) ⟨same_upd nD, upd_same⟩ (fun i H3 _ p => SqT.of (p.1 _ _ hsp)) ?_ ?_
    · rintro i x H3 hx ⟨S3, hD⟩
      obtain ⟨n, hn, rfl⟩ := of_at_iv hx
      have hnl := ((hss n).mp (List.mem_of_getElem? hn)).1
      obtain ⟨xw, hxw⟩ : ∃ xw, ws[n]? = some xw := ⟨ws[n], List.getElem?_eq_getElem hnl⟩
      obtain ⟨ax, e1, e2⟩ := h4 n xw hxw
      have hsd := (ok.2.2.2 xw (List.mem_of_getElem? hxw)).2.2
      have hax : (as.map V.ref)[n]? = some (.ref ax) := by rw [List.getElem?_map, e1]; rfl
      have S13 := (S1.trans S2).trans S3
      have hlen : ((ss.take i).filter fun n => decide (Ready ws lot n)).length ≤ 6 := by
        refine Nat.le_trans (List.length_filter_le _ _) ?_
        rw [List.length_take]
        omega
      refine ⟨rfl, _, rfl, y, _, 1, .ref wa, rfl, rfl, SqT.of (S13 _ _ h1), atI_nat (j := 1) rfl, _, rfl, wa, _, n, .ref ax, rfl, rfl, SqT.of (S13 _ _ h2), atI_nat hax, ax, xw, rfl, S13 _ _ e2, hsd, fun H4 p4 S4 np4 hp4 => ⟨p4, rfl, ⟨_, SqT.of hp4⟩, fun D2 nD2 => ?_⟩⟩
      refine lc_tup (K := K) (a := p4) (xs := iv xw.sides) (fun j H5 => Same H4 H5 ∧ H5 D2 = some (.lst (((xw.sides.take j).map fun r => decide (r ∈ rs)).map V.bl))) ⟨same_upd nD2, upd_same⟩ (fun j H5 _ p => SqT.of (p.1 _ _ hp4)) ?_ ?_
      · rintro j x H5 hx ⟨S5, hD2⟩
        obtain ⟨r, hr', rfl⟩ := of_at_iv hx
        have S25 := ((S2.trans S3).trans S4).trans S5
        refine ⟨rfl, ⟨_, rfl, _, rfl, rp, _, rfl, .inl (SqL.of (S25 _ _ hrp)), rfl, flat_iv _, _, hD2, small9 (by
          rw [List.length_map, List.length_map, List.length_take]
          have := sides_len xw
          omega), samePut S5 nD2, ?_⟩⟩
        rw [if_neg Bool.false_ne_true, inV_iv, List.take_add_one, hr', List.map_append, List.map_append]
        exact upd_same
      · rintro H5 ⟨S5, hD2⟩
        rw [iv_len, List.take_length] at hD2
        have S45 := S4.trans S5
        refine ⟨D2, _, rfl, SqL.of hD2, _, rfl, ?_⟩
        have e : ((xw.sides.map fun r => decide (r ∈ rs)).any id) = decide (Ready ws lot n) := by
          rw [Bool.eq_iff_iff, any_sides hrs hxw]
          exact (decide_eq_true_iff).symm
        rw [e]
        show (if decide (W35.Ready ws lot n) = true then _ else _)
        by_cases hR : W35.Ready ws lot n
        · rw [if_pos (decide_eq_true hR)]
          refine ⟨_, rfl, _, S45 _ _ hD, small9 (by rw [iv_len]; omega), samePut (S3.trans S45) nD, ?_⟩
          rw [filter_snoc hn, if_pos (decide_eq_true hR), app_iv]
          exact upd_same
        · rw [if_neg (by rw [decide_eq_false hR]; exact Bool.false_ne_true)]
          refine ⟨S3.trans S45, ?_⟩
          rw [filter_snoc hn, if_neg (by rw [decide_eq_false hR]; exact Bool.false_ne_true)]
          exact S45 _ _ hD
    · rintro H3 ⟨S3, hD⟩
      rw [iv_len, List.take_length] at hD
      refine .inl ⟨D, _, rfl, SqL.of hD, fun p np => ?_⟩
      refine q _ p _ ((S1.trans S2).trans (sameNew S3 np)) (S1.free (S2.free (S3.free np))) upd_same (fun i => ?_) ?_
      · rw [List.mem_filter, hss, decide_eq_true_iff]
        exact and_assoc
      · exact Nat.le_trans (List.length_filter_le _ _) hsl
end
end W35P
end

section
set_option maxRecDepth 100000
set_option maxHeartbeats 8000000
/-! lots by layers -/
namespace W35
def Srt (x l : List Nat) : Prop := x.Perm l ∧ x.Pairwise (· ≤ ·)
theorem srt_ex (l : List Nat) : ∃ x, Srt x l := by
  refine ⟨l.mergeSort (fun a b => decide (a ≤ b)), List.mergeSort_perm _ _, ?_⟩
  refine (List.pairwise_mergeSort (le := fun a b => decide (a ≤ b)) (fun a b c h1 h2 => ?_) (fun a b => ?_) l).imp fun h => of_decide_eq_true h
  · have h1 := of_decide_eq_true h1
    have h2 := of_decide_eq_true h2
    exact decide_eq_true (Nat.le_trans h1 h2)
  · rcases Nat.le_total a b with h | h
    · simp [h]
    · simp [h]
theorem srt_uniq {x y l m : List Nat} (h1 : Srt x l) (h2 : Srt y m) (p : l.Perm m) : x = y :=
  (h1.1.trans (p.trans h2.1.symm)).eq_of_pairwise (fun a b _ _ u v => Nat.le_antisymm u v) h1.2 h2.2
def LotK (ws : List Wl) (k : Nat) (lot : List Nat) : Prop := ∃ t, Feas ws t ∧ t.length = k ∧ Srt lot t
def Nxt (ws : List Wl) (lot : List Nat) (c : Nat) : Prop := c < ws.length ∧ c ∉ lot ∧ Ready ws lot c
theorem lotK_zero {ws : List Wl} {lot : List Nat} : LotK ws 0 lot ↔ lot = [] := by
  constructor
  · rintro ⟨t, _, h, s⟩
    have e : t = [] := List.eq_nil_of_length_eq_zero h
    subst e
    exact List.Perm.eq_nil s.1
  · rintro rfl
    exact ⟨[], .nil, rfl, List.Perm.refl _, List.Pairwise.nil⟩
theorem LotK.len {ws : List Wl} {k : Nat} {lot : List Nat} (h : LotK ws k lot) : lot.length = k := by
  obtain ⟨t, _, h, s⟩ := h
  rw [s.1.length_eq, h]
theorem LotK.lt {ws : List Wl} {k : Nat} {lot : List Nat} (h : LotK ws k lot) : ∀ i, i ∈ lot → i < ws.length := fun i hi => by
  obtain ⟨t, f, _, s⟩ := h
  exact f.lt i (s.1.mem_iff.mp hi)
theorem LotK.le {ws : List Wl} {k : Nat} {lot : List Nat} (h : LotK ws k lot) : k ≤ ws.length := by
  obtain ⟨t, f, h, s⟩ := h
  rw [← h]
  exact f.length_le
theorem lotK_succ {ws : List Wl} {k : Nat} {x : List Nat} : LotK ws (k + 1) x ↔ ∃ lot, LotK ws k lot ∧ ∃ c, Nxt ws lot c ∧ Srt x (lot ++ [c]) := by
  constructor
  · rintro ⟨t, f, h, s⟩
    cases f with
    | nil => cases h
    | @cons i t f hl hn hr =>
      obtain ⟨lot, s'⟩ := srt_ex t
      refine ⟨lot, ⟨t, f, by simpa using h, s'⟩, i, ⟨hl, fun z => hn (s'.1.mem_iff.mp z), (Ready.perm s'.1).mpr hr⟩, s.1.trans ?_, s.2⟩
      exact (s'.1.symm.cons i).trans (List.perm_append_singleton i lot).symm
  · rintro ⟨lot, ⟨t, f, h, s'⟩, c, ⟨h1, h2, h3⟩, s⟩
    refine ⟨c :: t, .cons f h1 (fun z => h2 (s'.1.mem_iff.mpr z)) ((Ready.perm s'.1).mp h3), by simp [h], s.1.trans ?_, s.2⟩
    exact (List.perm_append_singleton c lot).trans (s'.1.cons c)
end W35

namespace W35P
open PySem PySem.Spec PyProof.Rows L2 W35 W35R

/-- one by one -/
def Prs {α β : Type} (R : α → β → Prop) (as : List α) (bs : List β) : Prop := as.length = bs.length ∧ ∀ (i : Nat) (b : β), bs[i]? = some b → ∃ a, as[i]? = some a ∧ R a b
section
variable {α β : Type} {R R' : α → β → Prop} {as : List α} {bs : List β} {a : α} {b : β}
theorem Prs.nil : Prs R [] [] := ⟨rfl, fun i b h => by simp at h⟩
theorem Prs.snoc (h : Prs R as bs) (r : R a b) : Prs R (as ++ [a]) (bs ++ [b]) := by
  refine ⟨by rw [List.length_append, List.length_append, h.1]; rfl, fun i x e => ?_⟩
  by_cases hi : i < bs.length
  · rw [List.getElem?_append_left hi] at e
    obtain ⟨y, e1, r1⟩ := h.2 i x e
    exact ⟨y, by rw [List.getElem?_append_left (by rw [h.1]; exact hi)]; exact e1, r1⟩
  · rw [List.getElem?_append_right (by omega)] at e
    have hz : i - bs.length = 0 := by
      refine Nat.le_zero.mp (Nat.le_of_not_lt fun hl => ?_)
      rw [List.getElem?_eq_none (by simp; omega)] at e
      cases e
    rw [hz] at e
    have e' : b = x := Option.some.inj e
    subst e'
    refine ⟨a, ?_, r⟩
    rw [List.getElem?_append_right (by rw [h.1]; omega), h.1, hz]
    rfl
theorem Prs.imp (h : Prs R as bs) (f : ∀ a b, R a b → R' a b) : Prs R' as bs := ⟨h.1, fun i b e => let ⟨a, e1, r⟩ := h.2 i b e; ⟨a, e1, f a b r⟩⟩
theorem Prs.back (h : Prs R as bs) {i : Nat} (e : as[i]? = some a) : ∃ b, bs[i]? = some b ∧ R a b := by
  have hi : i < bs.length := by rw [← h.1]; exact (List.getElem?_eq_some_iff.mp e).1
  obtain ⟨a', e1, r⟩ := h.2 i bs[i] (List.getElem?_eq_getElem hi)
  have : a' = a := Option.some.inj (e1.symm.trans e)
  subst this
  exact ⟨_, List.getElem?_eq_getElem hi, r⟩
theorem Prs.build : ∀ as : List α, (∀ a, a ∈ as → ∃ b, R a b) → ∃ bs, Prs R as bs
  | [], _ => ⟨[], .nil⟩
  | a :: as, h => by
    obtain ⟨b, r⟩ := h a List.mem_cons_self
    obtain ⟨bs, p⟩ := Prs.build as fun x hx => h x (List.mem_cons_of_mem _ hx)
    refine ⟨b :: bs, by rw [List.length_cons, List.length_cons, p.1], fun i x e => ?_⟩
    cases i with
    | zero =>
      have e' : b = x := Option.some.inj e
      subst e'
      exact ⟨a, rfl, r⟩
    | succ i => exact p.2 i x e
end
def LotsAt (H : Hp) (p : Addr) (lots : List (List Nat)) : Prop := ∃ as : List Addr, H p = some (.lst (as.map V.ref)) ∧ Prs (fun a lot => TupAt H a lot) as lots
theorem LotsAt.same {H H' : Hp} {p : Addr} {lots : List (List Nat)} (s : Same H H') (h : LotsAt H p lots) : LotsAt H' p lots := by
  obtain ⟨as, h1, h2⟩ := h
  exact ⟨as, s _ _ h1, h2.imp fun a b r => s _ _ r⟩
def LaysAt (H : Hp) (p : Addr) (L : List (List (List Nat))) : Prop := ∃ as : List Addr, H p = some (.lst (as.map V.ref)) ∧ Prs (fun a lots => LotsAt H a lots) as L
theorem LaysAt.same {H H' : Hp} {p : Addr} {L : List (List (List Nat))} (s : Same H H') (h : LaysAt H p L) : LaysAt H' p L := by
  obtain ⟨as, h1, h2⟩ := h
  exact ⟨as, s _ _ h1, h2.imp fun a b r => r.same s⟩
theorem iv_inj {l m : List Nat} (h : iv l = iv m) : l = m := by
  have := congrArg (List.map fun v => match v with | V.int i => i.toNat | _ => 0) h
  rw [iv, iv, List.map_map, List.map_map] at this
  have e : ∀ l : List Nat, l.map ((fun v => match v with | V.int i => i.toNat | _ => 0) ∘ fun n : Nat => V.int (n : Int)) = l := fun l => List.map_id'' (fun x => rfl) l
  rw [e, e] at this
  exact this
def ky (l : List Nat) : List Key := (zs l).map Sum.inl
theorem ky_iv (l : List Nat) : (ky l).map kV = iv l := by rw [ky, kV_ints, iv_zs]
theorem ky_inj {l m : List Nat} (h : ky l = ky m) : l = m := iv_inj (by rw [← ky_iv, ← ky_iv, h])
theorem putK_keys {kvs : List (List Key × V)} {keys : List (List Nat)} {x : List Nat} {v : V} (h : kvs.map (·.1) = keys.map ky) :
    ∃ keys' : List (List Nat), (putK kvs (ky x) v).map (·.1) = keys'.map ky ∧ (∀ z, z ∈ keys' ↔ z ∈ keys ∨ z = x) ∧ keys'.length ≤ keys.length + 1 := by
  unfold putK
  by_cases hm : (kvs.any fun kv => decide (kv.1 = ky x)) = true
  · rw [if_pos hm]
    refine ⟨keys, ?_, fun z => ⟨.inl, fun q => q.elim id fun e => ?_⟩, Nat.le_succ _⟩
    · rw [List.map_map, ← h]
      refine List.map_congr_left fun p _ => ?_
      show (if p.1 = ky x then (p.1, v) else p).1 = p.1
      split <;> rfl
    · subst e
      obtain ⟨p, hp, e⟩ := List.any_eq_true.mp hm
      have : ky z ∈ keys.map ky := by
        rw [← h, ← of_decide_eq_true e]
        exact List.mem_map.mpr ⟨p, hp, rfl⟩
      obtain ⟨z', hz, e'⟩ := List.mem_map.mp this
      rw [← ky_inj e']
      exact hz
  · rw [if_neg hm]
    refine ⟨keys ++ [x], by rw [List.map_append, List.map_append, h]; rfl, fun z => by rw [List.mem_append, List.mem_singleton], by rw [List.length_append]; exact Nat.le_refl _⟩
theorem refs_perm {ys : List V} {bs : List Addr} (h : ys.Perm (bs.map V.ref)) : ∃ as : List Addr, ys = as.map V.ref ∧ as.Perm bs := by
  let un : V → Addr := fun v => match v with | .ref a => a | _ => 0
  refine ⟨ys.map un, ?_, ?_⟩
  · have nn : ∀ x ∈ ys, V.ref (un x) = x := fun x hx => by
      obtain ⟨a, _, e⟩ := List.mem_map.mp (h.mem_iff.mp hx)
      rw [← e]
    rw [List.map_map]
    have : ys.map (V.ref ∘ un) = ys.map id := List.map_congr_left nn
    rw [this, List.map_id]
  · have := h.map un
    rw [List.map_map] at this
    have e : bs.map (un ∘ V.ref) = bs := List.map_id'' (fun x => rfl) bs
    rw [e] at this
    exact this
/-- the sorted keys of a dict, as lots -/
theorem keys_lots {H : Hp} {kvs : List (List Key × V)} {keys : List (List Nat)} {bs as : List Addr} (h : kvs.map (·.1) = keys.map ky) (hk : IsKeys H kvs bs) (hp : as.Perm bs) :
    ∃ lots, Prs (fun a lot => TupAt H a lot) as lots ∧ (∀ x, x ∈ lots ↔ x ∈ keys) ∧ lots.length = keys.length := by
  have fw : ∀ b, b ∈ bs → ∃ x, x ∈ keys ∧ TupAt H b x := fun b hb => by
    obtain ⟨p, hp, e⟩ := paired_mem hk hb
    have : p.1 ∈ keys.map ky := by rw [← h]; exact List.mem_map.mpr ⟨p, hp, rfl⟩
    obtain ⟨x, hx, ex⟩ := List.mem_map.mp this
    refine ⟨x, hx, ?_⟩
    rw [← ex, ky_iv] at e
    exact e
  have bw : ∀ x, x ∈ keys → ∃ b, b ∈ bs ∧ TupAt H b x := fun x hx => by
    have : ky x ∈ kvs.map (·.1) := by rw [h]; exact List.mem_map.mpr ⟨x, hx, rfl⟩
    obtain ⟨p, hp, ep⟩ := List.mem_map.mp this
    obtain ⟨i, hi⟩ := List.getElem?_of_mem hp
    have l2 : kvs.length = bs.length := Paired.length hk
    have hib : i < bs.length := by rw [← l2]; exact (List.getElem?_eq_some_iff.mp hi).1
    have at_ : ∀ {l₁ : List (List Key × V)} {l₂ : List Addr} {i : Nat} {p : List Key × V}, IsKeys H l₁ l₂ → l₁[i]? = some p → ∃ b, b ∈ l₂ ∧ H b = some (.tup (p.1.map kV)) := by
      intro l₁ l₂ i p r e
      induction r generalizing i with
      | nil => simp at e
      | cons r t ih =>
        cases i with
        | zero =>
          have e' := Option.some.inj e
          subst e'
          exact ⟨_, List.mem_cons_self, r⟩
        | succ i =>
          obtain ⟨b, hb, q⟩ := ih e
          exact ⟨b, List.mem_cons_of_mem _ hb, q⟩
    obtain ⟨b, hb, q⟩ := at_ hk hi
    refine ⟨b, hb, ?_⟩
    rw [ep, ky_iv] at q
    exact q
  obtain ⟨lots, pr⟩ := Prs.build (R := fun a lot => TupAt H a lot) as fun a ha => let ⟨x, _, q⟩ := fw a (hp.mem_iff.mp ha); ⟨x, q⟩
  refine ⟨lots, pr, fun x => ⟨fun hx => ?_, fun hx => ?_⟩, ?_⟩
  · obtain ⟨i, hi⟩ := List.getElem?_of_mem hx
    obtain ⟨a, e, q⟩ := pr.2 i x hi
    obtain ⟨z, hz, q'⟩ := fw a (hp.mem_iff.mp (List.mem_of_getElem? e))
    have q1 : TupAt H a x := q
    rw [TupAt, q'] at q1
    injection q1 with q1
    injection q1 with q1
    rw [← iv_inj q1]
    exact hz
  · obtain ⟨b, hb, q⟩ := bw x hx
    obtain ⟨i, hi⟩ := List.getElem?_of_mem (hp.mem_iff.mpr hb)
    obtain ⟨z, hz, q'⟩ := pr.back hi
    have q1 : TupAt H b z := q'
    rw [TupAt, q] at q1
    injection q1 with q1
    injection q1 with q1
    rw [iv_inj q1]
    exact List.mem_of_getElem? hz
  · rw [← pr.1, hp.length_eq, ← Paired.length hk, ← List.length_map (f := fun p : List Key × V => p.1), h, List.length_map]
end W35P
end

section
set_option maxRecDepth 100000
set_option maxHeartbeats 8000000
/-! layers_of -/
namespace W35P
open PySem PySem.Spec PyProof.Rows L2 W35 W35R
theorem bd_zs {B : Nat} {l : List Nat} (h : ∀ i, i ∈ l → i < B) : TS.Bd (B : Int) (zs l) := fun m hm => by
  obtain ⟨n, hn, e⟩ := List.mem_map.mp hm
  have := h n hn
  omega
theorem cut_last (xs : List V) (v : V) : cutV (xs ++ [v]) none (some (-1)) = xs := by
  unfold cutV
  have e : HT.sIx (xs ++ [v]).length (xs ++ [v]).length (some (-1)) = xs.length := by
    rw [List.length_append]
    show (if (-1 : Int) < 0 then ((-1 : Int) + ((xs.length + 1 : Nat) : Int)).toNat else min (-1 : Int).toNat (xs.length + 1)) = xs.length
    rw [if_pos (by decide)]
    omega
  rw [e, HT.sIx_none]
  simp
theorem pl_refs {K : PySem.W.Frag} {H : Hp} {as : List Addr} {lots : List (List Nat)} (h : Prs (fun a lot => TupAt H a lot) as lots) : ∀ z ∈ as.map V.ref, Pl K H z := fun z hz => by
  obtain ⟨a, ha, rfl⟩ := List.mem_map.mp hz
  obtain ⟨i, hi⟩ := List.getElem?_of_mem ha
  obtain ⟨lot, _, q⟩ := h.back hi
  exact .inr ⟨a, zs lot, rfl, SqT.of (by rw [iv_zs]; exact q)⟩
section
variable {P : Program} {w : World} {K : PySem.W.Frag} {mg : Str → Option Value} {base : Heap}
abbrev sLayers : Stmt := topS 23
theorem scLayers : FnScope ["yard", "found", "some", "lot", "number"] ["yard"] (defScope sLayers) := ⟨rfl, rfl, rfl, by decide +kernel, rfl, by decide +kernel, by decide +kernel⟩
structure LaysOk (ws : List Wl) (L : List (List (List Nat))) : Prop where
  all : ∀ t, Feas ws t → ∃ lots, lots ∈ L ∧ ∃ lot, lot ∈ lots ∧ lot.Perm t
  ok : ∀ lots, lots ∈ L → ∀ lot, lot ∈ lots → ∃ t, Feas ws t ∧ lot.Perm t
  ne : ∀ lots, lots ∈ L → lots ≠ []
  len : L.length ≤ 7
  size : ∀ lots, lots ∈ L → lots.length ≤ 46656
def spLayers : Sp := fun vs H Q _ => ∃ (y : Addr) (many : Nat) (ws : List Wl), vs = [.ref y] ∧ YardAt H y many ws ∧ YOk many ws ∧
  ∀ (H' : Hp) (p : Addr) (L : List (List (List Nat))), Same H H' → H p = none → LaysAt H' p L → LaysOk ws L → Q (.ref p) H'
/-- what the loop keeps of the layers found so far -/
structure LyI (ws : List Wl) (L : List (List (List Nat))) : Prop where
  mem : ∀ k lots, L[k]? = some lots → ∀ lot, lot ∈ lots ↔ LotK ws k lot
  size : ∀ k lots, L[k]? = some lots → lots.length ≤ 6 ^ k
theorem pow6 {k : Nat} (h : k ≤ 6) : 6 ^ k ≤ 46656 := Nat.le_trans (Nat.pow_le_pow_right (by decide) h) (by decide)
set_option maxHeartbeats 16000000 in
theorem cb_layers (D : Df K mg "layers_of" sLayers ["yard"]) (T : Gb mg) (c1 : Cb P w K mg base 3 "can_come_of" spCan) : Cb P w K mg base 4 "layers_of" spLayers := by
  refine D.ok scLayers (fun vs H Q E h => ?_) (fun f cdv A outer s H vs Q E hr h => ?_)
  · obtain ⟨y, many, ws, rfl, _⟩ := h
    rfl
  · obtain ⟨y, many, ws, rfl, hY, ok, q⟩ := h
    have nd := scLayers.nd
    have o3 := ok.2.2.1
    have hu := hu_of hr
    refine ⟨_, pss_cons (ps_set (i := 1) nd rfl (.inl rfl) (pe_lst (pa_cons (pe_lst (pa_cons (pe_tup pa_nil) pa_nil)) pa_nil)))
      (pss_cons (ps_while PassesOwn.never (pt_cmpR (op_ne0 hr.units) (pe_ix ix_list (pv 1) (pe_un un_neg pe_int) (fun _ _ => rfl)) (pe_lst pa_nil) (nomark _))
        (pss_cons (ps_set (i := 2) nd rfl (.inl rfl) pe_dnewT)
        (pss_cons (ps_for PassesOwn.never rfl (pi_list (pe_ix ix_list (pv 1) (pe_un un_neg pe_int) (fun _ _ => rfl))) (pg_name (i := 3) nd rfl (.inl rfl))
          (pss_one (ps_for PassesOwn.never rfl (pi_tup (pe_cb c1 hr (pa_cons (pv 0) (pa_cons (pv 3) pa_nil)))) (pg_name (i := 4) nd rfl (.inl rfl))
            (pss_one (ps_dput hu (pv 2) (pe_tupleOf (by rfl) T.tuple (pe_callB cr_sortedI (by rfl) T.sorted b_sorted (pa_cons (pe_lst (StX.pa_star (pv 3) (pa_cons (pv 4) pa_nil))) pa_nil))) pe_bl rfl)))))
        (pss_one (ps_expr (pe_bm PySem.F.plainAttrs_list PySem.F.slot_list_append PySem.F.type_list_append mt_append (pv 1) (pa_cons (pe_callB (cr_sortDT rfl) (by rfl) T.sorted b_sorted (pa_cons (pv 2) pa_nil)) pa_nil)))))))
      (pss_one (ps_ret (pe_slice sl_list (pv 1) po_none (po_some (pe_un un_neg pe_int)))))), ?_⟩
    -- found = [[()]]
    refine ⟨by show 0 ≤ sizeLine; decide, fun t0 n0 => ⟨by show 1 ≤ sizeLine; decide, fun l0 m0 => ⟨by show 1 ≤ sizeLine; decide, fun fa nfa => ?_⟩⟩⟩
    have s0 := same_upd (o := .tup []) n0
    have s1 := same_upd (o := .lst [.ref t0]) m0
    have s2 := same_upd (o := .lst [.ref l0]) nfa
    have S0 := (s0.trans s1).trans s2
    have nfaH : H fa = none := (s0.trans s1).free nfa
    have ht0 : TupAt (upd (upd (upd H t0 (.tup [])) l0 (.lst [.ref t0])) fa (.lst [.ref l0])) t0 [] := (s1.trans s2) _ _ upd_same
    have hl0 : LotsAt (upd (upd (upd H t0 (.tup [])) l0 (.lst [.ref t0])) fa (.lst [.ref l0])) l0 [[]] := ⟨[t0], s2 _ _ upd_same, Prs.nil.snoc ht0⟩
    have ly0 : LyI ws [[[]]] := by
      refine ⟨fun k lots e lot => ?_, fun k lots e => ?_⟩
      · cases k with
        | zero =>
          have e' := Option.some.inj e
          subst e'
          rw [lotK_zero, List.mem_singleton]
        | succ k => simp at e
      · cases k with
        | zero =>
          have e' := Option.some.inj e
          subst e'
          exact Nat.le_refl 1
        | succ k => simp at e
    -- while found[-1] != []
    refine ⟨fun m σ H1 => ∃ (as : List Addr) (la : Addr) (L : List (List (List Nat))) (lots : List (List Nat)) (a2 a3 a4 : Option V), σ = [some (.ref y), some (.ref fa), a2, a3, a4] ∧ Same H H1 ∧ H1 fa = some (.lst ((as ++ [la]).map V.ref)) ∧
        Prs (fun a lots => LotsAt H1 a lots) as L ∧ LotsAt H1 la lots ∧ LyI ws (L ++ [lots]) ∧ L.length ≤ ws.length + 1 ∧ fa ∉ as ++ [la] ∧ m = ws.length + 1 - L.length ∧ ∀ xs, xs ∈ L → xs ≠ [],
      ⟨_, [], l0, [], [[]], none, none, none, rfl, S0, upd_same, Prs.nil, hl0, ly0, Nat.zero_le _, (fun z => ?_), rfl, (fun xs z => by cases z)⟩, ?_⟩
    · have e : fa = l0 := List.mem_singleton.mp z
      rw [e, upd_same] at nfa
      cases nfa
    rintro m σ H1 ⟨as, la, L, lots, a2, a3, a4, rfl, S1, hF, hPr, hLa, hI, hlen, hnf, rfl, hne⟩
    obtain ⟨ts, hla, hts⟩ := id hLa
    have hlast : atI ((as ++ [la]).map V.ref) (-1) = some (.ref la) := by
      rw [List.map_append]
      exact atI_last _ _
    refine ⟨_, rfl, 1, rfl, fa, _, -1, .ref la, rfl, rfl, SqL.of hF, hlast, by show 0 ≤ sizeLine; decide, fun e0 ne0 => ?_⟩
    have se := same_upd (o := .lst []) ne0
    refine ⟨la, e0, _, rfl, rfl, SqL.of (se _ _ hla), SqL.of upd_same, pl_refs (hts.imp fun a b r => se _ _ r), _, rfl, ?_⟩
    have atL : (L ++ [lots])[L.length]? = some lots := by rw [List.getElem?_append_right (Nat.le_refl _), Nat.sub_self]; rfl
    cases hem : (ts.map V.ref).isEmpty with
    | true =>
      refine iteF ?_
      -- return found[:-1]
      have et : ts = [] := by
        cases ts with
        | nil => rfl
        | cons a b => cases hem
      have el : lots = [] := List.eq_nil_of_length_eq_zero (by rw [← hts.1, et]; rfl)
      refine ⟨_, rfl, 1, rfl, -1, rfl, fa, _, rfl, SqL.of (se _ _ hF), fun p np => ?_⟩
      have sp := same_upd (o := .lst (cutV ((as ++ [la]).map V.ref) none (some (-1)))) np
      have ecut : cutV ((as ++ [la]).map V.ref) none (some (-1)) = as.map V.ref := by
        rw [List.map_append]
        exact cut_last _ _
      refine q _ p L ((S1.trans se).trans sp) (S1.free (se.free np)) ⟨as, by rw [ecut]; exact upd_same, hPr.imp fun a b r => r.same (se.trans sp)⟩ ?_
      have at_ : ∀ k, k < L.length → (L ++ [lots])[k]? = L[k]? := fun k hk => List.getElem?_append_left hk
      have none_ : ∀ lot, ¬ LotK ws L.length lot := fun lot hl => by
        have := (hI.mem _ _ atL lot).mpr hl
        rw [el] at this
        cases this
      refine ⟨fun t ft => ?_, fun xs hxs x hx => ?_, hne, by omega, fun xs hxs => ?_⟩
      · obtain ⟨x, sx⟩ := srt_ex t
        have hk : t.length < L.length := by
          refine Nat.lt_of_not_le fun hge => ?_
          have f2 := ft.drop (t.length - L.length)
          obtain ⟨z, sz⟩ := srt_ex (t.drop (t.length - L.length))
          exact none_ z ⟨_, f2, by rw [List.length_drop]; omega, sz⟩
        have hL := List.getElem?_eq_getElem hk
        refine ⟨L[t.length], List.getElem_mem hk, x, ?_, sx.1⟩
        exact (hI.mem t.length _ (by rw [at_ _ hk]; exact hL) x).mpr ⟨t, ft, rfl, sx⟩
      · obtain ⟨k, hk⟩ := List.getElem?_of_mem hxs
        have hkl := (List.getElem?_eq_some_iff.mp hk).1
        obtain ⟨t, ft, _, sx⟩ := (hI.mem k xs (by rw [at_ _ hkl]; exact hk) x).mp hx
        exact ⟨t, ft, sx.1⟩
      · obtain ⟨k, hk⟩ := List.getElem?_of_mem hxs
        have hkl := (List.getElem?_eq_some_iff.mp hk).1
        exact Nat.le_trans (hI.size k xs (by rw [at_ _ hkl]; exact hk)) (pow6 (by omega))
    | false =>
      -- some = {}
      refine iteT ⟨_, fun σ' H' n => n, fun d nd' => ?_⟩
      have sd := same_upd (o := .dT []) nd'
      have S2 := (S1.trans se).trans sd
      have ndH1 : H1 d = none := se.free nd'
      have ndH : H d = none := S1.free ndH1
      have hF2 := (se.trans sd) _ _ hF
      have hla2 := (se.trans sd) _ _ hla
      have hts2 : Prs (fun a lot => TupAt (upd (upd H1 e0 (.lst [])) d (.dT [])) a lot) ts lots := hts.imp fun a b r => (se.trans sd) _ _ r
      have nfd : fa ≠ d := fun z => by rw [z, ndH1] at hF; cases hF
      -- lots of this layer: k walls each, a wall more is at most the sixth
      obtain ⟨l1, hl1⟩ : ∃ x, x ∈ lots := by
        cases lots with
        | nil =>
          have : ts = [] := List.eq_nil_of_length_eq_zero hts.1
          rw [this] at hem
          cases hem
        | cons x _ => exact ⟨x, List.mem_cons_self⟩
      have hkn : L.length ≤ ws.length := ((hI.mem _ _ atL l1).mp hl1).le
      have hsz : lots.length ≤ 46656 := Nat.le_trans (hI.size _ _ atL) (pow6 (by omega))
      refine ⟨_, rfl, 1, rfl, fa, _, -1, .ref la, rfl, rfl, SqL.of hF2, hlast, la, rfl, ⟨_, SqL.of hla2⟩, ?_⟩
      refine for_list (K := K) (a := la) (xs := ts.map V.ref) (fun i σ H3 => ∃ (kvs : List (List Key × V)) (keys : List (List Nat)) (a3 a4 : Option V), σ = [some (.ref y), some (.ref fa), some (.ref d), a3, a4] ∧ Same H1 H3 ∧ H3 d = some (.dT kvs) ∧
          kvs.map (·.1) = keys.map ky ∧ (∀ x, x ∈ keys ↔ ∃ lot, lot ∈ lots.take i ∧ ∃ c, Nxt ws lot c ∧ Srt x (lot ++ [c])) ∧ keys.length ≤ i * 6)
        ⟨[], [], _, _, rfl, se.trans sd, upd_same, rfl, (fun x => ⟨fun z => absurd z (by simp), fun ⟨_, z, _⟩ => absurd z (by simp)⟩), Nat.zero_le _⟩ (fun i σ H3 _ ⟨_, _, _, _, _, s3, _⟩ => SqL.of (s3 _ _ hla)) ?_ ?_
      · rintro i x σ H3 hix ⟨kvs, keys, a3, a4, rfl, S3, hd, hkv, hkeys, hkl⟩
        obtain ⟨ta, hta, rfl⟩ : ∃ ta, ts[i]? = some ta ∧ x = V.ref ta := by
          rw [List.getElem?_map] at hix
          cases e : ts[i]? with
          | none => rw [e] at hix; cases hix
          | some ta => rw [e] at hix; exact ⟨ta, rfl, (Option.some.inj hix).symm⟩
        obtain ⟨lot, hlot, htup⟩ := hts.back hta
        have hi : i < lots.length := (List.getElem?_eq_some_iff.mp hlot).1
        have hLk := (hI.mem _ _ atL lot).mp (List.mem_of_getElem? hlot)
        have htup3 := S3 _ _ htup
        refine ⟨_, rfl, _, rfl, y, ta, many, ws, lot, rfl, hY.same (S1.trans S3), ok, htup3, hLk.lt, fun H4 cp cs S4 ncp hcp hcs hcl => ⟨cp, rfl, ⟨_, SqT.of hcp⟩, ?_⟩⟩
        refine for_tup (K := K) (a := cp) (xs := iv cs) (fun j σ H5 => ∃ (kvs : List (List Key × V)) (keys : List (List Nat)) (a4 : Option V), σ = [some (.ref y), some (.ref fa), some (.ref d), some (.ref ta), a4] ∧ Same H1 H5 ∧ H5 d = some (.dT kvs) ∧
            kvs.map (·.1) = keys.map ky ∧ (∀ x, x ∈ keys ↔ (∃ lot, lot ∈ lots.take i ∧ ∃ c, Nxt ws lot c ∧ Srt x (lot ++ [c])) ∨ ∃ c, c ∈ cs.take j ∧ Srt x (lot ++ [c])) ∧ keys.length ≤ i * 6 + j ∧ TupAt H5 cp cs)
          ⟨kvs, keys, _, rfl, S3.trans S4, S4 _ _ hd, hkv, (fun x => (hkeys x).trans ⟨fun z => Or.inl z, fun z => Or.elim z id fun u => by
            obtain ⟨c, hc, _⟩ := u
            simp at hc⟩), by omega, hcp⟩ (fun j σ H5 _ ⟨_, _, _, _, _, _, _, _, _, z⟩ => SqT.of z) ?_ ?_
        · rintro j x σ H5 hjx ⟨kvs, keys, a4, rfl, S5, hd5, hkv5, hkeys5, hkl5, hcp5⟩
          obtain ⟨c, hc, rfl⟩ := of_at_iv hjx
          have hj : j < cs.length := (List.getElem?_eq_some_iff.mp hc).1
          have hll : lot.length ≤ 6 := by rw [hLk.len]; omega
          -- some[tuple(sorted([*lot, number]))] = True
          refine ⟨_, rfl, _, rfl, ta, iv lot, rfl, .inl (SqT.of (S5 _ _ htup)), _, rfl, ?_, fun p1 np1 => ?_⟩
          · rw [List.length_append, iv_len]
            show lot.length + 1 ≤ sizeLine
            exact Nat.le_of_lt (small9 (by omega))
          have u1 := same_upd (o := .lst (iv lot ++ [.int (c : Int)])) np1
          refine ⟨p1, zs (lot ++ [c]), rfl, SqL.of (by rw [iv_zs, ← app_iv]; exact upd_same), fun ms p2 hms hsrt np2 => ?_⟩
          obtain ⟨xs, rfl, hxs⟩ := nats_of hms
          have sx : Srt xs (lot ++ [c]) := ⟨hxs, by
            have := hsrt
            unfold zs at this
            rw [List.pairwise_map] at this
            exact this.imp fun h => by omega⟩
          have u2 := same_upd (o := .lst ((zs xs).map V.int)) np2
          refine .inl ⟨p2, iv xs, rfl, SqL.of (by rw [← iv_zs xs]; exact upd_same), fun p3 np3 => ?_⟩
          have u3 := same_upd (o := .tup (iv xs)) np3
          have U := (u1.trans u2).trans u3
          have hd6 := U _ _ hd5
          obtain ⟨keys', k1, k2, k3⟩ := putK_keys (v := .bl true) (x := xs) hkv5
          have hkvl : kvs.length = keys.length := by rw [← List.length_map (f := fun p : List Key × V => p.1), hkv5, List.length_map]
          have big : kvs.length < sizeLine := by
            rw [sizeLine_eq]
            omega
          refine ⟨d, _, rfl, DPut.t hd6 (k := ky xs) (by rw [ky_iv]; exact upd_same) big, putK kvs (ky xs) (.bl true), keys', _, rfl, samePut (S5.trans U) ndH1, upd_same, k1, fun z => ?_, by omega, ?_⟩
          · rw [k2, hkeys5, List.take_add_one, hc]
            constructor
            · rintro (h | h)
              · rcases h with h | ⟨c', h1, h2⟩
                · exact .inl h
                · exact .inr ⟨c', List.mem_append_left _ h1, h2⟩
              · rw [h]
                exact .inr ⟨c, List.mem_append_right _ (by simp), sx⟩
            · rintro (h | ⟨c', h1, h2⟩)
              · exact .inl (.inl h)
              · rcases List.mem_append.mp h1 with h1 | h1
                · exact .inl (.inr ⟨c', h1, h2⟩)
                · have : c' = c := by simpa using h1
                  subst this
                  exact .inr (srt_uniq h2 sx (List.Perm.refl _))
          · have ncd : cp ≠ d := fun z => by
              have a : H5 cp = some (.tup (iv cs)) := hcp5
              rw [z, hd5] at a
              cases a
            show upd _ d _ cp = _
            rw [upd_ne ncd]
            exact U _ _ hcp5
        · rintro σ H5 ⟨kvs, keys, a4, rfl, S5, hd5, hkv5, hkeys5, hkl5, _⟩
          refine ⟨kvs, keys, _, _, rfl, S5, hd5, hkv5, fun x => ?_, ?_⟩
          · rw [hkeys5, iv_len, List.take_length, List.take_add_one, hlot]
            constructor
            · rintro (⟨lot', h1, h2⟩ | ⟨c, h1, h2⟩)
              · exact ⟨lot', List.mem_append_left _ h1, h2⟩
              · exact ⟨lot, List.mem_append_right _ (by simp), c, (hcs c).mp h1, h2⟩
            · rintro ⟨lot', h1, c, h2, h3⟩
              rcases List.mem_append.mp h1 with h1 | h1
              · exact .inl ⟨lot', h1, c, h2, h3⟩
              · have : lot' = lot := by simpa using h1
                subst this
                exact .inr ⟨c, (hcs c).mpr h2, h3⟩
          · rw [iv_len] at hkl5
            omega
      · rintro σ H3 ⟨kvs, keys, a3, a4, rfl, S3, hd, hkv, hkeys, hkl⟩
        -- found.append(sorted(some))
        have hall : lots.take (ts.map V.ref).length = lots := by rw [List.length_map, hts.1, List.take_length]
        rw [hall] at hkeys
        rw [List.length_map, hts.1] at hkl
        have hkeysK : ∀ x, x ∈ keys ↔ LotK ws (L.length + 1) x := fun x => by
          rw [hkeys, lotK_succ]
          constructor
          · rintro ⟨lot, h1, h2⟩
            exact ⟨lot, (hI.mem _ _ atL lot).mp h1, h2⟩
          · rintro ⟨lot, h1, h2⟩
            exact ⟨lot, (hI.mem _ _ atL lot).mpr h1, h2⟩
        have hF3 := S3 _ _ hF
        refine ⟨_, rfl, .inl ⟨rfl, _, SqL.of hF3⟩, _, rfl, d, kvs, L.length + 1, ((6 : Nat) : Int), rfl, hd, by omega, fun p hp => ?_, fun bs ys p4 hbs hys np4 => ?_⟩
        · have : p.1 ∈ keys.map ky := by rw [← hkv]; exact List.mem_map.mpr ⟨p, hp, rfl⟩
          obtain ⟨x, hx, ex⟩ := List.mem_map.mp this
          have hk := (hkeysK x).mp hx
          refine ⟨zs x, ex.symm, ?_, bd_zs fun i hi => ?_⟩
          · unfold zs
            rw [List.length_map]
            exact hk.len
          · have := hk.lt i hi
            omega
        · obtain ⟨cs, rfl, hcs⟩ := refs_perm hys
          obtain ⟨lots', pr', hm', hl'⟩ := keys_lots hkv hbs hcs
          have u4 := same_upd (o := .lst (cs.map V.ref)) np4
          have hF4 := u4 _ _ hF3
          have ne4 : p4 ≠ fa := fun z => by rw [z] at np4; rw [np4] at hF3; cases hF3
          refine ⟨fa, _, _, rfl, rfl, hF4, ?_, ?_⟩
          · rw [List.length_map, List.length_append]
            exact small9 (by rw [hPr.1]; show L.length + 1 ≤ 1000; omega)
          · have S4 : Same H1 (upd H3 p4 (.lst (cs.map V.ref))) := S3.trans u4
            have put : ∀ {a : Addr} {ls : List (List Nat)}, a ≠ fa → LotsAt (upd H3 p4 (.lst (cs.map V.ref))) a ls → LotsAt (upd (upd H3 p4 (.lst (cs.map V.ref))) fa (.lst ((as ++ [la]).map V.ref ++ [.ref p4]))) a ls := fun {a ls} na h => by
              obtain ⟨us, h1, h2⟩ := h
              refine ⟨us, by rw [upd_ne na]; exact h1, h2.imp fun b lot r => ?_⟩
              have nb : b ≠ fa := fun z => by
                rw [TupAt, z, hF4] at r
                cases r
              show upd _ fa _ b = _
              rw [upd_ne nb]
              exact r
            have nas : ∀ a, a ∈ as ++ [la] → a ≠ fa := fun a ha z => hnf (z ▸ ha)
            refine ⟨ws.length + 1 - (L.length + 1), by omega, as ++ [la], p4, L ++ [lots], lots', _, _, _, rfl, samePut (S1.trans S4) nfaH, ?_, ?_, put ne4 ⟨cs, upd_same, pr'.imp fun a b r => u4 _ _ r⟩, ?_, ?_, ?_, by rw [List.length_append]; rfl, ?_⟩
            · rw [List.map_append (l₂ := [p4])]
              exact upd_same
            · have h1 : Prs (fun a lots => LotsAt (upd H3 p4 (.lst (cs.map V.ref))) a lots) (as ++ [la]) (L ++ [lots]) := (hPr.snoc hLa).imp fun a b r => r.same S4
              refine ⟨h1.1, fun i b e => ?_⟩
              obtain ⟨a, e1, r⟩ := h1.2 i b e
              exact ⟨a, e1, put (nas a (List.mem_of_getElem? e1)) r⟩
            · refine ⟨fun k xs e lot => ?_, fun k xs e => ?_⟩
              · by_cases hk : k < (L ++ [lots]).length
                · rw [List.getElem?_append_left hk] at e
                  exact hI.mem k xs e lot
                · have hk' : k = L.length + 1 := by
                    have h1 := (List.getElem?_eq_some_iff.mp e).1
                    rw [List.length_append, List.length_append] at h1
                    rw [List.length_append] at hk
                    simp only [List.length_singleton] at h1 hk
                    omega
                  rw [List.getElem?_append_right (by rw [List.length_append]; simp; omega), List.length_append, hk'] at e
                  simp at e
                  subst e
                  rw [hm', hk']
                  exact hkeysK lot
              · by_cases hk : k < (L ++ [lots]).length
                · rw [List.getElem?_append_left hk] at e
                  exact hI.size k xs e
                · have hk' : k = L.length + 1 := by
                    have h1 := (List.getElem?_eq_some_iff.mp e).1
                    rw [List.length_append, List.length_append] at h1
                    rw [List.length_append] at hk
                    simp only [List.length_singleton] at h1 hk
                    omega
                  rw [List.getElem?_append_right (by rw [List.length_append]; simp; omega), List.length_append, hk'] at e
                  simp at e
                  subst e
                  rw [hl', hk', Nat.pow_succ]
                  have := hI.size _ _ atL
                  omega
            · rw [List.length_append]
              show L.length + 1 ≤ ws.length + 1
              omega
            · intro z
              rcases List.mem_append.mp z with z | z
              · exact hnf z
              · exact ne4 (List.mem_singleton.mp z).symm
            · intro xs hxs
              rcases List.mem_append.mp hxs with z | z
              · exact hne xs z
              · rw [List.mem_singleton.mp z]
                exact List.ne_nil_of_mem hl1
end
end W35P
end

section
set_option maxRecDepth 100000
set_option maxHeartbeats 8000000
/-! cut_time, cut_times, lots_joining -/
namespace W35P
open PySem PySem.Spec PyProof.Rows L2 W35 W35R
/-- a slice of a tracked tuple: a tuple with that content, be it the same one -/
def rSlB : V → Option Int → Option Int → Hp → VK → Prop := fun x lo hi H Q => ∃ (a : Addr) (xs : List V), x = .ref a ∧ H a = some (.tup xs) ∧ ∀ (H' : Hp) (p : Addr), Same H H' → H' p = some (.tup (cutV xs lo hi)) → Q (.ref p) H'
theorem sl_tupB {X : Cx} : SlR X rSlB := fun pins s σ H x v vl vu lo hi sl Q I rx hs pl pu h => by
  obtain ⟨a, xs, e, ha, q⟩ := h
  refine sl_tupA pins s σ H x v vl vu lo hi sl Q I rx hs pl pu ⟨a, xs, e, SqT.of ha, fun z => q H a (Same.refl H) ?_, fun _ p np => q _ p (same_upd np) upd_same⟩
  rw [ha]
  unfold cutV
  rw [z.1, z.2, Nat.sub_zero, List.drop_zero, List.take_length]
theorem cut_drop (l : List Nat) {i : Nat} (h : i ≤ l.length) : cutV (iv l) (some (i : Int)) none = iv (l.drop i) := by
  unfold cutV
  rw [HT.sIx_nat, HT.sIx_none, iv_len, Nat.min_eq_left h, iv, iv, List.map_drop]
  refine List.take_of_length_le ?_
  rw [List.length_drop, List.length_map]
  exact Nat.le_refl _
section
variable {P : Program} {w : World} {K : PySem.W.Frag} {mg : Str → Option Value} {base : Heap}
abbrev sCutTime : Stmt := topS 26
theorem scCutTime : FnScope ["yard", "order", "room", "many"] ["yard", "order", "room"] (defScope sCutTime) := ⟨rfl, rfl, rfl, by decide +kernel, rfl, by decide +kernel, by decide +kernel⟩
def spCutTime : Sp := fun vs H Q _ => ∃ (y o : Addr) (many : Nat) (ws : List Wl) (or : List Nat) (r : Nat), vs = [.ref y, .ref o, .int r] ∧ YardAt H y many ws ∧ YOk many ws ∧ TupAt H o or ∧ (∀ i, i ∈ or → i < ws.length) ∧ or.length ≤ 6 ∧ r ≠ 0 ∧
  ∀ H', Same H H' → Q (.int (cutL ws r or : Nat)) H'
theorem cb_cut_time (D : Df K mg "cut_time" sCutTime ["yard", "order", "room"]) (T : Gb mg) (c1 : Cb P w K mg base 1 "joined" spJoined) : Cb P w K mg base 2 "cut_time" spCutTime := by
  refine D.ok scCutTime (fun vs H Q E h => ?_) (fun f cdv A outer s H vs Q E hr h => ?_)
  · obtain ⟨y, o, many, ws, or, r, rfl, _⟩ := h
    rfl
  · obtain ⟨y, o, many, ws, or, r, rfl, hY, ok, hO, hlt, hlen, r0, q⟩ := h
    have nd := scCutTime.nd
    refine ⟨_, pss_cons (ps_for PassesOwn.never rfl (pi_range1 (by rfl) T.range (pa_cons (pe_op op_add (pe_callB call_len_seq (by rfl) T.len b_len (pa_cons (pv 1) pa_nil)) pe_int) pa_nil)) (pg_name (i := 3) nd rfl (.inl rfl))
        (pss_one (ps_if (pt_cmpR op_notIn_seq (pv 2) (pe_cb c1 hr (pa_cons (pv 0) (pa_cons (pe_slice sl_tupB (pv 1) (po_some (pv 3)) po_none) pa_nil))) (by rfl)) (pss_one (ps_ret (pv 3))) pss_nil)))
      (pss_one (ps_ret pe_non)), ?_⟩
    refine ⟨_, rfl, o, _, rfl, .inr (SqT.of hO), _, _, rfl, rfl, _, rfl, ?_, ?_, ?_⟩
    · rw [iv_len]; omega
    · rw [iv_len]; omega
    have en : (((iv or).length : Int) + 1).toNat = or.length + 1 := by rw [iv_len]; omega
    show ∃ W : Nat → Nat → L2.St → Hp → Prop, _
    rw [en]
    refine for_range (lo := 0) (n := or.length + 1) (fun i σ H1 => (∃ a, σ = [some (.ref y), some (.ref o), some (.int r), a]) ∧ Same H H1 ∧ ∀ k, k < i → Join ws (or.drop k) r) ⟨⟨none, rfl⟩, Same.refl H, fun k hk => absurd hk (Nat.not_lt_zero k)⟩ ?_ ?_
    · rintro i σ H1 hi ⟨⟨a, rfl⟩, S1, hj⟩
      have ei : (0 : Int) + (i : Int) = (i : Int) := Int.zero_add _
      refine ⟨_, rfl, _, rfl, _, rfl, _, rfl, (0 : Int) + (i : Int), rfl, o, _, rfl, S1 _ _ hO, fun H2 p2 S2 hp2 => ?_⟩
      rw [ei, cut_drop or (by omega)] at hp2
      refine ⟨y, p2, many, ws, or.drop i, rfl, hY.same (S1.trans S2), ok, hp2, fun j hj => hlt j (List.mem_of_mem_drop hj), fun H3 p3 rs S3 np3 hp3 hrs => ?_⟩
      refine ⟨p3, _, rfl, .inl (SqL.of hp3), rfl, flat_iv _, _, rfl, ?_⟩
      show (if (if true = true then !inV (.int r) (iv rs) else inV (.int r) (iv rs)) = true then _ else _)
      rw [if_pos rfl, inV_iv]
      have S13 := (S1.trans S2).trans S3
      by_cases hm : r ∈ rs
      · rw [if_neg (by simp [hm])]
        refine ⟨⟨_, rfl⟩, S13, fun k hk => ?_⟩
        by_cases e : k = i
        · subst e
          exact (hrs r).mp hm
        · exact hj k (by omega)
      · rw [if_pos (by simp [hm])]
        refine ⟨_, rfl, ?_⟩
        have e : cutL ws r or = i := cutL_is r0 (fun z => hm ((hrs r).mpr z)) hj
        rw [← e] at ei
        rw [← e, ei]
        exact q _ S13
    · rintro σ H1 ⟨_, _, hj⟩
      have := hj or.length (Nat.lt_succ_self _)
      rw [List.drop_length] at this
      exact absurd this.nil r0

/-! ### cut_times -/
noncomputable def ctL (ws : List Wl) (many : Nat) (o : List Nat) : List Nat := (List.range (many - 1)).map fun i => cutL ws (i + 1) o
abbrev sCutTimes : Stmt := topS 27
abbrev lcCT : Expr := arg0 (retE (bodyAt sCutTimes 2))
theorem scCutTimes : FnScope ["yard", "order", "room"] ["yard", "order"] (defScope sCutTimes) := ⟨rfl, rfl, rfl, by decide +kernel, rfl, by decide +kernel, by decide +kernel⟩
theorem blCT : BlkOk ["yard", "order", "room"] (defScope sCutTimes) (lcS lcCT) [("room", 2)] := blkOk_by (by decide +kernel)
def spCutTimes : Sp := fun vs H Q _ => ∃ (y o : Addr) (many : Nat) (ws : List Wl) (or : List Nat), vs = [.ref y, .ref o] ∧ YardAt H y many ws ∧ YOk many ws ∧ TupAt H o or ∧ or.Perm (all ws) ∧
  ∀ (H' : Hp) (p : Addr), Same H H' → H p = none → TupAt H' p (ctL ws many or) → Q (.ref p) H'
theorem cb_cut_times (D : Df K mg "cut_times" sCutTimes ["yard", "order"]) (T : Gb mg) (c1 : Cb P w K mg base 4 "need_yard" spNeedYard) (c2 : Cb P w K mg base 2 "need_order" spNeedOrder) (c3 : Cb P w K mg base 2 "cut_time" spCutTime) : Cb P w K mg base 5 "cut_times" spCutTimes := by
  refine D.ok scCutTimes (fun vs H Q E h => ?_) (fun f cdv A outer s H vs Q E hr h => ?_)
  · obtain ⟨y, o, many, ws, or, rfl, _⟩ := h
    rfl
  · obtain ⟨y, o, many, ws, or, rfl, hY, ok, hO, hp, q⟩ := h
    have nd := scCutTimes.nd
    refine ⟨_, pss_cons (ps_expr (pe_cb c1 hr (pa_cons (pv 0) pa_nil))) (pss_cons (ps_expr (pe_cb c2 hr (pa_cons (pv 0) (pa_cons (pv 1) pa_nil))))
      (pss_one (ps_ret (pe_tupleOf (by rfl) T.tuple (pe_lc (own := [("room", 2)]) (g := gName 2) (tt := tYes) rfl nd (pi_range2 (by rfl) T.range (pa_cons pe_int (pa_cons (pe_ix ix_tup (pv 0) pe_int (fun _ _ => rfl)) pa_nil))) blCT
        (fun _ _ _ _ _ => pg_name (i := 2) nd rfl (Or.inl rfl)) (fun _ _ _ _ _ => pts_nil) (fun _ _ _ _ _ => pe_cb c3 hr (pa_cons (pv 0) (pa_cons (pv 1) (pa_cons (pv 2) pa_nil))))))))), ?_⟩
    have o1 := ok.1
    have o2 := ok.2.1
    have o3 := ok.2.2.1
    have hlt : ∀ i, i ∈ or → i < ws.length := fun i hi => List.mem_range.mp (hp.mem_iff.mp hi)
    have hlen : or.length ≤ 6 := by
      rw [hp.length_eq]
      show (List.range ws.length).length ≤ 6
      rw [List.length_range]
      exact o3
    refine ⟨_, rfl, y, many, ws, rfl, hY, ok, fun H1 S1 => ?_⟩
    refine ⟨_, rfl, _, rfl, y, o, many, ws, or, rfl, hY.same S1, o3, S1 _ _ hO, hp, fun H2 S2 => ?_⟩
    have S12 := S1.trans S2
    obtain ⟨wa, as, h1, h2, h3, h4⟩ := hY.same S12
    refine ⟨_, rfl, y, _, 0, .int many, rfl, rfl, SqT.of h1, atI_nat (j := 0) rfl, 1, many, rfl, ⟨by omega, by omega, by omega, by omega⟩, fun D nD => ?_⟩
    have en : ((many : Int) - 1).toNat = many - 1 := by omega
    show ∃ W : Nat → Nat → Hp → Prop, _
    rw [en]
    refine lc_range (lo := 1) (n := many - 1) (fun i H3 => Same H2 H3 ∧ LstAt H3 D ((List.range i).map fun i => cutL ws (i + 1) or)) ⟨same_upd nD, upd_same⟩ ?_ ?_
    · rintro i H3 hi ⟨S3, hD⟩
      have S13 := S12.trans S3
      refine ⟨rfl, ⟨_, rfl, _, rfl, _, rfl, y, o, many, ws, or, i + 1, ?_, hY.same S13, ok, S13 _ _ hO, hlt, hlen, by omega, fun H4 S4 => ?_⟩⟩
      · have e : (1 : Int) + (i : Int) = ((i + 1 : Nat) : Int) := by omega
        rw [e]
        rfl
      · refine ⟨_, S4 _ _ hD, small9 (by rw [iv_len, List.length_map, List.length_range]; omega), samePut (S3.trans S4) nD, ?_⟩
        rw [app_iv, List.range_succ, List.map_append]
        exact upd_same
    · rintro H3 ⟨S3, hD⟩
      exact .inl ⟨D, _, rfl, SqL.of hD, fun p np => q _ p (S12.trans (sameNew S3 np)) (S12.free (S3.free np)) upd_same⟩

/-! ### lots_joining -/
def JnAt (H : Hp) (p : Addr) (js : List (List Nat × Bool)) : Prop := ∃ as : List Addr, H p = some (.lst (as.map V.ref)) ∧ Prs (fun a (j : List Nat × Bool) => ∃ la, H a = some (.tup [.ref la, .bl j.2]) ∧ TupAt H la j.1) as js
structure JnOk (ws : List Wl) (r : Nat) (js : List (List Nat × Bool)) : Prop where
  all : ∀ t, Feas ws t → ∃ lot b, (lot, b) ∈ js ∧ lot.Perm t
  ok : ∀ lot b, (lot, b) ∈ js → (∃ t, Feas ws t ∧ lot.Perm t) ∧ (b = true ↔ Join ws lot r)
  len : js.length ≤ 400000
abbrev sJoining : Stmt := topS 28
theorem scJoining : FnScope ["yard", "room", "found", "layer", "lot"] ["yard", "room"] (defScope sJoining) := ⟨rfl, rfl, rfl, by decide +kernel, rfl, by decide +kernel, by decide +kernel⟩
def spJoining : Sp := fun vs H Q _ => ∃ (y : Addr) (many : Nat) (ws : List Wl) (r : Nat), vs = [.ref y, .int r] ∧ YardAt H y many ws ∧ YOk many ws ∧
  ∀ (H' : Hp) (p : Addr) (js : List (List Nat × Bool)), Same H H' → H p = none → JnAt H' p js → JnOk ws r js → Q (.ref p) H'
theorem ref_at {as : List Addr} {i : Nat} {x : V} (h : (as.map V.ref)[i]? = some x) : ∃ a, as[i]? = some a ∧ x = V.ref a := by
  rw [List.getElem?_map] at h
  cases e : as[i]? with
  | none => rw [e] at h; cases h
  | some a => rw [e] at h; exact ⟨a, rfl, (Option.some.inj h).symm⟩
theorem cb_joining (D : Df K mg "lots_joining" sJoining ["yard", "room"]) (T : Gb mg) (c1 : Cb P w K mg base 4 "layers_of" spLayers) (c2 : Cb P w K mg base 1 "joined" spJoined) : Cb P w K mg base 5 "lots_joining" spJoining := by
  refine D.ok scJoining (fun vs H Q E h => ?_) (fun f cdv A outer s H vs Q E hr h => ?_)
  · obtain ⟨y, many, ws, r, rfl, _⟩ := h
    rfl
  · obtain ⟨y, many, ws, r, rfl, hY, ok, q⟩ := h
    have nd := scJoining.nd
    refine ⟨_, pss_cons (ps_set (i := 2) nd rfl (.inl rfl) (pe_lst pa_nil))
      (pss_cons (ps_for PassesOwn.never rfl (pi_list (pe_cb c1 hr (pa_cons (pv 0) pa_nil))) (pg_name (i := 3) nd rfl (.inl rfl))
        (pss_one (ps_for PassesOwn.never rfl (pi_list (pv 3)) (pg_name (i := 4) nd rfl (.inl rfl))
          (pss_one (ps_expr (pe_bm PySem.F.plainAttrs_list PySem.F.slot_list_append PySem.F.type_list_append mt_append (pv 2) (pa_cons (pe_tup (pa_cons (pv 4) (pa_cons (pe_cmpR op_in_seq (pv 1) (pe_cb c2 hr (pa_cons (pv 0) (pa_cons (pv 4) pa_nil))) (by rfl)) pa_nil))) pa_nil)))))))
      (pss_one (ps_ret (pv 2)))), ?_⟩
    refine ⟨by show 0 ≤ sizeLine; decide, fun fa nfa => ?_⟩
    have s0 := same_upd (o := .lst []) nfa
    refine ⟨_, rfl, y, many, ws, rfl, hY.same s0, ok, fun H1 lp L S1 nlp hLp hLok => ?_⟩
    obtain ⟨las, hlas, prs⟩ := id hLp
    have hF1 := S1 _ _ upd_same
    have S01 := s0.trans S1
    have nlf : lp ≠ fa := fun z => by rw [z, upd_same] at nlp; cases nlp
    -- H: the heap ahead of the list; what was made since stands, but for the list itself
    have keepE : ∀ {H2 : Hp}, (∀ b o, H1 b = some o → b ≠ fa → H2 b = some o) → Same H H2 := fun k b o e => k b o (S01 _ _ e) (ne_of_none e nfa)
    refine ⟨lp, rfl, ⟨_, SqL.of hlas⟩, ?_⟩
    refine for_list (K := K) (a := lp) (xs := las.map V.ref) (fun i σ H2 => ∃ (js : List (List Nat × Bool)) (a3 a4 : Option V), σ = [some (.ref y), some (.int r), some (.ref fa), a3, a4] ∧ (∀ b o, H1 b = some o → b ≠ fa → H2 b = some o) ∧ JnAt H2 fa js ∧
        (∀ lots, lots ∈ L.take i → ∀ lot, lot ∈ lots → ∃ b, (lot, b) ∈ js) ∧ (∀ lot b, (lot, b) ∈ js → (∃ t, Feas ws t ∧ lot.Perm t) ∧ (b = true ↔ Join ws lot r)) ∧ js.length ≤ i * 46656)
      ⟨[], _, _, rfl, fun b o e _ => e, ⟨[], hF1, Prs.nil⟩, (fun lots h => by simp at h), (fun lot b h => by cases h), Nat.zero_le _⟩ (fun i σ H2 _ ⟨_, _, _, _, k, _⟩ => SqL.of (k _ _ hlas nlf)) ?_ ?_
    · rintro i x σ H2 hix ⟨js, a3, a4, rfl, k2, hJ, c1', c2', hl⟩
      obtain ⟨la, hla, rfl⟩ := ref_at hix
      obtain ⟨lots, hlots, ts, hts, pts⟩ := prs.back hla
      have hi : i < L.length := (List.getElem?_eq_some_iff.mp hlots).1
      have hmem := List.mem_of_getElem? hlots
      have nla : la ≠ fa := fun z => by
        rw [z, hF1] at hts
        have e : ([] : List V) = ts.map V.ref := HO.lst.inj (Option.some.inj hts)
        have : ts = [] := List.map_eq_nil_iff.mp e.symm
        refine hLok.ne lots hmem (List.eq_nil_of_length_eq_zero ?_)
        rw [← pts.1, this]
        rfl
      have hsz := hLok.size lots hmem
      have h7 := hLok.len
      refine ⟨_, rfl, la, rfl, ⟨_, SqL.of (k2 _ _ hts nla)⟩, ?_⟩
      refine for_list (K := K) (a := la) (xs := ts.map V.ref) (fun j σ H3 => ∃ (js : List (List Nat × Bool)) (a4 : Option V), σ = [some (.ref y), some (.int r), some (.ref fa), some (.ref la), a4] ∧ (∀ b o, H1 b = some o → b ≠ fa → H3 b = some o) ∧ JnAt H3 fa js ∧
          (∀ lots', lots' ∈ L.take i → ∀ lot, lot ∈ lots' → ∃ b, (lot, b) ∈ js) ∧ (∀ lot, lot ∈ lots.take j → ∃ b, (lot, b) ∈ js) ∧ (∀ lot b, (lot, b) ∈ js → (∃ t, Feas ws t ∧ lot.Perm t) ∧ (b = true ↔ Join ws lot r)) ∧ js.length ≤ i * 46656 + j)
        ⟨js, _, rfl, k2, hJ, c1', (fun lot h => by simp at h), c2', hl⟩ (fun j σ H3 _ ⟨_, _, _, k, _⟩ => SqL.of (k _ _ hts nla)) ?_ ?_
      · rintro j x σ H3 hjx ⟨js, a4, rfl, k3, ⟨as, hfa, pas⟩, d1, d2, d3, dl⟩
        obtain ⟨ta, hta, rfl⟩ := ref_at hjx
        obtain ⟨lot, hlot, htup⟩ := pts.back hta
        have hj : j < lots.length := (List.getElem?_eq_some_iff.mp hlot).1
        have nta : ta ≠ fa := fun z => by
          rw [TupAt, z, hF1] at htup
          cases htup
        obtain ⟨t, ft, pt⟩ := hLok.ok lots hmem lot (List.mem_of_getElem? hlot)
        have S3 := keepE k3
        have htup3 : TupAt H3 ta lot := k3 _ _ htup nta
        refine ⟨_, rfl, .inl ⟨rfl, _, SqL.of hfa⟩, _, rfl, _, rfl, _, rfl, _, rfl, y, ta, many, ws, lot, rfl, hY.same S3, ok, htup3, fun n hn => ft.lt n (pt.mem_iff.mp hn), fun H4 p4 rs S4 np4 hp4 hrs => ?_⟩
        refine ⟨p4, _, rfl, .inl (SqL.of hp4), rfl, flat_iv _, by show 2 ≤ sizeLine; decide, fun p5 np5 => ?_⟩
        rw [if_neg Bool.false_ne_true, inV_iv]
        have u5 := same_upd (o := .tup [.ref ta, .bl (decide (r ∈ rs))]) np5
        have S45 := S4.trans u5
        have hfa5 := S45 _ _ hfa
        have hfa4 := S4 _ _ hfa
        have np5f : p5 ≠ fa := fun z => by
          rw [z, hfa4] at np5
          cases np5
        refine ⟨fa, _, _, rfl, rfl, hfa5, ?_, ?_⟩
        · rw [List.length_map, pas.1, sizeLine_eq]
          omega
        have put : ∀ {a : Addr} {x : HO}, a ≠ fa → H3 a = some x → (upd (upd H4 p5 (.tup [.ref ta, .bl (decide (r ∈ rs))])) fa (.lst (as.map V.ref ++ [.ref p5]))) a = some x := fun na e => by
          rw [upd_ne na]
          exact S45 _ _ e
        have tne : ∀ {a : Addr} {xs : List V}, H3 a = some (.tup xs) → a ≠ fa := fun e z => by
          rw [z, hfa] at e
          cases e
        refine ⟨js ++ [(lot, decide (r ∈ rs))], _, rfl, fun b o e nb => put nb (k3 b o e nb), ⟨as ++ [p5], ?_, Prs.snoc (pas.imp fun a jj e => ?_) ⟨ta, ?_, put nta htup3⟩⟩, fun lots' h lot' hl => ?_, fun lot' hl => ?_, fun lot' b hb => ?_, ?_⟩
        · rw [List.map_append]
          exact upd_same
        · obtain ⟨la', e1, e2⟩ := e
          exact ⟨la', put (tne e1) e1, put (tne e2) e2⟩
        · rw [upd_ne np5f]
          exact upd_same
        · obtain ⟨b, hb⟩ := d1 lots' h lot' hl
          exact ⟨b, List.mem_append_left _ hb⟩
        · rw [List.take_add_one, hlot] at hl
          rcases List.mem_append.mp hl with h | h
          · obtain ⟨b, hb⟩ := d2 lot' h
            exact ⟨b, List.mem_append_left _ hb⟩
          · have e : lot' = lot := by simpa using h
            exact ⟨_, List.mem_append_right _ (by rw [e]; exact List.mem_singleton.mpr rfl)⟩
        · rcases List.mem_append.mp hb with h | h
          · exact d3 lot' b h
          · have e := List.mem_singleton.mp h
            rw [(Prod.mk.inj e).1, (Prod.mk.inj e).2]
            refine ⟨⟨t, ft, pt⟩, ?_⟩
            rw [decide_eq_true_iff]
            exact hrs r
        · rw [List.length_append]
          show js.length + 1 ≤ _
          omega
      · rintro σ H3 ⟨js, a4, rfl, k3, hJ3, d1, d2, d3, dl⟩
        rw [List.length_map, pts.1] at d2 dl
        rw [List.take_length] at d2
        refine ⟨js, _, _, rfl, k3, hJ3, fun lots' h lot hlot => ?_, d3, ?_⟩
        · rw [List.take_add_one, hlots] at h
          rcases List.mem_append.mp h with h | h
          · exact d1 lots' h lot hlot
          · have e : lots' = lots := by simpa using h
            rw [e] at hlot
            exact d2 lot hlot
        · rw [Nat.succ_mul]
          omega
    · rintro σ H2 ⟨js, a3, a4, rfl, k2, hJ, c1', c2', hl⟩
      rw [List.length_map, prs.1] at c1' hl
      rw [List.take_length] at c1'
      have h7 := hLok.len
      refine ⟨_, rfl, q _ fa js (keepE k2) nfa hJ ⟨fun t ft => ?_, c2', by omega⟩⟩
      obtain ⟨lots, h1, lot, h2, h3⟩ := hLok.all t ft
      obtain ⟨b, hb⟩ := c1' lots h1 lot h2
      exact ⟨lot, b, hb, h3⟩
end
end W35P
end

section
set_option maxRecDepth 100000
set_option maxHeartbeats 8000000
/-! least_cut, greatest_cut, cut_together -/
namespace W35P
open PySem PySem.Spec PyProof.Rows L2 W35 W35R
def lensB (b : Bool) (js : List (List Nat × Bool)) : List Nat := (js.filter fun j => j.2 == b).map fun j => j.1.length
theorem lensB_snoc {b : Bool} {js : List (List Nat × Bool)} {i : Nat} {j : List Nat × Bool} (h : js[i]? = some j) : lensB b (js.take (i + 1)) = if j.2 = b then lensB b (js.take i) ++ [j.1.length] else lensB b (js.take i) := by
  unfold lensB
  rw [List.take_add_one, h, List.filter_append]
  show List.map _ (_ ++ List.filter _ [j]) = _
  by_cases hb : j.2 = b
  · rw [if_pos hb, List.filter_cons, if_pos (by rw [hb]; exact beq_self_eq_true b), List.map_append]
    rfl
  · rw [if_neg hb, List.filter_cons, if_neg (by simp [hb]), List.filter_nil, List.append_nil]
theorem lensB_mem {b : Bool} {js : List (List Nat × Bool)} {k : Nat} : k ∈ lensB b js ↔ ∃ lot, (lot, b) ∈ js ∧ lot.length = k := by
  unfold lensB
  rw [List.mem_map]
  constructor
  · rintro ⟨⟨lot, c⟩, h, rfl⟩
    have h' := List.mem_filter.mp h
    have e : c = b := by simpa using h'.2
    exact ⟨lot, e ▸ h'.1, rfl⟩
  · rintro ⟨lot, h, rfl⟩
    exact ⟨(lot, b), List.mem_filter.mpr ⟨h, by simp⟩, rfl⟩
theorem lensB_len {b : Bool} {js : List (List Nat × Bool)} : (lensB b js).length ≤ js.length := by
  unfold lensB
  rw [List.length_map]
  exact List.length_filter_le _ _
theorem JnAt.same {H H' : Hp} {p : Addr} {js : List (List Nat × Bool)} (s : Same H H') (h : JnAt H p js) : JnAt H' p js := by
  obtain ⟨as, h1, h2⟩ := h
  exact ⟨as, s _ _ h1, h2.imp fun a j e => let ⟨la, e1, e2⟩ := e; ⟨la, s _ _ e1, s _ _ e2⟩⟩
theorem JnOk.open_ {ws : List Wl} {r : Nat} {js : List (List Nat × Bool)} (o : JnOk ws r js) {k : Nat} : k ∈ lensB false js ↔ ∃ t, Feas ws t ∧ ¬ Join ws t r ∧ t.length = k := by
  rw [lensB_mem]
  constructor
  · rintro ⟨lot, h, rfl⟩
    obtain ⟨⟨t, ft, pt⟩, hb⟩ := o.ok _ _ h
    refine ⟨t, ft, fun hj => ?_, pt.length_eq.symm⟩
    have := hb.mpr ((Join.perm pt).mpr hj)
    cases this
  · rintro ⟨t, ft, hj, rfl⟩
    obtain ⟨lot, b, h, pt⟩ := o.all t ft
    cases b with
    | false => exact ⟨lot, h, pt.length_eq⟩
    | true => exact absurd ((Join.perm pt).mp ((o.ok _ _ h).2.mp rfl)) hj
theorem JnOk.shut {ws : List Wl} {r : Nat} {js : List (List Nat × Bool)} (o : JnOk ws r js) {k : Nat} : k ∈ lensB true js ↔ ∃ t, Feas ws t ∧ Join ws t r ∧ t.length = k := by
  rw [lensB_mem]
  constructor
  · rintro ⟨lot, h, rfl⟩
    obtain ⟨⟨t, ft, pt⟩, hb⟩ := o.ok _ _ h
    exact ⟨t, ft, (Join.perm pt).mp (hb.mp rfl), pt.length_eq.symm⟩
  · rintro ⟨t, ft, hj, rfl⟩
    obtain ⟨lot, b, h, pt⟩ := o.all t ft
    cases b with
    | true => exact ⟨lot, h, pt.length_eq⟩
    | false =>
      have := (o.ok _ _ h).2.mpr ((Join.perm pt).mpr hj)
      cases this
section
variable {P : Program} {w : World} {K : PySem.W.Frag} {mg : Str → Option Value} {base : Heap}
abbrev sLeast : Stmt := topS 29
abbrev lcLe : Expr := asgE (bodyAt sLeast 3)
theorem scLeast : FnScope ["yard", "room", "some", "lot", "whole"] ["yard", "room"] (defScope sLeast) := ⟨rfl, rfl, rfl, by decide +kernel, rfl, by decide +kernel, by decide +kernel⟩
theorem blLe : BlkOk ["yard", "room", "some", "lot", "whole"] (defScope sLeast) (lcS lcLe) [("lot", 3), ("whole", 4)] := blkOk_by (by decide +kernel)
def spLeast : Sp := fun vs H Q _ => ∃ (y : Addr) (many : Nat) (ws : List Wl) (r : Nat), vs = [.ref y, .int r] ∧ YardAt H y many ws ∧ YOk many ws ∧ 1 ≤ r ∧ r < many ∧
  ∀ (H' : Hp) (v : V), Same H H' → (Growth ws (all ws) → ∃ m : Nat, v = .int m ∧ (∃ w, Full ws w ∧ cutL ws r w = m) ∧ ∀ w, Full ws w → m ≤ cutL ws r w) → (¬ Growth ws (all ws) → v = .non) → Q v H'
theorem cb_least (D : Df K mg "least_cut" sLeast ["yard", "room"]) (T : Gb mg) (c1 : Cb P w K mg base 4 "need_yard" spNeedYard) (c2 : Cb P w K mg base 4 "need_inner" spNeedInner) (c3 : Cb P w K mg base 3 "is_growth" spGrowth) (c4 : Cb P w K mg base 1 "every" spEvery)
    (c5 : Cb P w K mg base 5 "lots_joining" spJoining) : Cb P w K mg base 6 "least_cut" spLeast := by
  refine D.ok scLeast (fun vs H Q E h => ?_) (fun f cdv A outer s H vs Q E hr h => ?_)
  · obtain ⟨y, many, ws, r, rfl, _⟩ := h
    rfl
  · obtain ⟨y, many, ws, r, rfl, hY, ok, r1, r2, q⟩ := h
    have nd := scLeast.nd
    refine ⟨_, pss_cons (ps_expr (pe_cb c1 hr (pa_cons (pv 0) pa_nil))) (pss_cons (ps_expr (pe_cb c2 hr (pa_cons (pv 0) (pa_cons (pv 1) pa_nil))))
      (pss_cons (ps_if (pt_not (pt_val (pe_cb c3 hr (pa_cons (pv 0) (pa_cons (pe_cb c4 hr (pa_cons (pv 0) pa_nil)) pa_nil))))) (pss_one (ps_ret pe_non)) pss_nil)
      (pss_cons (ps_setLc (i := 2) (own := [("lot", 3), ("whole", 4)]) rfl nd rfl rfl (sw_true rfl rfl rfl (by decide +kernel)) (pi_list (pe_cb c5 hr (pa_cons (pv 0) (pa_cons (pv 1) pa_nil)))) blLe
        (fun _ _ _ _ _ => pgTK (n := 2) K (pgs_cons (pg_name (i := 3) nd rfl (Or.inl rfl)) (pgs_cons (pg_name (i := 4) nd rfl (Or.inl rfl)) pgs_nil)))
        (fun _ _ _ _ _ => pts_one (pt_not (pt_val (pv 4)))) (fun _ _ _ _ _ => pe_callB (lenK K) (by rfl) T.len b_len (pa_cons (pv 3) pa_nil)))
      (pss_one (ps_ret (pe_op op_sub (pe_callB call_len_seq (by rfl) T.len b_len (pa_cons (pe_ix ix_tup (pv 0) pe_int (fun _ _ => rfl)) pa_nil)) (pe_callB (cr_max rfl) (by rfl) T.max b_max (pa_cons (pv 2) pa_nil)))))))), ?_⟩
    have o3 := ok.2.2.1
    refine ⟨_, rfl, y, many, ws, rfl, hY, ok, fun H1 S1 => ?_⟩
    refine ⟨_, rfl, _, rfl, y, many, ws, r, rfl, hY.same S1, by omega, by omega, ?_⟩
    refine ⟨_, rfl, _, rfl, y, many, ws, rfl, hY.same S1, o3, fun H2 p2 S2 np2 hp2 => ?_⟩
    refine ⟨y, p2, many, ws, all ws, rfl, hY.same (S1.trans S2), ok, hp2, fun i hi => List.mem_range.mp hi, ?_, fun H3 b S3 hb => ?_⟩
    · show (List.range ws.length).length ≤ 6
      rw [List.length_range]
      exact o3
    have S13 := (S1.trans S2).trans S3
    refine ⟨_, rfl, ?_⟩
    cases b with
    | false =>
      have ng : ¬ Growth ws (all ws) := fun g => by
        have := hb.mpr g
        cases this
      refine iteT ?_
      exact q _ _ S13 (fun g => absurd g ng) fun _ => rfl
    | true =>
      have g := hb.mp rfl
      refine iteF ?_
      have hY3 := hY.same S13
      refine ⟨_, rfl, _, rfl, y, many, ws, r, rfl, hY3, ok, fun H4 jp js S4 np4 hJ hOk => ⟨jp, rfl, ?_⟩⟩
      obtain ⟨as, hjp, pas⟩ := id hJ
      refine ⟨⟨_, SqL.of hjp⟩, fun D nD => ?_⟩
      have jl := hOk.len
      refine lc_list (K := K) (a := jp) (xs := as.map V.ref) (fun i H5 => Same H4 H5 ∧ LstAt H5 D (lensB false (js.take i))) ⟨same_upd nD, upd_same⟩ (fun i H5 _ p => SqL.of (p.1 _ _ hjp)) ?_ ?_
      · rintro i x H5 hx ⟨S5, hD⟩
        obtain ⟨ja, hja, rfl⟩ := ref_at hx
        obtain ⟨j, hj, la, e1, e2⟩ := pas.back hja
        refine ⟨ja, _, rfl, SqT.of (S5 _ _ e1), rfl, _, _, rfl, _, _, rfl, rfl, rfl, _, rfl, _, rfl, ?_⟩
        obtain ⟨lot, bb⟩ := j
        have hsn := lensB_snoc (b := false) hj
        have hll : (lensB false (js.take i)).length ≤ 400000 := Nat.le_trans lensB_len (by rw [List.length_take]; omega)
        cases bb with
        | true =>
          refine iteF ⟨S5, ?_⟩
          rw [hsn, if_neg (fun z => by cases z)]
          exact hD
        | false =>
          refine iteT ⟨_, rfl, la, _, rfl, .inr (SqT.of (S5 _ _ e2)), _, hD, by rw [iv_len, sizeLine_eq]; omega, samePut S5 nD, ?_⟩
          rw [hsn, if_pos rfl, iv_len, app_iv]
          exact upd_same
      · rintro H5 ⟨S5, hD⟩
        rw [List.length_map, pas.1, List.take_length] at hD
        have hY5 := hY3.same (S4.trans S5)
        obtain ⟨wa, was, h1, h2, h3, h4⟩ := id hY5
        refine ⟨_, rfl, y, _, 1, .ref wa, rfl, rfl, SqT.of h1, atI_nat (j := 1) rfl, wa, _, rfl, .inr (SqT.of h2), _, rfl, D, zs (lensB false js), rfl, SqL.of (by rw [iv_zs]; exact hD), ?_, fun m hm hmax => ?_⟩
        · show 0 < (zs (lensB false js)).length
          exact List.length_pos_of_mem (List.mem_map.mpr ⟨0, hOk.open_.mpr ⟨[], .nil, fun z => by have := z.nil; omega, rfl⟩, rfl⟩)
        obtain ⟨k, hk, rfl⟩ := List.mem_map.mp hm
        refine ⟨_, _, rfl, rfl, ?_⟩
        have hk' := hOk.open_.mp hk
        have hkl : k ≤ ws.length := by
          obtain ⟨t, ft, _, rfl⟩ := hk'
          exact ft.length_le
        have hc := cut_least g (by omega) hk' fun t ft hj => by
          have := hmax _ (List.mem_map.mpr ⟨_, hOk.open_.mpr ⟨t, ft, hj, rfl⟩, rfl⟩)
          omega
        refine q _ _ (S13.trans (S4.trans S5)) (fun _ => ⟨ws.length - k, ?_, hc.1, hc.2⟩) fun ng => absurd g ng
        rw [List.length_map, h3]
        show V.int ((ws.length : Int) - (k : Int)) = V.int ((ws.length - k : Nat) : Int)
        exact congrArg V.int (by omega)
end
end W35P
end

section
set_option maxRecDepth 100000
set_option maxHeartbeats 8000000
/-! greatest_cut, cut_together -/
namespace W35P
open PySem PySem.Spec PyProof.Rows L2 W35 W35R
section
variable {P : Program} {w : World} {K : PySem.W.Frag} {mg : Str → Option Value} {base : Heap}
abbrev sGreat : Stmt := topS 30
abbrev lcGr : Expr := asgE (bodyAt sGreat 3)
theorem scGreat : FnScope ["yard", "room", "some", "lot", "whole"] ["yard", "room"] (defScope sGreat) := ⟨rfl, rfl, rfl, by decide +kernel, rfl, by decide +kernel, by decide +kernel⟩
theorem blGr : BlkOk ["yard", "room", "some", "lot", "whole"] (defScope sGreat) (lcS lcGr) [("lot", 3), ("whole", 4)] := blkOk_by (by decide +kernel)
def spGreat : Sp := fun vs H Q _ => ∃ (y : Addr) (many : Nat) (ws : List Wl) (r : Nat), vs = [.ref y, .int r] ∧ YardAt H y many ws ∧ YOk many ws ∧ 1 ≤ r ∧ r < many ∧
  ∀ (H' : Hp) (v : V), Same H H' → (Growth ws (all ws) → ∃ m : Nat, v = .int m ∧ (∃ w, Full ws w ∧ cutL ws r w = m) ∧ ∀ w, Full ws w → cutL ws r w ≤ m) → (¬ Growth ws (all ws) → v = .non) → Q v H'
theorem cb_great (D : Df K mg "greatest_cut" sGreat ["yard", "room"]) (T : Gb mg) (c1 : Cb P w K mg base 4 "need_yard" spNeedYard) (c2 : Cb P w K mg base 4 "need_inner" spNeedInner) (c3 : Cb P w K mg base 3 "is_growth" spGrowth) (c4 : Cb P w K mg base 1 "every" spEvery)
    (c5 : Cb P w K mg base 5 "lots_joining" spJoining) : Cb P w K mg base 6 "greatest_cut" spGreat := by
  refine D.ok scGreat (fun vs H Q E h => ?_) (fun f cdv A outer s H vs Q E hr h => ?_)
  · obtain ⟨y, many, ws, r, rfl, _⟩ := h
    rfl
  · obtain ⟨y, many, ws, r, rfl, hY, ok, r1, r2, q⟩ := h
    have nd := scGreat.nd
    refine ⟨_, pss_cons (ps_expr (pe_cb c1 hr (pa_cons (pv 0) pa_nil))) (pss_cons (ps_expr (pe_cb c2 hr (pa_cons (pv 0) (pa_cons (pv 1) pa_nil))))
      (pss_cons (ps_if (pt_not (pt_val (pe_cb c3 hr (pa_cons (pv 0) (pa_cons (pe_cb c4 hr (pa_cons (pv 0) pa_nil)) pa_nil))))) (pss_one (ps_ret pe_non)) pss_nil)
      (pss_cons (ps_setLc (i := 2) (own := [("lot", 3), ("whole", 4)]) rfl nd rfl rfl (sw_true rfl rfl rfl (by decide +kernel)) (pi_list (pe_cb c5 hr (pa_cons (pv 0) (pa_cons (pv 1) pa_nil)))) blGr
        (fun _ _ _ _ _ => pgTK (n := 2) K (pgs_cons (pg_name (i := 3) nd rfl (Or.inl rfl)) (pgs_cons (pg_name (i := 4) nd rfl (Or.inl rfl)) pgs_nil)))
        (fun _ _ _ _ _ => pts_one (pt_val (pv 4))) (fun _ _ _ _ _ => pe_callB (lenK K) (by rfl) T.len b_len (pa_cons (pv 3) pa_nil)))
      (pss_one (ps_ret (pe_ifExp (pt_cmpR (op_ne0 hr.units) (pv 2) (pe_lst pa_nil) (nomark _)) (pe_op op_add (pe_op op_sub (pe_callB call_len_seq (by rfl) T.len b_len (pa_cons (pe_ix ix_tup (pv 0) pe_int (fun _ _ => rfl)) pa_nil)) (pe_callB (cr_min rfl) (by rfl) T.min b_min (pa_cons (pv 2) pa_nil))) pe_int) pe_int)))))), ?_⟩
    have o3 := ok.2.2.1
    refine ⟨_, rfl, y, many, ws, rfl, hY, ok, fun H1 S1 => ?_⟩
    refine ⟨_, rfl, _, rfl, y, many, ws, r, rfl, hY.same S1, by omega, by omega, ?_⟩
    refine ⟨_, rfl, _, rfl, y, many, ws, rfl, hY.same S1, o3, fun H2 p2 S2 np2 hp2 => ?_⟩
    refine ⟨y, p2, many, ws, all ws, rfl, hY.same (S1.trans S2), ok, hp2, fun i hi => List.mem_range.mp hi, ?_, fun H3 b S3 hb => ?_⟩
    · show (List.range ws.length).length ≤ 6
      rw [List.length_range]
      exact o3
    have S13 := (S1.trans S2).trans S3
    refine ⟨_, rfl, ?_⟩
    cases b with
    | false =>
      have ng : ¬ Growth ws (all ws) := fun g => by
        have := hb.mpr g
        cases this
      refine iteT ?_
      exact q _ _ S13 (fun g => absurd g ng) fun _ => rfl
    | true =>
      have g := hb.mp rfl
      refine iteF ?_
      have hY3 := hY.same S13
      refine ⟨_, rfl, _, rfl, y, many, ws, r, rfl, hY3, ok, fun H4 jp js S4 np4 hJ hOk => ⟨jp, rfl, ?_⟩⟩
      obtain ⟨as, hjp, pas⟩ := id hJ
      refine ⟨⟨_, SqL.of hjp⟩, fun D nD => ?_⟩
      have jl := hOk.len
      refine lc_list (K := K) (a := jp) (xs := as.map V.ref) (fun i H5 => Same H4 H5 ∧ LstAt H5 D (lensB true (js.take i))) ⟨same_upd nD, upd_same⟩ (fun i H5 _ p => SqL.of (p.1 _ _ hjp)) ?_ ?_
      · rintro i x H5 hx ⟨S5, hD⟩
        obtain ⟨ja, hja, rfl⟩ := ref_at hx
        obtain ⟨j, hj, la, e1, e2⟩ := pas.back hja
        refine ⟨ja, _, rfl, SqT.of (S5 _ _ e1), rfl, _, _, rfl, _, _, rfl, rfl, rfl, _, rfl, _, rfl, ?_⟩
        obtain ⟨lot, bb⟩ := j
        have hsn := lensB_snoc (b := true) hj
        have hll : (lensB true (js.take i)).length ≤ 400000 := Nat.le_trans lensB_len (by rw [List.length_take]; omega)
        cases bb with
        | false =>
          refine iteF ⟨S5, ?_⟩
          rw [hsn, if_neg (fun z => by cases z)]
          exact hD
        | true =>
          refine iteT ⟨_, rfl, la, _, rfl, .inr (SqT.of (S5 _ _ e2)), _, hD, by rw [iv_len, sizeLine_eq]; omega, samePut S5 nD, ?_⟩
          rw [hsn, if_pos rfl, iv_len, app_iv]
          exact upd_same
      · rintro H5 ⟨S5, hD⟩
        rw [List.length_map, pas.1, List.take_length] at hD
        have hY5 := hY3.same (S4.trans S5)
        obtain ⟨wa, was, h1, h2, h3, h4⟩ := id hY5
        have pl : ∀ z ∈ iv (lensB true js), Pl K H5 z := fun z hz => by
          obtain ⟨n, _, rfl⟩ := List.mem_map.mp hz
          exact .inl ⟨_, rfl⟩
        refine ⟨_, rfl, by show 0 ≤ sizeLine; decide, fun e0 ne0 => ?_⟩
        have se := same_upd (o := .lst []) ne0
        refine ⟨D, e0, _, rfl, rfl, SqL.of (se _ _ hD), SqL.of upd_same, (fun z hz => by
          obtain ⟨n, _, rfl⟩ := List.mem_map.mp hz
          exact .inl ⟨_, rfl⟩), _, rfl, ?_⟩
        have Sall := (S13.trans (S4.trans S5)).trans se
        cases hem : (iv (lensB true js)).isEmpty with
        | true =>
          have el : lensB true js = [] := by
            cases e : lensB true js with
            | nil => rfl
            | cons a l => rw [e] at hem; cases hem
          refine iteF ?_
          have nv : ∀ t, Feas ws t → ¬ Join ws t r := fun t ft hj => by
            have := hOk.shut.mpr ⟨t, ft, hj, rfl⟩
            rw [el] at this
            cases this
          obtain ⟨w0, f0⟩ := g.full
          exact q _ _ Sall (fun _ => ⟨0, rfl, ⟨w0, f0, cut_never nv f0⟩, fun w f => by rw [cut_never nv f]; exact Nat.le_refl 0⟩) fun ng => absurd g ng
        | false =>
          refine iteT ?_
          refine ⟨_, rfl, y, _, 1, .ref wa, rfl, rfl, SqT.of (se _ _ h1), atI_nat (j := 1) rfl, wa, _, rfl, .inr (SqT.of (se _ _ h2)), _, rfl, D, zs (lensB true js), rfl, SqL.of (by rw [iv_zs]; exact se _ _ hD), ?_, fun m hm hmax => ?_⟩
          · show 0 < (zs (lensB true js)).length
            cases e : lensB true js with
            | nil => rw [e] at hem; cases hem
            | cons a l => exact Nat.succ_pos _
          obtain ⟨k, hk, rfl⟩ := List.mem_map.mp hm
          refine ⟨_, _, rfl, rfl, _, _, rfl, rfl, ?_⟩
          have hk' := hOk.shut.mp hk
          have hkl : k ≤ ws.length := by
            obtain ⟨t, ft, _, rfl⟩ := hk'
            exact ft.length_le
          have hc := cut_greatest g (by omega) hk' fun t ft hj => by
            have := hmax _ (List.mem_map.mpr ⟨_, hOk.shut.mpr ⟨t, ft, hj, rfl⟩, rfl⟩)
            omega
          refine q _ _ Sall (fun _ => ⟨ws.length - k + 1, ?_, hc.1, hc.2⟩) fun ng => absurd g ng
          rw [List.length_map, h3]
          show V.int ((ws.length : Int) - (k : Int) + 1) = V.int ((ws.length - k + 1 : Nat) : Int)
          exact congrArg V.int (by omega)

end
end W35P
end

section
set_option maxRecDepth 100000
set_option maxHeartbeats 8000000
/-! cut_together -/
namespace W35P
open PySem PySem.Spec PyProof.Rows L2 W35 W35R
section
variable {P : Program} {w : World} {K : PySem.W.Frag} {mg : Str → Option Value} {base : Heap}
abbrev sTog : Stmt := topS 31
theorem scTog : FnScope ["yard", "one", "other", "layer", "lot", "rooms"] ["yard", "one", "other"] (defScope sTog) := ⟨rfl, rfl, rfl, by decide +kernel, rfl, by decide +kernel, by decide +kernel⟩
def spTog : Sp := fun vs H Q _ => ∃ (y : Addr) (many : Nat) (ws : List Wl) (r1 r2 : Nat), vs = [.ref y, .int r1, .int r2] ∧ YardAt H y many ws ∧ YOk many ws ∧ (1 ≤ r1 ∧ r1 < many) ∧ (1 ≤ r2 ∧ r2 < many) ∧
  ∀ (H' : Hp) (v : V), Same H H' → (Growth ws (all ws) → ∃ b : Bool, v = .bl b ∧ (b = true ↔ ∀ w, Full ws w → cutL ws r1 w = cutL ws r2 w)) → (¬ Growth ws (all ws) → v = .non) → Q v H'
theorem cb_tog (D : Df K mg "cut_together" sTog ["yard", "one", "other"]) (T : Gb mg) (c1 : Cb P w K mg base 4 "need_yard" spNeedYard) (c2 : Cb P w K mg base 4 "need_inner" spNeedInner) (c3 : Cb P w K mg base 3 "is_growth" spGrowth) (c4 : Cb P w K mg base 1 "every" spEvery)
    (c5 : Cb P w K mg base 4 "layers_of" spLayers) (c6 : Cb P w K mg base 1 "joined" spJoined) : Cb P w K mg base 5 "cut_together" spTog := by
  refine D.ok scTog (fun vs H Q E h => ?_) (fun f cdv A outer s H vs Q E hr h => ?_)
  · obtain ⟨y, many, ws, r1, r2, rfl, _⟩ := h
    rfl
  · obtain ⟨y, many, ws, r1, r2, rfl, hY, ok, hr1, hr2, q⟩ := h
    have nd := scTog.nd
    refine ⟨_, pss_cons (ps_expr (pe_cb c1 hr (pa_cons (pv 0) pa_nil))) (pss_cons (ps_expr (pe_cb c2 hr (pa_cons (pv 0) (pa_cons (pv 1) pa_nil)))) (pss_cons (ps_expr (pe_cb c2 hr (pa_cons (pv 0) (pa_cons (pv 2) pa_nil))))
      (pss_cons (ps_if (pt_not (pt_val (pe_cb c3 hr (pa_cons (pv 0) (pa_cons (pe_cb c4 hr (pa_cons (pv 0) pa_nil)) pa_nil))))) (pss_one (ps_ret pe_non)) pss_nil)
      (pss_cons (ps_for PassesOwn.never rfl (pi_list (pe_cb c5 hr (pa_cons (pv 0) pa_nil))) (pg_name (i := 3) nd rfl (.inl rfl))
        (pss_one (ps_for PassesOwn.never rfl (pi_list (pv 3)) (pg_name (i := 4) nd rfl (.inl rfl))
          (pss_cons (ps_set (i := 5) nd rfl (.inl rfl) (pe_cb c6 hr (pa_cons (pv 0) (pa_cons (pv 4) pa_nil))))
          (pss_one (ps_if (pt_cmpR op_ne (pe_cmpR op_in_seq (pv 1) (pv 5) (by rfl)) (pe_cmpR op_in_seq (pv 2) (pv 5) (by rfl)) (nomark _)) (pss_one (ps_ret pe_bl)) pss_nil))))))
      (pss_one (ps_ret pe_bl)))))), ?_⟩
    have o3 := ok.2.2.1
    refine ⟨_, rfl, y, many, ws, rfl, hY, ok, fun H1 S1 => ?_⟩
    refine ⟨_, rfl, _, rfl, y, many, ws, r1, rfl, hY.same S1, by omega, by omega, ?_⟩
    refine ⟨_, rfl, _, rfl, y, many, ws, r2, rfl, hY.same S1, by omega, by omega, ?_⟩
    refine ⟨_, rfl, _, rfl, y, many, ws, rfl, hY.same S1, o3, fun H2 p2 S2 np2 hp2 => ?_⟩
    refine ⟨y, p2, many, ws, all ws, rfl, hY.same (S1.trans S2), ok, hp2, fun i hi => List.mem_range.mp hi, ?_, fun H3 b S3 hb => ?_⟩
    · show (List.range ws.length).length ≤ 6
      rw [List.length_range]
      exact o3
    have S13 := (S1.trans S2).trans S3
    refine ⟨_, rfl, ?_⟩
    cases b with
    | false =>
      have ng : ¬ Growth ws (all ws) := fun g => by
        have := hb.mpr g
        cases this
      refine iteT ?_
      exact q _ _ S13 (fun g => absurd g ng) fun _ => rfl
    | true =>
      have g := hb.mp rfl
      have both := cut_both (r := r1) (q := r2) g (by omega) (by omega)
      refine iteF ?_
      have hY3 := hY.same S13
      refine ⟨_, rfl, y, many, ws, rfl, hY3, ok, fun H4 lp L S4 nlp hLp hLok => ?_⟩
      obtain ⟨las, hlas, prs⟩ := id hLp
      refine ⟨lp, rfl, ⟨_, SqL.of hlas⟩, ?_⟩
      refine for_list (K := K) (a := lp) (xs := las.map V.ref) (fun i σ H5 => ∃ a3 a4 a5 : Option V, σ = [some (.ref y), some (.int r1), some (.int r2), a3, a4, a5] ∧ Same H4 H5 ∧ ∀ lots, lots ∈ L.take i → ∀ lot, lot ∈ lots → (Join ws lot r1 ↔ Join ws lot r2))
        ⟨_, _, _, rfl, Same.refl H4, fun lots h => by simp at h⟩ (fun i σ H5 _ ⟨_, _, _, _, s5, _⟩ => SqL.of (s5 _ _ hlas)) ?_ ?_
      · rintro i x σ H5 hix ⟨a3, a4, a5, rfl, S5, hall⟩
        obtain ⟨la, hla, rfl⟩ := ref_at hix
        obtain ⟨lots, hlots, ts, hts, pts⟩ := prs.back hla
        have hmem := List.mem_of_getElem? hlots
        refine ⟨_, rfl, la, rfl, ⟨_, SqL.of (S5 _ _ hts)⟩, ?_⟩
        refine for_list (K := K) (a := la) (xs := ts.map V.ref) (fun j σ H6 => ∃ a4 a5 : Option V, σ = [some (.ref y), some (.int r1), some (.int r2), some (.ref la), a4, a5] ∧ Same H4 H6 ∧ ∀ lot, lot ∈ lots.take j → (Join ws lot r1 ↔ Join ws lot r2))
          ⟨_, _, rfl, S5, fun lot h => by simp at h⟩ (fun j σ H6 _ ⟨_, _, _, s6, _⟩ => SqL.of (s6 _ _ hts)) ?_ ?_
        · rintro j x σ H6 hjx ⟨a4, a5, rfl, S6, hl⟩
          obtain ⟨ta, hta, rfl⟩ := ref_at hjx
          obtain ⟨lot, hlot, htup⟩ := pts.back hta
          obtain ⟨t, ft, pt⟩ := hLok.ok lots hmem lot (List.mem_of_getElem? hlot)
          refine ⟨_, rfl, _, rfl, y, ta, many, ws, lot, rfl, hY3.same (S4.trans S6), ok, S6 _ _ htup, fun n hn => ft.lt n (pt.mem_iff.mp hn), fun H7 p7 rs S7 np7 hp7 hrs => ?_⟩
          refine ⟨_, rfl, _, rfl, p7, _, rfl, .inl (SqL.of hp7), rfl, flat_iv _, _, rfl, _, rfl, p7, _, rfl, .inl (SqL.of hp7), rfl, flat_iv _, rfl, _, rfl, ?_⟩
          show (if (!decide (V.bl (if false = true then !inV (.int r1) (iv rs) else inV (.int r1) (iv rs)) = V.bl (if false = true then !inV (.int r2) (iv rs) else inV (.int r2) (iv rs)))) = true then _ else _)
          rw [if_neg Bool.false_ne_true, if_neg Bool.false_ne_true, inV_iv, inV_iv]
          by_cases e : (r1 ∈ rs ↔ r2 ∈ rs)
          · have e' : decide (r1 ∈ rs) = decide (r2 ∈ rs) := decide_eq_decide.mpr e
            rw [e', decide_eq_true rfl]
            refine iteF ⟨_, _, rfl, S6.trans S7, fun lot' hl' => ?_⟩
            rw [List.take_add_one, hlot] at hl'
            rcases List.mem_append.mp hl' with h | h
            · exact hl lot' h
            · have e2 : lot' = lot := by simpa using h
              rw [e2, ← hrs, ← hrs]
              exact e
          · have e' : ¬ V.bl (decide (r1 ∈ rs)) = V.bl (decide (r2 ∈ rs)) := fun z => e (decide_eq_decide.mp (V.bl.inj z))
            rw [decide_eq_false e']
            refine iteT ?_
            refine q _ _ (S13.trans (S4.trans (S6.trans S7))) (fun _ => ⟨false, rfl, (fun z => by cases z), fun z => ?_⟩) fun ng => absurd g ng
            have := both.mpr z t ft
            rw [← Join.perm pt, ← Join.perm pt, ← hrs, ← hrs] at this
            exact absurd this e
        · rintro σ H6 ⟨a4, a5, rfl, S6, hl⟩
          rw [List.length_map, pts.1, List.take_length] at hl
          refine ⟨_, _, _, rfl, S6, fun lots' h lot hlot => ?_⟩
          rw [List.take_add_one, hlots] at h
          rcases List.mem_append.mp h with h | h
          · exact hall lots' h lot hlot
          · have e : lots' = lots := by simpa using h
            rw [e] at hlot
            exact hl lot hlot
      · rintro σ H5 ⟨a3, a4, a5, rfl, S5, hall⟩
        rw [List.length_map, prs.1, List.take_length] at hall
        refine q _ _ (S13.trans (S4.trans S5)) (fun _ => ⟨true, rfl, fun _ => ?_, fun _ => rfl⟩) fun ng => absurd g ng
        refine both.mp fun t ft => ?_
        obtain ⟨lots, h1, lot, h2, h3⟩ := hLok.all t ft
        rw [← Join.perm h3, ← Join.perm h3]
        exact hall lots h1 lot h2
end
end W35P
end

section
set_option maxRecDepth 100000
set_option maxHeartbeats 8000000
/-! _law_taken -/
namespace W35P
open PySem PySem.Spec PyProof.Rows L2 W35 W35R
/-- everything stands, but for the row -/
def Kp (row : Addr) (H H' : Hp) : Prop := ∀ b o, b ≠ row → H b = some o → H' b = some o
theorem Kp.refl {row : Addr} {H : Hp} : Kp row H H := fun _ _ _ e => e
theorem Kp.trans {row : Addr} {H1 H2 H3 : Hp} (a : Kp row H1 H2) (b : Kp row H2 H3) : Kp row H1 H3 := fun c o n e => b c o n (a c o n e)
theorem Kp.of {row : Addr} {H H' : Hp} (s : Same H H') : Kp row H H' := fun b o _ e => s b o e
/-- the script: frozen, or of the module; no plain list of ours -/
def ScAt (K : PySem.W.Frag) (H : Hp) (sc : Addr) (ns : List Int) : Prop := (∃ o, H sc = some (.frz o (.lst (ns.map V.int)))) ∨ ∀ H', SqL K H' sc (ns.map V.int)
theorem ScAt.sq {K : PySem.W.Frag} {H : Hp} {sc : Addr} {ns : List Int} (h : ScAt K H sc ns) : SqL K H sc (ns.map V.int) := by
  rcases h with ⟨o, h⟩ | h
  · exact .inl (.inr ⟨o, h⟩)
  · exact h H
def NoFz (H : Hp) (b : Addr) : Prop := ∀ o u, H b ≠ some (.frz o u)
theorem NoFz.lst {H : Hp} {b : Addr} {xs : List V} (h : H b = some (.lst xs)) : NoFz H b := fun o u e => by
  rw [h] at e
  cases e
theorem NoFz.none {H : Hp} {b : Addr} (h : H b = none) : NoFz H b := fun o u e => by
  rw [h] at e
  cases e
theorem ScAt.put {K : PySem.W.Frag} {H : Hp} {sc b : Addr} {ns : List Int} {x : HO} (h : ScAt K H sc ns) (n : NoFz H b) : ScAt K (upd H b x) sc ns := by
  rcases h with ⟨o, h⟩ | h
  · refine .inl ⟨o, ?_⟩
    have ne : sc ≠ b := fun e => n o _ (e ▸ h)
    rw [upd_ne ne]
    exact h
  · exact .inr h
theorem ScAt.same {K : PySem.W.Frag} {H H' : Hp} {sc : Addr} {ns : List Int} (s : Same H H') (h : ScAt K H sc ns) : ScAt K H' sc ns := by
  rcases h with ⟨o, h⟩ | h
  · exact .inl ⟨o, s _ _ h⟩
  · exact .inr h
structure RowAt (K : PySem.W.Frag) (H : Hp) (ns : List Int) (row : Addr) : Prop where
  ex : ∃ (sc : Addr) (k s rest : Int), H row = some (.lst [.ref sc, .int k, .int s, .int rest]) ∧ ScAt K H sc ns ∧ 0 ≤ k ∧ (0 ≤ s ∧ s < 2147483647) ∧ 0 ≤ rest
theorem RowAt.same {K : PySem.W.Frag} {H H' : Hp} {ns : List Int} {row : Addr} (s : Same H H') (h : RowAt K H ns row) : RowAt K H' ns row := by
  obtain ⟨sc, k, s', r, h1, h2, h3⟩ := h
  exact ⟨sc, k, s', r, s _ _ h1, h2.same s, h3⟩
theorem RowAt.put {K : PySem.W.Frag} {H : Hp} {ns : List Int} {row b : Addr} {x : HO} (h : RowAt K H ns row) (hb : row ≠ b) (n : NoFz H b) : RowAt K (upd H b x) ns row := by
  obtain ⟨sc, k, s', r, h1, h2, h3⟩ := h
  exact ⟨sc, k, s', r, by rw [upd_ne hb]; exact h1, h2.put n, h3⟩
theorem RowAt.lst {K : PySem.W.Frag} {H : Hp} {ns : List Int} {row : Addr} (h : RowAt K H ns row) : ∃ xs, H row = some (.lst xs) := by
  obtain ⟨sc, k, s', r, h1, h2, h3⟩ := h
  exact ⟨_, h1⟩
section
variable {P : Program} {w : World} {K : PySem.W.Frag} {mg : Str → Option Value} {base : Heap}
abbrev sTaken : Stmt := topS 33
theorem scTaken : FnScope ["_law_row", "_law_many", "_law_found", "_law_cell"] ["_law_row", "_law_many"] (defScope sTaken) := ⟨rfl, rfl, rfl, by decide +kernel, rfl, by decide +kernel, by decide +kernel⟩
def spTaken (K : PySem.W.Frag) : Sp := fun vs H Q _ => ∃ (row : Addr) (m : Nat) (ns : List Int), vs = [.ref row, .int m] ∧ 1 ≤ m ∧ m ≤ 1000 ∧ RowAt K H ns row ∧
  ∀ (H' : Hp) (v : Nat), v < m → Kp row H H' → RowAt K H' ns row → Q (.int v) H'
theorem cb_taken (D : Df K mg "_law_taken" sTaken ["_law_row", "_law_many"]) (T : Gb mg) : Cb P w K mg base 1 "_law_taken" (spTaken K) := by
  refine D.ok scTaken (fun vs H Q E h => ?_) (fun f cdv A outer s H vs Q E hr h => ?_)
  · obtain ⟨row, m, ns, rfl, _⟩ := h
    rfl
  · obtain ⟨row, m, ns, rfl, m1, m2, ⟨sc, k, s, rest, hrow, hsc, k0, ⟨s0, s1⟩, r0⟩, q⟩ := h
    have nd := scTaken.nd
    refine ⟨_, pss_cons (ps_if (pt_cmpR op_gt (pe_ix ix_list (pv 0) pe_int (fun _ _ => rfl)) pe_int (nomark _))
        (pss_cons (ps_set (i := 2) nd rfl (.inl rfl) (pe_op op_mod (pe_callTy call_int1 (by rfl) T.int b_int (pa_cons (pe_ix ix_list (pv 0) pe_int (fun _ _ => rfl)) pa_nil)) (pv 1)))
        (pss_cons (ps_asg (pe_op op_fdiv (pe_ix ix_list (pv 0) pe_int (fun _ _ => rfl)) (pv 1)) (pg_sub (pv 0) pe_int set_list))
        (pss_one (ps_ret (pv 2))))) pss_nil)
      (pss_cons (ps_asg (pe_op op_add (pe_ix ix_list (pv 0) pe_int (fun _ _ => rfl)) pe_int) (pg_sub (pv 0) pe_int set_list))
      (pss_cons (ps_if (pt_cmpR op_gt (pe_ix ix_list (pv 0) pe_int (fun _ _ => rfl)) (pe_callB call_len_seq (by rfl) T.len b_len (pa_cons (pe_ix ix_list (pv 0) pe_int (fun _ _ => rfl)) pa_nil)) (nomark _))
        (pss_cons (ps_asg (pe_op op_mod (pe_callTy call_int1 (by rfl) T.int b_int (pa_cons (pe_op op_add (pe_op op_mul (pe_ix ix_list (pv 0) pe_int (fun _ _ => rfl)) pe_int) pe_int) pa_nil)) pe_int) (pg_sub (pv 0) pe_int set_list))
        (pss_one (ps_ret (pe_op op_mod (pe_callTy call_int1 (by rfl) T.int b_int (pa_cons (pe_op op_fdiv (pe_ix ix_list (pv 0) pe_int (fun _ _ => rfl)) pe_int) pa_nil)) (pv 1))))) pss_nil)
      (pss_cons (ps_set (i := 3) nd rfl (.inl rfl) (pe_ix ix_list (pe_ix ix_list (pv 0) pe_int (fun _ _ => rfl)) (pe_op op_sub (pe_ix ix_list (pv 0) pe_int (fun _ _ => rfl)) pe_int) (fun _ _ => rfl)))
      (pss_cons (ps_asg (pe_op op_mod (pe_callTy call_int1 (by rfl) T.int b_int (pa_cons (pe_op op_add (pe_op op_add (pe_op op_mul (pe_ix ix_list (pv 0) pe_int (fun _ _ => rfl)) pe_int) (pv 3)) pe_int) pa_nil)) pe_int) (pg_sub (pv 0) pe_int set_list))
      (pss_cons (ps_if (pt_cmpR op_ge (pv 3) (pe_op op_pow pe_int pe_int) (nomark _))
        (pss_one (ps_asg (pe_op op_fdiv (pv 3) (pv 1)) (pg_sub (pv 0) pe_int set_list))) pss_nil)
      (pss_one (ps_ret (pe_op op_mod (pe_callTy call_int1 (by rfl) T.int b_int (pa_cons (pv 3) pa_nil)) (pv 1))))))))), ?_⟩
    have mp : (0 : Int) < (m : Int) := by omega
    have modN : ∀ x : Int, ∃ v : Nat, v < m ∧ x % (m : Int) = (v : Int) := fun x => by
      have h1 := Int.emod_nonneg x (b := (m : Int)) (by omega)
      have h2 := Int.emod_lt_of_pos x mp
      exact ⟨(x % (m : Int)).toNat, by omega, by omega⟩
    have big : ∀ x : Int, 0 ≤ x % 2147483647 ∧ x % 2147483647 < 2147483647 := fun x => ⟨by omega, by omega⟩
    have wr : ∀ {xs : List V} {x : Addr} {H1 : Hp}, H1 row = some (.lst (.ref x :: xs)) → ScAt K H1 sc ns → ∀ o, ScAt K (upd H1 row o) sc ns := fun h1 h2 o => h2.put (NoFz.lst h1)
    have kp : ∀ {H1 : Hp} (o : HO), Kp row H H1 → Kp row H (upd H1 row o) := fun o h b u n e => by
      rw [upd_ne n]
      exact h b u n e
    refine ⟨_, rfl, row, _, 3, .int rest, rfl, rfl, SqL.of hrow, atI_nat (j := 3) rfl, _, _, rfl, rfl, _, rfl, ?_⟩
    show (if decide (0 < rest) = true then _ else _)
    by_cases hrest : 0 < rest
    · rw [if_pos (decide_eq_true hrest)]
      obtain ⟨v, hv, ev⟩ := modN rest
      refine ⟨_, rfl, row, _, 3, .int rest, rfl, rfl, SqL.of hrow, atI_nat (j := 3) rfl, .inl ⟨rest, rfl, _, rfl, _, _, rfl, rfl, mp, ?_⟩⟩
      refine ⟨_, rfl, row, _, 3, .int rest, rfl, rfl, SqL.of hrow, atI_nat (j := 3) rfl, _, rfl, _, _, rfl, rfl, ⟨mp, by omega⟩, ?_⟩
      refine ⟨_, rfl, row, _, 3, 3, rfl, rfl, hrow, rfl, ?_⟩
      refine ⟨_, rfl, ?_⟩
      show Q (.int (rest % (m : Int))) (upd H row _)
      rw [ev]
      exact q _ v hv (kp _ Kp.refl) ⟨sc, k, s, rest / (m : Int), upd_same, wr hrow hsc _, k0, ⟨s0, s1⟩, Int.ediv_nonneg r0 (by omega)⟩
    · rw [if_neg (by rw [decide_eq_false hrest]; exact Bool.false_ne_true)]
      -- row[1] = row[1] + 1
      refine ⟨_, rfl, row, _, 1, .int k, rfl, rfl, SqL.of hrow, atI_nat (j := 1) rfl, _, _, rfl, rfl, ?_⟩
      refine ⟨_, rfl, row, _, 1, 1, rfl, rfl, hrow, rfl, ?_⟩
      have hr1 : upd H row (.lst ([V.ref sc, .int k, .int s, .int rest].set 1 (.int (k + 1)))) row = some (.lst [.ref sc, .int (k + 1), .int s, .int rest]) := upd_same
      have hs1 := wr hrow hsc (.lst ([V.ref sc, .int k, .int s, .int rest].set 1 (.int (k + 1))))
      have kp1 : Kp row H (upd H row (.lst ([V.ref sc, .int k, .int s, .int rest].set 1 (.int (k + 1))))) := kp _ Kp.refl
      generalize upd H row (.lst ([V.ref sc, .int k, .int s, .int rest].set 1 (.int (k + 1)))) = H1 at hr1 hs1 kp1 ⊢
      refine ⟨_, rfl, row, _, 1, .int (k + 1), rfl, rfl, SqL.of hr1, atI_nat (j := 1) rfl, _, rfl, row, _, 0, .ref sc, rfl, rfl, SqL.of hr1, atI_nat (j := 0) rfl, sc, _, rfl, .inl hs1.sq, _, _, rfl, rfl, _, rfl, ?_⟩
      show (if decide (((ns.map V.int).length : Int) < k + 1) = true then _ else _)
      rw [List.length_map]
      by_cases hk : (ns.length : Int) < k + 1
      · rw [if_pos (decide_eq_true hk)]
        refine ⟨_, rfl, row, _, 2, .int s, rfl, rfl, SqL.of hr1, atI_nat (j := 2) rfl, _, _, rfl, rfl, .inr ⟨by decide, by decide⟩, _, _, rfl, rfl, .inl ⟨_, rfl, _, _, rfl, rfl, (by show (0 : Int) < 2147483647; decide), ?_⟩⟩
        refine ⟨_, rfl, row, _, 2, 2, rfl, rfl, hr1, rfl, ?_⟩
        obtain ⟨hb0, hb1⟩ := big (s * 48271 + 11)
        have hr2 : upd H1 row (.lst ([V.ref sc, .int (k + 1), .int s, .int rest].set 2 (.int ((s * 48271 + 11) % 2147483647)))) row = some (.lst [.ref sc, .int (k + 1), .int ((s * 48271 + 11) % 2147483647), .int rest]) := upd_same
        have hs2 := wr hr1 hs1 (.lst ([V.ref sc, .int (k + 1), .int s, .int rest].set 2 (.int ((s * 48271 + 11) % 2147483647))))
        have kp2 := kp (.lst ([V.ref sc, .int (k + 1), .int s, .int rest].set 2 (.int ((s * 48271 + 11) % 2147483647)))) kp1
        obtain ⟨v, hv, ev⟩ := modN ((s * 48271 + 11) % 2147483647 / 7)
        refine ⟨_, rfl, row, _, 2, .int ((s * 48271 + 11) % 2147483647), rfl, rfl, SqL.of hr2, atI_nat (j := 2) rfl, _, _, rfl, rfl, ⟨by decide, by decide⟩, .inl ⟨_, rfl, _, rfl, _, _, rfl, rfl, mp, ?_⟩⟩
        show Q (.int ((s * 48271 + 11) % 2147483647 / 7 % (m : Int))) (upd H1 row _)
        rw [ev]
        exact q _ v hv kp2 ⟨sc, k + 1, _, rest, hr2, hs2, by omega, ⟨hb0, hb1⟩, r0⟩
      · rw [if_neg (by rw [decide_eq_false hk]; exact Bool.false_ne_true)]
        obtain ⟨c, hc⟩ : ∃ c, (ns.map V.int)[k.toNat]? = some (.int c) := by
          have hl : k.toNat < ns.length := by omega
          exact ⟨ns[k.toNat], by rw [List.getElem?_map, List.getElem?_eq_getElem hl]; rfl⟩
        refine ⟨_, rfl, row, _, 0, .ref sc, rfl, rfl, SqL.of hr1, atI_nat (j := 0) rfl, _, rfl, row, _, 1, .int (k + 1), rfl, rfl, SqL.of hr1, atI_nat (j := 1) rfl, _, _, rfl, rfl, sc, _, k + 1 - 1, .int c, rfl, rfl, hs1.sq, at_of (j := k.toNat) (by omega) hc, ?_⟩
        refine ⟨_, rfl, row, _, 2, .int s, rfl, rfl, SqL.of hr1, atI_nat (j := 2) rfl, _, _, rfl, rfl, .inr ⟨by decide, by decide⟩, _, rfl, _, _, rfl, rfl, _, _, rfl, rfl, .inl ⟨_, rfl, _, _, rfl, rfl, (by show (0 : Int) < 2147483647; decide), ?_⟩⟩
        refine ⟨_, rfl, row, _, 2, 2, rfl, rfl, hr1, rfl, ?_⟩
        obtain ⟨hb0, hb1⟩ := big (s * 48271 + c + 11)
        have hr2 : upd H1 row (.lst ([V.ref sc, .int (k + 1), .int s, .int rest].set 2 (.int ((s * 48271 + c + 11) % 2147483647)))) row = some (.lst [.ref sc, .int (k + 1), .int ((s * 48271 + c + 11) % 2147483647), .int rest]) := upd_same
        have hs2 := wr hr1 hs1 (.lst ([V.ref sc, .int (k + 1), .int s, .int rest].set 2 (.int ((s * 48271 + c + 11) % 2147483647))))
        have kp2 := kp (.lst ([V.ref sc, .int (k + 1), .int s, .int rest].set 2 (.int ((s * 48271 + c + 11) % 2147483647)))) kp1
        obtain ⟨v, hv, ev⟩ := modN c
        refine ⟨_, rfl, _, _, rfl, rfl, ⟨by decide, by decide, by decide⟩, _, _, rfl, rfl, _, rfl, ?_⟩
        show (if decide ((10 : Int) ^ (18 : Nat) ≤ c) = true then _ else _)
        by_cases hcb : (10 : Int) ^ (18 : Nat) ≤ c
        · rw [if_pos (decide_eq_true hcb)]
          have c0 : 0 ≤ c := Int.le_trans (by decide) hcb
          refine ⟨_, rfl, _, rfl, _, _, rfl, rfl, ⟨mp, by omega⟩, ?_⟩
          refine ⟨_, rfl, row, _, 3, 3, rfl, rfl, hr2, rfl, ?_⟩
          refine ⟨_, rfl, .inl ⟨_, rfl, _, rfl, _, _, rfl, rfl, mp, ?_⟩⟩
          show Q (.int (c % (m : Int))) (upd _ row _)
          rw [ev]
          exact q _ v hv (kp _ kp2) ⟨sc, k + 1, _, _, upd_same, wr hr2 hs2 _, by omega, ⟨hb0, hb1⟩, Int.ediv_nonneg c0 (by omega)⟩
        · rw [if_neg (by rw [decide_eq_false hcb]; exact Bool.false_ne_true)]
          refine ⟨_, rfl, .inl ⟨_, rfl, _, rfl, _, _, rfl, rfl, mp, ?_⟩⟩
          show Q (.int (c % (m : Int))) (upd _ row _)
          rw [ev]
          exact q _ v hv kp2 ⟨sc, k + 1, _, rest, hr2, hs2, by omega, ⟨hb0, hb1⟩, r0⟩
end
end W35P
end

section
set_option maxRecDepth 100000
set_option maxHeartbeats 8000000
/-! _law_is, _law_sides, _law_alike -/
namespace W35P
open PySem PySem.Spec PyProof.Rows L2 W35 W35R
section
variable {P : Program} {w : World} {K : PySem.W.Frag} {mg : Str → Option Value} {base : Heap}
abbrev sLis : Stmt := topS 35
theorem scLis : FnScope ["_law_found", "_law_due"] ["_law_found", "_law_due"] (defScope sLis) := ⟨rfl, rfl, rfl, by decide +kernel, rfl, by decide +kernel, by decide +kernel⟩
def spLis : Sp := fun vs H Q _ => ∃ a b : Bool, vs = [.bl a, .bl b] ∧ Q (.bl (decide (a = b))) H
theorem cb_lis (D : Df K mg "_law_is" sLis ["_law_found", "_law_due"]) (T : Gb mg) : Cb P w K mg base 1 "_law_is" spLis := by
  refine D.ok scLis (fun vs H Q E h => ?_) (fun f cdv A outer s H vs Q E hr h => ?_)
  · obtain ⟨a, b, rfl, _⟩ := h
    rfl
  · obtain ⟨a, b, rfl, q⟩ := h
    refine ⟨_, pss_one (ps_ret (pe_and (pe_isi T (pv 0) T.bool b_bool) (pe_one (pe_cmpR op_eq (pv 0) (pv 1) (nomark _))))), ?_⟩
    refine ⟨_, rfl, _, _, _, _, rfl, ty_bl, k_bb, _, rfl, iteT ⟨_, rfl, _, rfl, rfl, ?_⟩⟩
    have e : decide (V.bl a = V.bl b) = decide (a = b) := decide_eq_decide.mpr ⟨fun z => V.bl.inj z, fun z => congrArg V.bl z⟩
    show Q (.bl (decide (V.bl a = V.bl b))) H
    rw [e]
    exact q

abbrev sLsides : Stmt := topS 37
theorem scLsides : FnScope ["_law_shut"] ["_law_shut"] (defScope sLsides) := ⟨rfl, rfl, rfl, by decide +kernel, rfl, by decide +kernel, by decide +kernel⟩
def spLsides : Sp := fun vs H Q _ => ∃ (a : Addr) (x : Wl), vs = [.ref a] ∧ H a = some (.tup [.int x.lo, .int x.hi, .int x.sd]) ∧ x.sd ≤ 2 ∧
  ∀ (H' : Hp) (p : Addr), Same H H' → TupAt H' p x.sides → Q (.ref p) H'
theorem cb_lsides (D : Df K mg "_law_sides" sLsides ["_law_shut"]) : Cb P w K mg base 1 "_law_sides" spLsides := by
  refine D.ok scLsides (fun vs H Q E h => ?_) (fun f cdv A outer s H vs Q E hr h => ?_)
  · obtain ⟨a, x, rfl, _⟩ := h
    rfl
  · obtain ⟨a, x, rfl, ha, hx, q⟩ := h
    refine ⟨_, pss_one (ps_ret (pe_ix ix_list (pe_lst (pa_cons (pe_slice sl_tupB (pv 0) po_none (po_some pe_int)) (pa_cons (pe_slice sl_tupB (pv 0) (po_some pe_int) (po_some pe_int)) (pa_cons (pe_slice sl_tupB (pv 0) po_none (po_some pe_int)) pa_nil)))) (pe_ix ix_tup (pv 0) pe_int (fun _ _ => rfl)) (fun _ _ => rfl))), ?_⟩
    refine ⟨_, rfl, 1, rfl, a, _, rfl, ha, fun H1 p1 S1 hp1 => ?_⟩
    refine ⟨_, rfl, 1, rfl, 2, rfl, a, _, rfl, S1 _ _ ha, fun H2 p2 S2 hp2 => ?_⟩
    refine ⟨_, rfl, 2, rfl, a, _, rfl, (S1.trans S2) _ _ ha, fun H3 p3 S3 hp3 => ⟨by show 3 ≤ sizeLine; decide, fun l nl => ?_⟩⟩
    have sl := same_upd (o := .lst [.ref p1, .ref p2, .ref p3]) nl
    have S := ((S1.trans S2).trans S3).trans sl
    have e1 := ((S2.trans S3).trans sl) _ _ hp1
    have e2 := (S3.trans sl) _ _ hp2
    have e3 := sl _ _ hp3
    refine ⟨_, rfl, a, _, 2, .int x.sd, rfl, rfl, SqT.of (S _ _ ha), atI_nat (j := 2) rfl, ?_⟩
    have h3 : x.sd = 0 ∨ x.sd = 1 ∨ x.sd = 2 := by omega
    rcases h3 with h | h | h
    · refine ⟨l, _, _, .ref p1, rfl, rfl, SqL.of upd_same, at_of (j := 0) (by rw [h]) rfl, q _ p1 S ?_⟩
      rw [Wl.sides, if_pos h]
      exact e1
    · refine ⟨l, _, _, .ref p2, rfl, rfl, SqL.of upd_same, at_of (j := 1) (by rw [h]) rfl, q _ p2 S ?_⟩
      rw [Wl.sides, if_neg (by omega), if_pos h]
      exact e2
    · refine ⟨l, _, _, .ref p3, rfl, rfl, SqL.of upd_same, at_of (j := 2) (by rw [h]) rfl, q _ p3 S ?_⟩
      rw [Wl.sides, if_neg (by omega), if_neg (by omega)]
      exact e3

/-! ### _law_alike: of two numbers, then of two lists of two numbers -/
theorem tl_paired : Paired ClsV [V.ty "tuple", V.ty "list"] [Value.type "tuple", Value.type "list"] := .cons (.ty _) (.cons (.ty _) .nil)
theorem tl_int {K : PySem.W.Frag} : PySem.W.kitAny K (.type "int") [Value.type "tuple", Value.type "list"] = some false := kitAny_cons (kit_ty k_it) (fun _ => kitAny_cons (kit_ty k_il) (fun _ => kitAny_nil) fun z => by cases z) fun z => by cases z
theorem tl_list {K : PySem.W.Frag} : PySem.W.kitAny K (.type "list") [Value.type "tuple", Value.type "list"] = some true := kitAny_cons (kit_ty k_lt) (fun _ => kitAny_cons (kit_ty k_ll) (fun z => by cases z) fun _ => rfl) fun z => by cases z
abbrev sAlike : Stmt := topS 34
def body0 (s : Stmt) : List Stmt := match s with
  | .If _ b _ _ => b
  | _ => []
abbrev lcAl : Expr := match (retE ((body0 (bodyAt sAlike 0)).getD 2 (.Pass ⟨0, 0, 0, 0⟩))) with
  | .Compare l _ _ _ => l
  | e => e
theorem scAlike : FnScope ["_law_found", "_law_due", "_law_k"] ["_law_found", "_law_due"] (defScope sAlike) := ⟨rfl, rfl, rfl, by decide +kernel, rfl, by decide +kernel, by decide +kernel⟩
theorem blAl : BlkOk ["_law_found", "_law_due", "_law_k"] (defScope sAlike) (lcS lcAl) [("_law_k", 2)] := blkOk_by (by decide +kernel)
def spAlikeI : Sp := fun vs H Q _ => ∃ i j : Int, vs = [.int i, .int j] ∧ ∀ H', Same H H' → Q (.bl (decide (i = j))) H'
theorem cb_alikeI (D : Df K mg "_law_alike" sAlike ["_law_found", "_law_due"]) (T : Gb mg) : Cb P w K mg base 1 "_law_alike" spAlikeI := by
  refine D.ok scAlike (fun vs H Q E h => ?_) (fun f cdv A outer s H vs Q E hr h => ?_)
  · obtain ⟨a, b, rfl, _⟩ := h
    rfl
  · obtain ⟨a, b, rfl, q⟩ := h
    refine ⟨_, pss_cons (ps_if (pt_val (pe_callB call_isiT (by rfl) T.isi b_isi (pa_cons (pv 1) (pa_cons (pe_tup (pa_cons (pe_ty T.tuple b_tuple) (pa_cons (pe_ty T.list b_list) pa_nil))) pa_nil)))) pss_never pss_nil)
      (pss_cons (ps_if (PW.pt (pw_or (pt_cmpR op_isN (pv 1) pe_non (nomark _)) (pw_or1 (pt_val (pe_isi T (pv 1) T.str b_str))))) pss_never pss_nil)
      (pss_one (ps_ret (pe_and (pe_isi T (pv 0) T.int b_int) (pe_and (pe_cmpR op_eq (pe_isi T (pv 0) T.bool b_bool) (pe_isi T (pv 1) T.bool b_bool) (nomark _)) (pe_one (pe_cmpR op_eq (pv 0) (pv 1) (nomark _)))))))), ?_⟩
    refine ⟨_, rfl, by show 2 ≤ sizeLine; decide, fun p np => ?_⟩
    refine ⟨_, p, _, _, _, _, rfl, upd_same, tl_paired, ty_int, tl_int, _, rfl, iteF ?_⟩
    refine ⟨_, rfl, rfl, _, rfl, ?_⟩
    refine iteF ⟨_, rfl, _, _, _, _, rfl, ty_int, k_is_, _, rfl, iteF ?_⟩
    refine ⟨_, rfl, _, _, _, _, rfl, ty_int, k_ii, _, rfl, iteT ?_⟩
    refine ⟨_, rfl, _, _, _, _, rfl, ty_int, k_ib, _, rfl, _, _, _, _, rfl, ty_int, k_ib, rfl, _, rfl, iteT ?_⟩
    refine ⟨_, rfl, _, rfl, rfl, ?_⟩
    have e : decide (V.int a = V.int b) = decide (a = b) := decide_eq_decide.mpr ⟨fun z => V.int.inj z, fun z => congrArg V.int z⟩
    show Q (.bl (decide (V.int a = V.int b))) _
    rw [e]
    exact q _ (same_upd np)
def spAlikeL : Sp := fun vs H Q _ => ∃ (a b : Addr) (i0 i1 j0 j1 : Int), vs = [.ref a, .ref b] ∧ H a = some (.lst [.int i0, .int i1]) ∧ H b = some (.lst [.int j0, .int j1]) ∧ ∀ H', Same H H' → Q (.bl (decide (i0 = j0 ∧ i1 = j1))) H'
theorem cb_alikeL (D : Df K mg "_law_alike" sAlike ["_law_found", "_law_due"]) (T : Gb mg) (c1 : Cb P w K mg base 1 "_law_alike" spAlikeI) : Cb P w K mg base 2 "_law_alike" spAlikeL := by
  refine D.ok scAlike (fun vs H Q E h => ?_) (fun f cdv A outer s H vs Q E hr h => ?_)
  · obtain ⟨a, b, i0, i1, j0, j1, rfl, _⟩ := h
    rfl
  · obtain ⟨a, b, i0, i1, j0, j1, rfl, ha, hb, q⟩ := h
    have nd := scAlike.nd
    refine ⟨_, pss_cons (ps_if (pt_val (pe_callB call_isiT (by rfl) T.isi b_isi (pa_cons (pv 1) (pa_cons (pe_tup (pa_cons (pe_ty T.tuple b_tuple) (pa_cons (pe_ty T.list b_list) pa_nil))) pa_nil))))
      (pss_cons (ps_if (PW.pt (pw_or (pt_not (pt_val (pe_callB call_isiT (by rfl) T.isi b_isi (pa_cons (pv 0) (pa_cons (pe_tup (pa_cons (pe_ty T.tuple b_tuple) (pa_cons (pe_ty T.list b_list) pa_nil))) pa_nil)))))
          (pw_or1 (pt_cmpR op_ne (pe_isi T (pv 0) T.list b_list) (pe_isi T (pv 1) T.list b_list) (nomark _))))) pss_never pss_nil)
      (pss_cons (ps_if (pt_cmpR op_ne (pe_callB call_len_seq (by rfl) T.len b_len (pa_cons (pv 0) pa_nil)) (pe_callB call_len_seq (by rfl) T.len b_len (pa_cons (pv 1) pa_nil)) (nomark _)) pss_never pss_nil)
      (pss_one (ps_ret (pe_cmpR (op_eq0 hr.units) (pe_lc (own := [("_law_k", 2)]) (g := gName 2) rfl nd (pi_range1 (by rfl) T.range (pa_cons (pe_callB call_len_seq (by rfl) T.len b_len (pa_cons (pv 1) pa_nil)) pa_nil)) blAl
          (fun _ _ _ _ _ => pg_name (i := 2) nd rfl (Or.inl rfl))
          (fun _ _ _ _ _ => pts_one (pt_not (pt_val (pe_cb c1 hr (pa_cons (pe_ix (ixLK K) (pv 0) (pv 2) (fun _ _ => rfl)) (pa_cons (pe_ix (ixLK K) (pv 1) (pv 2) (fun _ _ => rfl)) pa_nil)))))) (fun _ _ _ _ _ => pv 2)) (pe_lst pa_nil) (nomark _)))))) pss_nil)
      pss_never, ?_⟩
    refine ⟨_, rfl, by show 2 ≤ sizeLine; decide, fun p np => ?_⟩
    have u1 := same_upd (o := .tup [V.ty "tuple", V.ty "list"]) np
    refine ⟨_, p, _, _, _, _, rfl, upd_same, tl_paired, ty_lst (u1 _ _ hb), tl_list, _, rfl, iteT ?_⟩
    refine ⟨_, rfl, by show 2 ≤ sizeLine; decide, fun p2 np2 => ?_⟩
    have S2 := u1.trans (same_upd (o := .tup [V.ty "tuple", V.ty "list"]) np2)
    refine ⟨_, p2, _, _, _, _, rfl, upd_same, tl_paired, ty_lst (S2 _ _ ha), tl_list, _, rfl, iteF ?_⟩
    refine ⟨_, rfl, _, _, _, _, rfl, ty_lst (S2 _ _ ha), k_ll, _, rfl, _, _, _, _, rfl, ty_lst (S2 _ _ hb), k_ll, rfl, _, rfl, iteF ?_⟩
    refine ⟨_, rfl, a, _, rfl, .inl (SqL.of (S2 _ _ ha)), _, rfl, b, _, rfl, .inl (SqL.of (S2 _ _ hb)), rfl, _, rfl, iteF ?_⟩
    refine ⟨_, rfl, b, _, rfl, .inl (SqL.of (S2 _ _ hb)), 2, rfl, by omega, by omega, fun D nD => ?_⟩
    have en : ((2 : Int)).toNat = 2 := rfl
    show ∃ W : Nat → Nat → Hp → Prop, _
    refine lc_range (lo := 0) (n := 2) (fun i H3 => Same H H3 ∧ LstAt H3 D ((List.range i).filter fun i => !decide ((i = 0 → i0 = j0) ∧ (i = 1 → i1 = j1)))) ⟨S2.trans (same_upd nD), upd_same⟩ ?_ ?_
    · rintro i H3 hi ⟨S3, hD⟩
      obtain ⟨u, v, hu, hv, huv⟩ : ∃ u v : Int, [V.int i0, V.int i1][i]? = some (.int u) ∧ [V.int j0, V.int j1][i]? = some (.int v) ∧ (u = v ↔ ((i = 0 → i0 = j0) ∧ (i = 1 → i1 = j1))) := by
        rcases (show i = 0 ∨ i = 1 by omega) with rfl | rfl
        · exact ⟨i0, j0, rfl, rfl, by simp⟩
        · exact ⟨i1, j1, rfl, rfl, by simp⟩
      have ei : (0 : Int) + (i : Int) = (i : Int) := Int.zero_add _
      refine ⟨rfl, _, rfl, _, rfl, a, _, (0 : Int) + i, .int u, rfl, rfl, SqL.of (S3 _ _ ha), by rw [ei]; exact atI_nat hu, _, rfl, _, rfl, b, _, (0 : Int) + i, .int v, rfl, rfl, SqL.of (S3 _ _ hb), by rw [ei]; exact atI_nat hv, u, v, rfl, fun H4 S4 => ⟨_, rfl, ?_⟩⟩
      show (if (!decide (u = v)) = true then _ else _)
      have hD4 := S4 _ _ hD
      by_cases huv' : u = v
      · rw [if_neg (by simp [huv'])]
        refine ⟨S3.trans S4, ?_⟩
        show H4 D = _
        rw [hD4, List.range_succ, List.filter_append, List.filter_cons, if_neg (fun z => by
          have z' : (!decide ((i = 0 → i0 = j0) ∧ (i = 1 → i1 = j1))) = true := z
          rw [decide_eq_true (huv.mp huv')] at z'
          cases z'), List.filter_nil, List.append_nil]
      · rw [if_pos (by simp [huv'])]
        refine ⟨_, rfl, _, hD4, small9 ?_, samePut (S3.trans S4) (S2.free nD), ?_⟩
        · rw [iv_len]
          refine Nat.le_trans (List.length_filter_le _ _) ?_
          rw [List.length_range]
          omega
        · show upd H4 D _ D = _
          rw [ei, app_iv, List.range_succ, List.filter_append, List.filter_cons, if_pos (by
            rw [Bool.not_eq_true', decide_eq_false_iff_not]
            exact fun z => huv' (huv.mpr z)), List.filter_nil]
          exact upd_same
    · rintro H3 ⟨S3, hD⟩
      refine ⟨by show 0 ≤ sizeLine; decide, fun e0 ne0 => ?_⟩
      have se := same_upd (o := .lst []) ne0
      refine ⟨D, e0, _, rfl, rfl, SqL.of (se _ _ hD), SqL.of upd_same, (fun z hz => by
        obtain ⟨n, _, rfl⟩ := List.mem_map.mp hz
        exact .inl ⟨_, rfl⟩), ?_⟩
      have e : (iv ((List.range 2).filter fun i => !decide ((i = 0 → i0 = j0) ∧ (i = 1 → i1 = j1)))).isEmpty = decide (i0 = j0 ∧ i1 = j1) := by
        have er : List.range 2 = [0, 1] := rfl
        rw [er]
        by_cases h0 : i0 = j0 <;> by_cases h1 : i1 = j1 <;> simp [List.filter_cons, h0, h1]
      rw [e]
      exact q _ (S3.trans se)
end
end W35P
end

section
set_option maxRecDepth 100000
set_option maxHeartbeats 16000000
/-! _law_yard -/
namespace W35P
open PySem PySem.Spec PyProof.Rows L2 W35 W35R
def WallAt (H : Hp) (a : Addr) (w : Wl) : Prop := H a = some (.tup [.int w.lo, .int w.hi, .int w.sd])
def WallsAt (H : Hp) (fa : Addr) (ws : List Wl) : Prop := ∃ as : List Addr, H fa = some (.lst (as.map V.ref)) ∧ Prs (WallAt H) as ws
theorem WallAt.kp {H H' : Hp} {row a : Addr} {xs : List V} {w : Wl} (k : Kp row H H') (hr : H row = some (.lst xs)) (h : WallAt H a w) : WallAt H' a w := by
  refine k a _ (fun e => ?_) h
  have h' : H a = some (.tup [.int w.lo, .int w.hi, .int w.sd]) := h
  rw [e, hr] at h'
  cases h'
theorem WallsAt.kp {H H' : Hp} {row fa : Addr} {xs : List V} {ws : List Wl} (k : Kp row H H') (hr : H row = some (.lst xs)) (n : fa ≠ row) (h : WallsAt H fa ws) : WallsAt H' fa ws := by
  obtain ⟨as, h1, h2⟩ := h
  exact ⟨as, k _ _ n h1, h2.imp fun a b e => WallAt.kp k hr e⟩
theorem WallsAt.app {H : Hp} {fa p : Addr} {as : List Addr} {ws : List Wl} {w : Wl} (h1 : H fa = some (.lst (as.map V.ref))) (h2 : Prs (WallAt H) as ws) (np : H p = none) :
    WallsAt (upd (upd H p (.tup [.int w.lo, .int w.hi, .int w.sd])) fa (.lst (as.map V.ref ++ [.ref p]))) fa (ws ++ [w]) := by
  have pn : p ≠ fa := fun e => by
    rw [e, h1] at np
    cases np
  refine ⟨as ++ [p], ?_, Prs.snoc (h2.imp fun a b e => ?_) ?_⟩
  · rw [List.map_append]
    exact upd_same
  · have e' : H a = some (.tup [.int b.lo, .int b.hi, .int b.sd]) := e
    have an : a ≠ fa := fun z => by
      rw [z, h1] at e'
      cases e'
    show upd _ fa _ a = _
    rw [upd_ne an]
    exact same_upd np _ _ e'
  · show upd _ fa _ p = _
    rw [upd_ne pn]
    exact upd_same
def WOk (many : Nat) (w : Wl) : Prop := w.lo < w.hi ∧ w.hi < many ∧ w.sd ≤ 2
theorem app_step {K : PySem.W.Frag} {H Hz : Hp} {row fa p : Addr} {ns : List Int} {many : Nat} {as : List Addr} {ws : List Wl} (nfr : fa ≠ row) (nfaH : H fa = none) (k : Kp row H Hz) (R : RowAt K Hz ns row) (h1 : Hz fa = some (.lst (as.map V.ref))) (h2 : Prs (WallAt Hz) as ws)
    (ok : ∀ x, x ∈ ws → WOk many x) (l : ws.length < 6) (np : Hz p = none) (x : Wl) (wx : WOk many x) :
    Kp row H (upd (upd Hz p (.tup [.int x.lo, .int x.hi, .int x.sd])) fa (.lst (as.map V.ref ++ [.ref p]))) ∧ RowAt K (upd (upd Hz p (.tup [.int x.lo, .int x.hi, .int x.sd])) fa (.lst (as.map V.ref ++ [.ref p]))) ns row ∧
      WallsAt (upd (upd Hz p (.tup [.int x.lo, .int x.hi, .int x.sd])) fa (.lst (as.map V.ref ++ [.ref p]))) fa (ws ++ [x]) ∧ (∀ z, z ∈ ws ++ [x] → WOk many z) ∧ (ws ++ [x]).length ≤ 6 := by
  have u := same_upd (o := .tup [.int (x.lo : Int), .int (x.hi : Int), .int (x.sd : Int)]) np
  refine ⟨fun b o n e => ?_, (R.same u).put (fun z => nfr z.symm) (NoFz.lst (u _ _ h1)), WallsAt.app h1 h2 np, fun z hz => ?_, ?_⟩
  · have nb : b ≠ fa := fun z => by
      rw [z, nfaH] at e
      cases e
    rw [upd_ne nb]
    exact u _ _ (k b o n e)
  · rcases List.mem_append.mp hz with h | h
    · exact ok z h
    · rw [List.mem_singleton.mp h]
      exact wx
  · rw [List.length_append]
    exact l
section
variable {P : Program} {w : World} {K : PySem.W.Frag} {mg : Str → Option Value} {base : Heap}
abbrev sLyard : Stmt := topS 36
theorem scLyard : FnScope ["_law_row", "_law_rooms", "_law_shuts", "_law_either", "_law_many", "_law_found", "_law_room", "_law_low", "_law_turn", "_law_high"] ["_law_row", "_law_rooms", "_law_shuts", "_law_either"] (defScope sLyard) := ⟨rfl, rfl, rfl, by decide +kernel, rfl, by decide +kernel, by decide +kernel⟩
def spLyard (K : PySem.W.Frag) : Sp := fun vs H Q _ => ∃ (row : Addr) (ns : List Int), vs = [.ref row, .int 5, .int 6, .int 1] ∧ RowAt K H ns row ∧
  ∀ (H' : Hp) (y : Addr) (many : Nat) (ws : List Wl), Kp row H H' → RowAt K H' ns row → YardAt H' y many ws → YOk many ws → Q (.ref y) H'
theorem cb_lyard (D : Df K mg "_law_yard" sLyard ["_law_row", "_law_rooms", "_law_shuts", "_law_either"]) (T : Gb mg) (c1 : Cb P w K mg base 1 "_law_taken" (spTaken K)) : Cb P w K mg base 2 "_law_yard" (spLyard K) := by
  refine D.ok scLyard (fun vs H Q E h => ?_) (fun f cdv A outer s H vs Q E hr h => ?_)
  · obtain ⟨row, ns, rfl, _⟩ := h
    rfl
  · obtain ⟨row, ns, rfl, hR, q⟩ := h
    have nd := scLyard.nd
    refine ⟨_, pss_cons (ps_set (i := 4) nd rfl (.inl rfl) (pe_op op_add pe_int (pe_cb c1 hr (pa_cons (pv 0) (pa_cons (pv 1) pa_nil)))))
      (pss_cons (ps_if (pt_cmpR op_eq (pv 4) pe_int (nomark _)) (pss_one (ps_ret (pe_tup (pa_cons pe_int (pa_cons (pe_tup pa_nil) pa_nil))))) pss_nil)
      (pss_cons (ps_set (i := 5) nd rfl (.inl rfl) (pe_lst pa_nil))
      (pss_cons (ps_for PassesOwn.never rfl (pi_range2 (by rfl) T.range (pa_cons pe_int (pa_cons (pv 4) pa_nil))) (pg_name (i := 6) nd rfl (.inl rfl))
        (pss_one (ps_if (PW.pt (pw_and (pt_cmpR op_lt (pe_callB call_len_seq (by rfl) T.len b_len (pa_cons (pv 5) pa_nil)) (pv 2) (nomark _)) (pw_and1 (pt_cmpR op_gt (pe_cb c1 hr (pa_cons (pv 0) (pa_cons pe_int pa_nil))) pe_int (nomark _)))))
          (pss_cons (ps_set (i := 7) nd rfl (.inl rfl) (pe_cb c1 hr (pa_cons (pv 0) (pa_cons (pv 6) pa_nil))))
          (pss_one (ps_expr (pe_bm PySem.F.plainAttrs_list PySem.F.slot_list_append PySem.F.type_list_append mt_append (pv 5) (pa_cons (pe_tup (pa_cons (pv 7) (pa_cons (pv 6) (pa_cons
            (pe_ifExp (pt_cmpR op_gt (pe_cb c1 hr (pa_cons (pv 0) (pa_cons pe_int pa_nil))) pe_int (nomark _)) pe_int (pe_cb c1 hr (pa_cons (pv 0) (pa_cons (pe_op op_add pe_int (pv 3)) pa_nil)))) pa_nil)))) pa_nil))))) pss_nil)))
      (pss_cons (ps_for PassesOwn.never rfl (pi_range1 (by rfl) T.range (pa_cons (pe_cb c1 hr (pa_cons (pv 0) (pa_cons (pe_op op_add (pe_op op_sub (pv 2) (pe_callB call_len_seq (by rfl) T.len b_len (pa_cons (pv 5) pa_nil))) pe_int) pa_nil))) pa_nil)) (pg_name (i := 8) nd rfl (.inl rfl))
        (pss_cons (ps_set (i := 7) nd rfl (.inl rfl) (pe_cb c1 hr (pa_cons (pv 0) (pa_cons (pe_op op_sub (pv 4) pe_int) pa_nil))))
        (pss_cons (ps_set (i := 9) nd rfl (.inl rfl) (pe_op op_add (pe_op op_add (pv 7) pe_int) (pe_cb c1 hr (pa_cons (pv 0) (pa_cons (pe_op op_sub (pe_op op_sub (pv 4) pe_int) (pv 7)) pa_nil)))))
        (pss_one (ps_expr (pe_bm PySem.F.plainAttrs_list PySem.F.slot_list_append PySem.F.type_list_append mt_append (pv 5) (pa_cons (pe_tup (pa_cons (pv 7) (pa_cons (pv 9) (pa_cons (pe_cb c1 hr (pa_cons (pv 0) (pa_cons (pe_op op_add pe_int (pv 3)) pa_nil))) pa_nil)))) pa_nil)))))))
      (pss_one (ps_ret (pe_tup (pa_cons (pv 4) (pa_cons (pe_tupleOf (by rfl) T.tuple (pv 5)) pa_nil))))))))), ?_⟩
    refine ⟨_, rfl, _, rfl, row, 5, ns, rfl, by omega, by omega, hR, fun H1 v hv K1 R1 => ⟨_, _, rfl, rfl, ?_⟩⟩
    obtain ⟨many, hm, m1, m5⟩ : ∃ many : Nat, (1 + (v : Int)) = (many : Int) ∧ 1 ≤ many ∧ many ≤ 5 := ⟨v + 1, by omega, by omega, by omega⟩
    dsimp only
    rw [hm]
    refine ⟨_, rfl, rfl, _, rfl, ?_⟩
    have e1 : decide (V.int (many : Int) = V.int 1) = decide (many = 1) := decide_eq_decide.mpr ⟨fun z => by have := V.int.inj z; omega, fun z => congrArg V.int (by omega)⟩
    show (if decide (V.int (many : Int) = V.int 1) = true then _ else _)
    rw [e1]
    by_cases v0 : many = 1
    · rw [if_pos (decide_eq_true v0)]
      refine ⟨by show 0 ≤ sizeLine; decide, fun p1 np1 => ⟨by show 2 ≤ sizeLine; decide, fun p2 np2 => ?_⟩⟩
      have u1 := same_upd (o := .tup []) np1
      have u2 := same_upd (o := .tup [.int 1, .ref p1]) np2
      have U := u1.trans u2
      refine q _ p2 1 [] (K1.trans (Kp.of U)) (R1.same U) ⟨p1, [], upd_same, u2 _ _ upd_same, rfl, fun i w e => by simp at e⟩ ⟨by omega, by omega, by show 0 ≤ 6; omega, fun w hw => by cases hw⟩
    · rw [if_neg (by rw [decide_eq_false v0]; exact Bool.false_ne_true)]
      have m2 : 2 ≤ many := by omega
      refine ⟨by show 0 ≤ sizeLine; decide, fun fa nfa => ?_⟩
      have sF := same_upd (o := .lst []) nfa
      have nfr : fa ≠ row := fun z => by
        obtain ⟨xs, e⟩ := R1.lst
        rw [z, e] at nfa
        cases nfa
      have nfaH : H fa = none := by
        cases e : H fa with
        | none => rfl
        | some o => rw [K1 _ _ nfr e] at nfa; cases nfa
      have R2 := R1.same sF
      have K2 : Kp row H (upd H1 fa (.lst [])) := K1.trans (Kp.of sF)
      refine ⟨_, rfl, 1, many, rfl, ⟨by omega, by omega, by omega, by omega⟩, ?_⟩
      have en : ((many : Int) - 1).toNat = many - 1 := by omega
      show ∃ W : Nat → Nat → L2.St → Hp → Prop, _
      rw [en]
      refine for_range (lo := 1) (n := many - 1) (fun i σ H3 => ∃ (ws : List Wl) (a6 a7 a8 a9 : Option V), σ = [some (.ref row), some (.int 5), some (.int 6), some (.int 1), some (.int many), some (.ref fa), a6, a7, a8, a9] ∧ Kp row H H3 ∧ RowAt K H3 ns row ∧ WallsAt H3 fa ws ∧ (∀ x, x ∈ ws → WOk many x) ∧ ws.length ≤ 6)
        ⟨[], _, _, _, _, rfl, K2, R2, ⟨[], upd_same, Prs.nil⟩, (fun x hx => by cases hx), by show 0 ≤ 6; omega⟩ ?_ ?_
      · rintro i σ H3 hi ⟨ws, a6, a7, a8, a9, rfl, K3, R3, W3, ok3, l3⟩
        obtain ⟨as, hfa, pas⟩ := id W3
        have el : as.length = ws.length := pas.1
        -- len(found) < shuts
        refine ⟨_, rfl, fa, _, rfl, .inl (SqL.of hfa), _, rfl, _, _, rfl, rfl, _, rfl, ?_⟩
        show (if decide (((as.map V.ref).length : Int) < 6) = true then _ else _)
        rw [List.length_map, el]
        by_cases hl : (ws.length : Int) < 6
        · rw [if_pos (decide_eq_true hl)]
          refine ⟨_, rfl, row, 8, ns, rfl, by omega, by omega, R3, fun H4 v4 hv4 K4 R4 => ⟨_, _, rfl, rfl, _, rfl, ?_⟩⟩
          show (if decide ((0 : Int) < (v4 : Int)) = true then _ else _)
          obtain ⟨xs3, hrow3⟩ := R3.lst
          have W4 := W3.kp K4 hrow3 nfr
          by_cases h4 : (0 : Int) < (v4 : Int)
          · rw [if_pos (decide_eq_true h4)]
            refine ⟨_, rfl, _, rfl, row, 1 + i, ns, ?_, by omega, by omega, R4, fun H5 lo hlo K5 R5 => ?_⟩
            · rw [show ((1 + i : Nat) : Int) = 1 + (i : Int) by omega]
              rfl
            obtain ⟨xs4, hrow4⟩ := R4.lst
            have W5 := W4.kp K5 hrow4 nfr
            obtain ⟨as5, hfa5, pas5⟩ := id W5
            refine ⟨_, rfl, .inl ⟨rfl, _, SqL.of hfa5⟩, _, rfl, _, rfl, _, rfl, row, 4, ns, rfl, by omega, by omega, R5, fun H6 v6 hv6 K6 R6 => ⟨_, _, rfl, rfl, _, rfl, ?_⟩⟩
            obtain ⟨xs5, hrow5⟩ := R5.lst
            have W6 := W5.kp K6 hrow5 nfr
            have K36 := ((K3.trans K4).trans K5).trans K6
            show (if decide ((0 : Int) < (v6 : Int)) = true then _ else _)
            by_cases h6 : (0 : Int) < (v6 : Int)
            · rw [if_pos (decide_eq_true h6)]
              obtain ⟨as6, hfa6, pas6⟩ := id W6
              refine ⟨by show 3 ≤ sizeLine; decide, fun p np => ⟨fa, _, _, rfl, rfl, same_upd np _ _ hfa6, ?_, ?_⟩⟩
              · rw [List.length_map, pas6.1]
                exact small9 (by omega)
              · refine ⟨ws ++ [⟨lo, 1 + i, 0⟩], _, _, _, _, rfl, ?_⟩
                have := app_step nfr nfaH K36 R6 hfa6 pas6 ok3 (by omega) np ⟨lo, 1 + i, 0⟩ ⟨by show lo < 1 + i; omega, by show 1 + i < many; omega, by show 0 ≤ 2; omega⟩
                have ec : (((1 + i : Nat)) : Int) = 1 + (i : Int) := by omega
                rw [ec] at this
                exact this
            · rw [if_neg (by rw [decide_eq_false h6]; exact Bool.false_ne_true)]
              refine ⟨_, rfl, _, rfl, _, _, rfl, rfl, row, 3, ns, rfl, by omega, by omega, R6, fun H7 sd hsd K7 R7 => ?_⟩
              obtain ⟨xs6, hrow6⟩ := R6.lst
              obtain ⟨as7, hfa7, pas7⟩ := W6.kp K7 hrow6 nfr
              refine ⟨by show 3 ≤ sizeLine; decide, fun p np => ⟨fa, _, _, rfl, rfl, same_upd np _ _ hfa7, ?_, ?_⟩⟩
              · rw [List.length_map, pas7.1]
                exact small9 (by omega)
              · refine ⟨ws ++ [⟨lo, 1 + i, sd⟩], _, _, _, _, rfl, ?_⟩
                have := app_step nfr nfaH (K36.trans K7) R7 hfa7 pas7 ok3 (by omega) np ⟨lo, 1 + i, sd⟩ ⟨by show lo < 1 + i; omega, by show 1 + i < many; omega, by show sd ≤ 2; omega⟩
                have ec : (((1 + i : Nat)) : Int) = 1 + (i : Int) := by omega
                rw [ec] at this
                exact this
          · rw [if_neg (by rw [decide_eq_false h4]; exact Bool.false_ne_true)]
            exact ⟨ws, _, _, _, _, rfl, K3.trans K4, R4, W4, ok3, l3⟩
        · rw [if_neg (by rw [decide_eq_false hl]; exact Bool.false_ne_true)]
          refine iteF ?_
          exact ⟨ws, _, _, _, _, rfl, K3, R3, W3, ok3, l3⟩
      · rintro σ H3 ⟨ws, a6, a7, a8, a9, rfl, K3, R3, W3, ok3, l3⟩
        obtain ⟨as, hfa, pas⟩ := id W3
        have el : as.length = ws.length := pas.1
        refine ⟨_, rfl, _, rfl, _, rfl, fa, _, rfl, .inl (SqL.of hfa), _, _, rfl, rfl, _, _, rfl, rfl, ?_⟩
        refine ⟨row, 6 - ws.length + 1, ns, ?_, by omega, by omega, R3, fun H4 tn htn K4 R4 => ⟨(tn : Int), rfl, by omega, by omega, ?_⟩⟩
        · rw [List.length_map, el]
          have ec : ((6 : Int) - (ws.length : Int) + 1) = ((6 - ws.length + 1 : Nat) : Int) := by omega
          show [V.ref row, V.int ((6 : Int) - (ws.length : Int) + 1)] = _
          rw [ec]
        obtain ⟨xs3, hrow3⟩ := R3.lst
        have W4 := W3.kp K4 hrow3 nfr
        have et : ((tn : Int)).toNat = tn := Int.toNat_natCast tn
        show ∃ W : Nat → Nat → L2.St → Hp → Prop, _
        rw [et]
        refine for_range (lo := 0) (n := tn) (fun i σ H5 => ∃ (ws' : List Wl) (a6 a7 a8 a9 : Option V), σ = [some (.ref row), some (.int 5), some (.int 6), some (.int 1), some (.int many), some (.ref fa), a6, a7, a8, a9] ∧ Kp row H H5 ∧ RowAt K H5 ns row ∧ WallsAt H5 fa ws' ∧ (∀ x, x ∈ ws' → WOk many x) ∧ ws'.length = ws.length + i)
          ⟨ws, _, _, _, _, rfl, K3.trans K4, R4, W4, ok3, rfl⟩ ?_ ?_
        · rintro i σ H5 hi ⟨ws', a6, a7, a8, a9, rfl, K5, R5, W5, ok5, l5⟩
          refine ⟨_, rfl, _, rfl, _, _, rfl, rfl, row, many - 1, ns, ?_, by omega, by omega, R5, fun H6 lo hlo K6 R6 => ?_⟩
          · have ec : ((many : Int) - 1) = ((many - 1 : Nat) : Int) := by omega
            show [V.ref row, V.int ((many : Int) - 1)] = _
            rw [ec]
          obtain ⟨xs5, hrow5⟩ := R5.lst
          have W6 := W5.kp K6 hrow5 nfr
          refine ⟨_, rfl, _, _, rfl, rfl, _, rfl, _, rfl, _, _, rfl, rfl, _, rfl, _, _, rfl, rfl, row, many - 1 - lo, ns, ?_, by omega, by omega, R6, fun H7 d hd K7 R7 => ⟨_, _, rfl, rfl, ?_⟩⟩
          · have ec : ((many : Int) - 1 - (lo : Int)) = ((many - 1 - lo : Nat) : Int) := by omega
            show [V.ref row, V.int ((many : Int) - 1 - (lo : Int))] = _
            rw [ec]
          obtain ⟨xs6, hrow6⟩ := R6.lst
          have W7 := W6.kp K7 hrow6 nfr
          obtain ⟨as7, hfa7, pas7⟩ := id W7
          refine ⟨_, rfl, .inl ⟨rfl, _, SqL.of hfa7⟩, _, rfl, _, rfl, _, rfl, _, rfl, _, _, rfl, rfl, row, 3, ns, rfl, by omega, by omega, R7, fun H8 sd hsd K8 R8 => ?_⟩
          obtain ⟨xs7, hrow7⟩ := R7.lst
          obtain ⟨as8, hfa8, pas8⟩ := W7.kp K8 hrow7 nfr
          refine ⟨by show 3 ≤ sizeLine; decide, fun p np => ⟨fa, _, _, rfl, rfl, same_upd np _ _ hfa8, ?_, ?_⟩⟩
          · rw [List.length_map, pas8.1]
            exact small9 (by omega)
          · refine ⟨ws' ++ [⟨lo, lo + 1 + d, sd⟩], _, _, _, _, rfl, ?_⟩
            have := app_step nfr nfaH (((K5.trans K6).trans K7).trans K8) R8 hfa8 pas8 ok5 (by omega) np ⟨lo, lo + 1 + d, sd⟩ ⟨by show lo < lo + 1 + d; omega, by show lo + 1 + d < many; omega, by show sd ≤ 2; omega⟩
            have ec : (((lo + 1 + d : Nat)) : Int) = (lo : Int) + 1 + (d : Int) := by omega
            rw [ec] at this
            refine ⟨this.1, this.2.1, this.2.2.1, this.2.2.2.1, ?_⟩
            rw [List.length_append, l5]
            rfl
        · rintro σ H5 ⟨ws', a6, a7, a8, a9, rfl, K5, R5, ⟨as5, hfa5, pas5⟩, ok5, l5⟩
          refine ⟨_, rfl, _, rfl, .inl ⟨fa, _, rfl, SqL.of hfa5, fun p np => ⟨by show 2 ≤ sizeLine; decide, fun y ny => ?_⟩⟩⟩
          have u1 := same_upd (o := .tup (as5.map V.ref)) np
          have u2 := same_upd (o := .tup [.int (many : Int), .ref p]) ny
          have U := u1.trans u2
          refine q _ y many ws' (K5.trans (Kp.of U)) (R5.same U) ⟨p, as5, upd_same, u2 _ _ upd_same, pas5.1, fun j x e => ?_⟩ ⟨m1, m5, by omega, fun x hx => ok5 x hx⟩
          obtain ⟨a, e1, e2⟩ := pas5.2 j x e
          exact ⟨a, e1, U _ _ e2⟩
end
end W35P
end

section
set_option maxRecDepth 100000
set_option maxHeartbeats 16000000
/-! _law_come -/
namespace W35P
open PySem PySem.Spec PyProof.Rows L2 W35 W35R
/-- the sides seen so far are closed -/
def SdCl (x : Wl) (us fs : List Nat) : Prop := ∀ u, u ∈ us → u ∈ fs → x.lo + x.hi - u ∈ fs
theorem SdCl.cl {x : Wl} {fs : List Nat} (h : SdCl x x.sides fs) : ClR x fs := by
  refine ⟨fun a b => ?_, fun a b => ?_⟩
  · have := h _ b a
    rwa [show x.lo + x.hi - x.lo = x.hi by omega] at this
  · have := h _ b a
    rwa [show x.lo + x.hi - x.hi = x.lo by omega] at this
theorem side_of {x : Wl} {u : Nat} (h : u ∈ x.sides) : u = x.lo ∨ u = x.hi := by
  unfold Wl.sides at h
  split at h
  · exact .inl (List.mem_singleton.mp h)
  · split at h
    · exact .inr (List.mem_singleton.mp h)
    · rcases List.mem_cons.mp h with h | h
      · exact .inl h
      · exact .inr (List.mem_singleton.mp h)
section
variable {P : Program} {w : World} {K : PySem.W.Frag} {mg : Str → Option Value} {base : Heap}
abbrev sLcome : Stmt := topS 38
theorem scLcome : FnScope ["_law_yard_here", "_law_lot", "_law_found", "_law_turn", "_law_number", "_law_shut", "_law_side", "_law_other"] ["_law_yard_here", "_law_lot"] (defScope sLcome) := ⟨rfl, rfl, rfl, by decide +kernel, rfl, by decide +kernel, by decide +kernel⟩
theorem cb_lcome (D : Df K mg "_law_come" sLcome ["_law_yard_here", "_law_lot"]) (T : Gb mg) (c1 : Cb P w K mg base 1 "_law_sides" spLsides) : Cb P w K mg base 2 "_law_come" spReached := by
  refine D.ok scLcome (fun vs H Q E h => ?_) (fun f cdv A outer s H vs Q E hr h => ?_)
  · obtain ⟨y, l, many, ws, lot, rfl, _⟩ := h
    rfl
  · obtain ⟨y, l, many, ws, lot, rfl, hY, ok, hL, hlt, q⟩ := h
    obtain ⟨wa, as, h1, h2, h3, h4⟩ := id hY
    have nd := scLcome.nd
    refine ⟨_, pss_cons (ps_set (i := 2) nd rfl (.inl rfl) (pe_lst (pa_cons pe_int pa_nil)))
      (pss_cons (ps_for PassesOwn.never rfl (pi_range1 (by rfl) T.range (pa_cons (pe_ix ix_tup (pv 0) pe_int (fun _ _ => rfl)) pa_nil)) (pg_name (i := 3) nd rfl (.inl rfl))
        (pss_one (ps_for PassesOwn.never rfl (pi_tup (pv 1)) (pg_name (i := 4) nd rfl (.inl rfl))
          (pss_cons (ps_set (i := 5) nd rfl (.inl rfl) (pe_ix ix_tup (pe_ix ix_tup (pv 0) pe_int (fun _ _ => rfl)) (pv 4) (fun _ _ => rfl)))
          (pss_one (ps_for PassesOwn.never rfl (pi_tup (pe_cb c1 hr (pa_cons (pv 5) pa_nil))) (pg_name (i := 6) nd rfl (.inl rfl))
            (pss_cons (ps_set (i := 7) nd rfl (.inl rfl) (pe_op op_sub (pe_op op_add (pe_ix ix_tup (pv 5) pe_int (fun _ _ => rfl)) (pe_ix ix_tup (pv 5) pe_int (fun _ _ => rfl))) (pv 6)))
            (pss_one (ps_if (PW.pt (pw_and (pt_cmpR op_in_seq (pv 6) (pv 2) (by rfl)) (pw_and1 (pt_cmpR op_notIn_seq (pv 7) (pv 2) (by rfl)))))
              (pss_one (ps_expr (pe_bm PySem.F.plainAttrs_list PySem.F.slot_list_append PySem.F.type_list_append mt_append (pv 2) (pa_cons (pv 7) pa_nil)))) pss_nil)))))))))
      (pss_one (ps_ret (pe_callB cr_sortedI (by rfl) T.sorted b_sorted (pa_cons (pv 2) pa_nil))))), ?_⟩
    refine ⟨by show 1 ≤ sizeLine; decide, fun fd nfd => ?_⟩
    have lenB : ∀ {fs : List Nat}, Fnd (Reach ws lot) fs → fs.length ≤ many := fun h => h.len fun r x => x.lt ok
    have o2 := ok.2.1
    refine ⟨_, rfl, y, _, 0, .int many, rfl, rfl, SqT.of (same_upd nfd _ _ h1), atI_nat (j := 0) rfl, many, rfl, by omega, by omega, ?_⟩
    have et : ((many : Int)).toNat = many := Int.toNat_natCast many
    show ∃ W : Nat → Nat → L2.St → Hp → Prop, _
    rw [et]
    refine for_range (lo := 0) (n := many) (fun i σ H1 => ∃ (fs : List Nat) (a3 a4 a5 a6 a7 : Option V), σ = [some (.ref y), some (.ref l), some (.ref fd), a3, a4, a5, a6, a7] ∧ Same H H1 ∧ LstAt H1 fd fs ∧ Fnd (Reach ws lot) fs ∧
        ((∀ n, n ∈ lot → ∀ x, ws[n]? = some x → ClR x fs) ∨ i + 1 ≤ fs.length)) ⟨[0], _, _, _, _, _, rfl, same_upd nfd, upd_same, Fnd.start .zero, .inr (Nat.le_refl 1)⟩ ?_ ?_
    · rintro i σ H1 hi ⟨fs, a3, a4, a5, a6, a7, rfl, S1, hF, hG, hC⟩
      refine ⟨_, rfl, l, rfl, ⟨_, SqT.of (S1 _ _ hL)⟩, for_tup (K := K) (a := l) (xs := iv lot) (fun j σ H2 => ∃ (gs : List Nat) (a3 a4 a5 a6 a7 : Option V), σ = [some (.ref y), some (.ref l), some (.ref fd), a3, a4, a5, a6, a7] ∧ Same H H2 ∧ LstAt H2 fd gs ∧ Fnd (Reach ws lot) gs ∧
          ((gs = fs ∧ ∀ n, n ∈ lot.take j → ∀ x, ws[n]? = some x → ClR x fs) ∨ fs.length < gs.length)) ⟨fs, _, _, _, _, _, rfl, S1, hF, hG, .inl ⟨rfl, fun n hn => by simp at hn⟩⟩
        (fun j σ H2 _ ⟨_, _, _, _, _, _, _, S2, _⟩ => SqT.of (S2 _ _ hL)) ?_ ?_⟩
      · rintro j x σ H2 hjx ⟨gs, a3, a4, a5, a6, a7, rfl, S2, hF2, hG2, hC2⟩
        obtain ⟨n, hn, rfl⟩ := of_at_iv hjx
        have hnl := hlt n (List.mem_of_getElem? hn)
        obtain ⟨xw, hxw⟩ : ∃ xw, ws[n]? = some xw := ⟨ws[n], List.getElem?_eq_getElem hnl⟩
        obtain ⟨ax, e1, e2⟩ := h4 n xw hxw
        have hax : (as.map V.ref)[n]? = some (.ref ax) := by rw [List.getElem?_map, e1]; rfl
        obtain ⟨hlh, hhm, hsd⟩ := ok.2.2.2 xw (List.mem_of_getElem? hxw)
        refine ⟨_, rfl, y, _, 1, .ref wa, rfl, rfl, SqT.of (S2 _ _ h1), atI_nat (j := 1) rfl, _, rfl, wa, _, n, .ref ax, rfl, rfl, SqT.of (S2 _ _ h2), atI_nat hax, ?_⟩
        refine ⟨_, rfl, ax, xw, rfl, S2 _ _ e2, hsd, fun H3 p3 S3 hp3 => ⟨p3, rfl, ⟨_, SqT.of hp3⟩, ?_⟩⟩
        have hF3 := S3 _ _ hF2
        refine for_tup (K := K) (a := p3) (xs := iv xw.sides) (fun k σ H4 => ∃ (gs : List Nat) (a6 a7 : Option V), σ = [some (.ref y), some (.ref l), some (.ref fd), a3, some (.int n), some (.ref ax), a6, a7] ∧ Same H H4 ∧ LstAt H4 fd gs ∧ TupAt H4 p3 xw.sides ∧ Fnd (Reach ws lot) gs ∧
            ((gs = fs ∧ (∀ n, n ∈ lot.take j → ∀ x, ws[n]? = some x → ClR x fs) ∧ SdCl xw (xw.sides.take k) fs) ∨ fs.length < gs.length))
          ⟨gs, _, _, rfl, S2.trans S3, hF3, hp3, hG2, hC2.imp (fun z => ⟨z.1, z.2, fun u hu => by simp at hu⟩) id⟩ (fun k σ H4 _ ⟨_, _, _, _, _, _, z, _⟩ => SqT.of z) ?_ ?_
        · rintro k x σ H4 hkx ⟨gs, a6, a7, rfl, S4, hF4, hp4, hG4, hC4⟩
          obtain ⟨u, hu, rfl⟩ := of_at_iv hkx
          have hum := List.mem_of_getElem? hu
          have hside := side_of hum
          have hax4 := S4 _ _ (show H ax = _ from e2)
          refine ⟨_, rfl, ax, _, 0, .int xw.lo, rfl, rfl, SqT.of hax4, atI_nat (j := 0) rfl, _, rfl, ax, _, 1, .int xw.hi, rfl, rfl, SqT.of hax4, atI_nat (j := 1) rfl, _, _, rfl, rfl, _, rfl, _, _, rfl, rfl, ?_⟩
          dsimp only
          have ev : (xw.lo : Int) + (xw.hi : Int) - (u : Int) = ((xw.lo + xw.hi - u : Nat) : Int) := by
            rcases hside with e | e <;> omega
          rw [ev]
          have hv : ∀ R : Nat → Prop, (xw.lo ∈ xw.sides → R xw.lo → R xw.hi) → (xw.hi ∈ xw.sides → R xw.hi → R xw.lo) → R u → R (xw.lo + xw.hi - u) := fun R r1 r2 hR => by
            rcases hside with e | e
            · rw [show xw.lo + xw.hi - u = xw.hi by omega]
              exact r1 (e ▸ hum) (e ▸ hR)
            · rw [show xw.lo + xw.hi - u = xw.lo by omega]
              exact r2 (e ▸ hum) (e ▸ hR)
          have hvR := hv (Reach ws lot) (fun a b => .up (List.mem_of_getElem? hn) hxw a b) (fun a b => .down (List.mem_of_getElem? hn) hxw a b)
          obtain ⟨v, hv'⟩ : ∃ v, v = xw.lo + xw.hi - u := ⟨_, rfl⟩
          rw [← hv'] at hvR ⊢
          have stay : ¬ (u ∈ gs ∧ v ∉ gs) → ((gs = fs ∧ (∀ n, n ∈ lot.take j → ∀ x, ws[n]? = some x → ClR x fs) ∧ SdCl xw (xw.sides.take (k + 1)) fs) ∨ fs.length < gs.length) := fun no => hC4.imp (fun z => ⟨z.1, z.2.1, fun u' hu' => by
            rcases mem_take_succ hu hu' with h | h
            · exact z.2.2 u' h
            · rw [h, ← hv', ← z.1]
              intro hug
              exact Classical.byContradiction fun c => no ⟨hug, c⟩⟩) id
          refine ⟨_, rfl, _, rfl, fd, _, rfl, .inl (SqL.of hF4), rfl, flat_iv _, _, rfl, ?_⟩
          show (if (if false then !inV (.int u) (iv gs) else inV (.int u) (iv gs)) = true then _ else _)
          rw [if_neg Bool.false_ne_true, inV_iv]
          by_cases hug : u ∈ gs
          · rw [if_pos (decide_eq_true hug)]
            refine ⟨_, rfl, _, rfl, fd, _, rfl, .inl (SqL.of hF4), rfl, flat_iv _, _, rfl, ?_⟩
            show (if (if true then !inV (.int v) (iv gs) else inV (.int v) (iv gs)) = true then _ else _)
            rw [if_pos rfl, inV_iv]
            by_cases hvg : v ∈ gs
            · rw [if_neg (by simp [hvg])]
              exact ⟨gs, _, _, rfl, S4, hF4, hp4, hG4, stay fun z => z.2 hvg⟩
            · rw [if_pos (by simp [hvg])]
              have lb := lenB hG4
              refine ⟨_, rfl, .inl ⟨rfl, _, SqL.of hF4⟩, _, rfl, fd, _, _, rfl, rfl, hF4, small9 (by rw [iv_len]; omega), ?_⟩
              have np3 : p3 ≠ fd := fun z => by
                have a : H4 p3 = some (.tup (iv xw.sides)) := hp4
                rw [z, hF4] at a
                cases a
              refine ⟨gs ++ [v], _, _, rfl, samePut S4 nfd, by rw [app_iv]; exact upd_same, by show upd _ fd _ p3 = _; rw [upd_ne np3]; exact hp4, hG4.add hvg (hvR (hG4.ok u hug)), .inr ?_⟩
              rw [List.length_append]
              have : fs.length ≤ gs.length := by
                rcases hC4 with z | z
                · rw [z.1]; exact Nat.le_refl _
                · exact Nat.le_of_lt z
              show fs.length < gs.length + 1
              omega
          · rw [if_neg (by simp [hug])]
            exact iteF ⟨gs, _, _, rfl, S4, hF4, hp4, hG4, stay fun z => hug z.1⟩
        · rintro σ H4 ⟨gs, a6, a7, rfl, S4, hF4, hp4, hG4, hC4⟩
          rw [iv_len, List.take_length] at hC4
          refine ⟨gs, _, _, _, _, _, rfl, S4, hF4, hG4, hC4.imp (fun z => ⟨z.1, fun m hm x hmx => ?_⟩) id⟩
          rcases mem_take_succ hn hm with hm | hm
          · exact z.2.1 m hm x hmx
          · subst hm
            have e : x = xw := Option.some.inj (hmx.symm.trans hxw)
            subst e
            exact z.2.2.cl
      · rintro σ H2 ⟨gs, a3, a4, a5, a6, a7, rfl, S2, hF2, hG2, hC2⟩
        rw [iv_len, List.take_length] at hC2
        refine ⟨gs, _, _, _, _, _, rfl, S2, hF2, hG2, ?_⟩
        rcases hC2 with ⟨e, hc⟩ | hlt2
        · rw [e]
          exact .inl hc
        · rcases hC with hc | hle
          · have := sub_len gs fs hG2.nd fun r hr => reach_in hG.z hc (hG2.ok r hr)
            omega
          · exact .inr (by omega)
    · rintro σ H1 ⟨fs, a3, a4, a5, a6, a7, rfl, S1, hF, hG, hC⟩
      have hcl : ∀ n, n ∈ lot → ∀ x, ws[n]? = some x → ClR x fs := by
        rcases hC with hc | hle
        · exact hc
        · have := lenB hG
          omega
      refine ⟨_, rfl, fd, zs fs, rfl, SqL.of (by rw [iv_zs]; exact hF), fun ms p hp _ np => ?_⟩
      obtain ⟨rs, rfl, hp'⟩ := nats_of hp
      refine q _ p rs (sameNew S1 np) (S1.free np) (by rw [iv_zs]; exact upd_same) fun r => ?_
      rw [hp'.mem_iff]
      exact ⟨hG.ok r, fun x => reach_in hG.z hcl x⟩
end
end W35P
end

section
set_option maxRecDepth 100000
set_option maxHeartbeats 16000000
/-! _law_words -/
namespace W35P
open PySem PySem.Spec PyProof.Rows L2 W35 W35R
def rCatB : R2 := fun x y H Q => ∃ a b xs ys, x = .ref a ∧ y = .ref b ∧ H a = some (.tup xs) ∧ H b = some (.tup ys) ∧ xs ≠ [] ∧ xs.length + ys.length ≤ sizeLine ∧ ∀ (H' : Hp) (p : Addr), Same H H' → H' p = some (.tup (xs ++ ys)) → Q (.ref p) H'
theorem op_catB {X : Cx} : OpR X (binaryOp .Add) rCatB := fun pins s σ H x y v u Q I rx ry h => by
  obtain ⟨a, b, xs, ys, e1, e2, ha, hb, hx, hz, q⟩ := h
  exact op_catT pins s σ H x y v u Q I rx ry ⟨a, b, xs, ys, e1, e2, SqT.of ha, SqT.of hb, hx, hz, (fun e => q H a (Same.refl H) (by rw [e, List.append_nil]; exact ha)), fun _ p np => q _ p (same_upd np) upd_same⟩
theorem prs_mem {α β : Type} {R : α → β → Prop} {as : List α} {bs : List β} (h : Prs R as bs) {b : β} (hb : b ∈ bs) : ∃ a, a ∈ as ∧ R a b := by
  obtain ⟨i, hi⟩ := List.getElem?_of_mem hb
  obtain ⟨a, e, r⟩ := h.2 i b hi
  exact ⟨a, List.mem_of_getElem? e, r⟩
theorem prs_mem' {α β : Type} {R : α → β → Prop} {as : List α} {bs : List β} (h : Prs R as bs) {a : α} (ha : a ∈ as) : ∃ b, b ∈ bs ∧ R a b := by
  obtain ⟨i, hi⟩ := List.getElem?_of_mem ha
  obtain ⟨b, e, r⟩ := h.back hi
  exact ⟨b, List.mem_of_getElem? e, r⟩
/-- the lots behind a list of the same addresses -/
theorem lots_perm {H : Hp} {as bs : List Addr} {lots : List (List Nat)} (h : Prs (fun a lot => TupAt H a lot) as lots) (p : bs.Perm as) : ∃ lots', Prs (fun a lot => TupAt H a lot) bs lots' ∧ (∀ w, w ∈ lots' ↔ w ∈ lots) ∧ lots'.length = lots.length := by
  obtain ⟨lots', h'⟩ := Prs.build (R := fun a lot => TupAt H a lot) bs fun a ha => by
    obtain ⟨b, _, r⟩ := prs_mem' h (p.mem_iff.mp ha)
    exact ⟨b, r⟩
  have inj : ∀ {a : Addr} {u v : List Nat}, TupAt H a u → TupAt H a v → u = v := fun {a u v} x y => by
    have x' : H a = some (.tup (iv u)) := x
    have y' : H a = some (.tup (iv v)) := y
    rw [x'] at y'
    exact iv_inj (HO.tup.inj (Option.some.inj y'))
  refine ⟨lots', h', fun w => ⟨fun hw => ?_, fun hw => ?_⟩, ?_⟩
  · obtain ⟨a, ha, r⟩ := prs_mem h' hw
    obtain ⟨b, hb, r'⟩ := prs_mem' h (p.mem_iff.mp ha)
    exact inj r r' ▸ hb
  · obtain ⟨a, ha, r⟩ := prs_mem h hw
    obtain ⟨b, hb, r'⟩ := prs_mem' h' (p.mem_iff.mpr ha)
    exact inj r r' ▸ hb
  · rw [← h'.1, ← h.1]
    exact p.length_eq
/-- n (n - 1) .. of i numbers -/
def Fac (n : Nat) : Nat → Nat
  | 0 => 1
  | i + 1 => Fac n i * (n - i)
theorem fac_le : ∀ n, n < 7 → ∀ i, i < 7 → Fac n i ≤ 720 := by decide
def cnt (tail : List Nat) (k : Nat) : Nat := ((List.range k).filter fun c => decide (c ∉ tail)).length
theorem cnt_succ (tail : List Nat) (k : Nat) : cnt tail (k + 1) = cnt tail k + if k ∈ tail then 0 else 1 := by
  unfold cnt
  rw [List.range_succ, List.filter_append, List.length_append]
  by_cases h : k ∈ tail
  · rw [if_pos h, List.filter_cons, if_neg (by simp [h])]
    rfl
  · rw [if_neg h, List.filter_cons, if_pos (by simp [h])]
    rfl
theorem cnt_le {tail : List Nat} {n i : Nat} (nd : tail.Nodup) (h : ∀ c, c ∈ tail → c < n) (e : tail.length = i) : cnt tail n ≤ n - i := by
  have h1 : (((List.range n).filter fun c => decide (c ∉ tail)) ++ tail).Nodup := List.nodup_append.mpr ⟨(List.nodup_range (n := n)).filter _, nd, fun a ha b hb e => by
    have := (List.mem_filter.mp ha).2
    rw [e] at this
    simp [hb] at this⟩
  have h2 := nodup_le n _ h1 fun c hc => by
    rcases List.mem_append.mp hc with hc | hc
    · exact List.mem_range.mp (List.mem_filter.mp hc).1
    · exact h c hc
  rw [List.length_append] at h2
  unfold cnt
  omega
section
variable {P : Program} {w : World} {K : PySem.W.Frag} {mg : Str → Option Value} {base : Heap}
abbrev sLwords : Stmt := topS 39
def forB (s : Stmt) (i : Nat) : Stmt := match s with
  | .For _ _ b _ _ => b.getD i (.Pass ⟨0, 0, 0, 0⟩)
  | s => s
def lcL (e : Expr) : Expr := match e with
  | .Compare l _ _ _ => l
  | e => e
abbrev lcW : Expr := lcL (orAt (cond (forB (forB (forB (bodyAt sLwords 1) 1) 1) 0)) 1)
theorem scLwords : FnScope ["_law_yard_here", "_law_found", "_law_turn", "_law_later", "_law_tail", "_law_rooms", "_law_number", "_law_side"] ["_law_yard_here"] (defScope sLwords) := ⟨rfl, rfl, rfl, by decide +kernel, rfl, by decide +kernel, by decide +kernel⟩
theorem blW : BlkOk ["_law_yard_here", "_law_found", "_law_turn", "_law_later", "_law_tail", "_law_rooms", "_law_number", "_law_side"] (defScope sLwords) (lcS lcW) [("_law_side", 7)] := blkOk_by (by decide +kernel)
def spLwords : Sp := fun vs H Q _ => ∃ (y : Addr) (many : Nat) (ws : List Wl), vs = [.ref y] ∧ YardAt H y many ws ∧ YOk many ws ∧
  ∀ (H' : Hp) (p : Addr) (words : List (List Nat)), Same H H' → LotsAt H' p words → (∀ x, x ∈ words ↔ Full ws x) → words.length ≤ 720 → Q (.ref p) H'
theorem cb_lwords (D : Df K mg "_law_words" sLwords ["_law_yard_here"]) (T : Gb mg) (c1 : Cb P w K mg base 1 "_law_sides" spLsides) (c2 : Cb P w K mg base 2 "_law_come" spReached) : Cb P w K mg base 3 "_law_words" spLwords := by
  refine D.ok scLwords (fun vs H Q E h => ?_) (fun f cdv A outer s H vs Q E hr h => ?_)
  · obtain ⟨y, many, ws, rfl, _⟩ := h
    rfl
  · obtain ⟨y, many, ws, rfl, hY, ok, q⟩ := h
    obtain ⟨wa, was, h1, h2, h3, h4⟩ := id hY
    have nd := scLwords.nd
    have hu := hr.units
    refine ⟨_, pss_cons (ps_set (i := 1) nd rfl (.inl rfl) (pe_lst (pa_cons (pe_tup pa_nil) pa_nil)))
      (pss_cons (ps_for PassesOwn.never rfl (pi_range1 (by rfl) T.range (pa_cons (pe_callB call_len_seq (by rfl) T.len b_len (pa_cons (pe_ix ix_tup (pv 0) pe_int (fun _ _ => rfl)) pa_nil)) pa_nil)) (pg_name (i := 2) nd rfl (.inl rfl))
        (pss_cons (ps_set (i := 3) nd rfl (.inl rfl) (pe_lst pa_nil))
        (pss_cons (ps_for PassesOwn.never rfl (pi_list (pv 1)) (pg_name (i := 4) nd rfl (.inl rfl))
          (pss_cons (ps_set (i := 5) nd rfl (.inr rfl) (pe_cb c2 hr (pa_cons (pv 0) (pa_cons (pv 4) pa_nil))))
          (pss_one (ps_for PassesOwn.never rfl (pi_range1 (by rfl) T.range (pa_cons (pe_callB call_len_seq (by rfl) T.len b_len (pa_cons (pe_ix ix_tup (pv 0) pe_int (fun _ _ => rfl)) pa_nil)) pa_nil)) (pg_name (i := 6) nd rfl (.inl rfl))
            (pss_one (ps_if (PW.pt (pw_and (pt_cmpR op_notIn_seq (pv 6) (pv 4) (by rfl)) (pw_and1 (pt_cmpR (op_ne0 hu)
                (pe_lc (own := [("_law_side", 7)]) (g := gName 7) rfl nd (pi_tup (pe_cb c1 hr (pa_cons (pe_ix ix_tup (pe_ix ix_tup (pv 0) pe_int (fun _ _ => rfl)) (pv 6) (fun _ _ => rfl)) pa_nil))) blW
                  (fun _ _ _ _ _ => pg_name (i := 7) nd rfl (Or.inl rfl)) (fun _ _ _ _ _ => pts_one (pt_cmpR (inK K) (pv 7) (pv 5) (by rfl))) (fun _ _ _ _ _ => pv 7)) (pe_lst pa_nil) (nomark _)))))
              (pss_one (ps_expr (pe_bm PySem.F.plainAttrs_list PySem.F.slot_list_append PySem.F.type_list_append mt_append (pv 3) (pa_cons (pe_op op_catB (pe_tup (pa_cons (pv 6) pa_nil)) (pv 4)) pa_nil)))) pss_nil))))))
        (pss_one (ps_set (i := 1) nd rfl (.inl rfl) (pv 3))))))
      (pss_one (ps_ret (pe_callB cr_sortTA (by rfl) T.sorted b_sorted (pa_cons (pv 1) pa_nil))))), ?_⟩
    have o3 := ok.2.2.1
    refine ⟨by show 0 ≤ sizeLine; decide, fun t0 n0 => ⟨by show 1 ≤ sizeLine; decide, fun fa nfa => ?_⟩⟩
    have u0 := same_upd (o := .tup []) n0
    have u1 := same_upd (o := .lst [.ref t0]) nfa
    have S0 := u0.trans u1
    have hl0 : LotsAt (upd (upd H t0 (.tup [])) fa (.lst [.ref t0])) fa [[]] := ⟨[t0], upd_same, Prs.nil.snoc (u1 _ _ upd_same)⟩
    have ewl : ((was.map V.ref).length : Int) = (ws.length : Int) := by rw [List.length_map, h3]
    have en : (((was.map V.ref).length : Int)).toNat = ws.length := by rw [ewl]; exact Int.toNat_natCast _
    refine ⟨_, rfl, y, _, 1, .ref wa, rfl, rfl, SqT.of (S0 _ _ h1), atI_nat (j := 1) rfl, wa, _, rfl, .inr (SqT.of (S0 _ _ h2)), _, rfl, by omega, by omega, ?_⟩
    show ∃ W : Nat → Nat → L2.St → Hp → Prop, _
    rw [en]
    refine for_range (lo := 0) (n := ws.length) (fun i σ H1 => ∃ (fa : Addr) (lots : List (List Nat)) (a2 a3 a4 a5 a6 : Option V), σ = [some (.ref y), some (.ref fa), a2, a3, a4, a5, a6, none] ∧ Same H H1 ∧ LotsAt H1 fa lots ∧ (∀ x, x ∈ lots ↔ Feas ws x ∧ x.length = i) ∧ lots.length ≤ Fac ws.length i)
      ⟨fa, [[]], _, _, _, _, _, rfl, S0, hl0, (fun x => ⟨fun hx => by rw [List.mem_singleton.mp hx]; exact ⟨.nil, rfl⟩, fun hx => by rw [List.eq_nil_of_length_eq_zero hx.2]; exact List.mem_singleton.mpr rfl⟩), Nat.le_refl 1⟩ ?_ ?_
    · rintro i σ H1 hi ⟨fa, lots, a2, a3, a4, a5, a6, rfl, S1, ⟨as, hfa, pas⟩, hlots, hsz⟩
      -- later = []
      refine ⟨by show 0 ≤ sizeLine; decide, fun la nla => ?_⟩
      have sl := same_upd (o := .lst []) nla
      have nlaH : H la = none := S1.free nla
      refine ⟨_, rfl, fa, rfl, ⟨_, SqL.of (sl _ _ hfa)⟩, ?_⟩
      have h46 : lots.length ≤ 720 := Nat.le_trans hsz (fac_le _ (by omega) _ (by omega))
      refine for_list (K := K) (a := fa) (xs := as.map V.ref) (fun j σ H2 => ∃ (ls : List (List Nat)) (a2 a4 a5 a6 : Option V), σ = [some (.ref y), some (.ref fa), a2, some (.ref la), a4, a5, a6, none] ∧ Same H1 H2 ∧ LotsAt H2 la ls ∧
          (∀ x, x ∈ ls ↔ ∃ tail, tail ∈ lots.take j ∧ ∃ c, Nxt ws tail c ∧ x = c :: tail) ∧ ls.length ≤ j * (ws.length - i))
        ⟨[], _, _, _, _, rfl, sl, ⟨[], upd_same, Prs.nil⟩, (fun x => ⟨(fun z => by cases z), (fun ⟨_, z, _⟩ => by simp at z)⟩), Nat.zero_le _⟩ (fun j σ H2 _ ⟨_, _, _, _, _, _, s2, _⟩ => SqL.of (s2 _ _ hfa)) ?_ ?_
      · rintro j x σ H2 hjx ⟨ls, a2, a4, a5, a6, rfl, S2, hls, hm, hlen⟩
        obtain ⟨ta, hta, rfl⟩ := ref_at hjx
        obtain ⟨tail, htail, htup⟩ := pas.back hta
        have hj : j < lots.length := (List.getElem?_eq_some_iff.mp htail).1
        obtain ⟨ft, hti⟩ := (hlots tail).mp (List.mem_of_getElem? htail)
        refine ⟨_, rfl, _, rfl, y, ta, many, ws, tail, rfl, hY.same (S1.trans S2), ok, S2 _ _ htup, ft.lt, fun H3 rp rs S3 nrp hrp hrs => ?_⟩
        have S13 := (S1.trans S2).trans S3
        refine ⟨_, rfl, y, _, 1, .ref wa, rfl, rfl, SqT.of (S13 _ _ h1), atI_nat (j := 1) rfl, wa, _, rfl, .inr (SqT.of (S13 _ _ h2)), _, rfl, by omega, by omega, ?_⟩
        show ∃ W : Nat → Nat → L2.St → Hp → Prop, _
        rw [en]
        refine for_range (lo := 0) (n := ws.length) (fun k σ H4 => ∃ (ls : List (List Nat)) (a6 : Option V), σ = [some (.ref y), some (.ref fa), a2, some (.ref la), some (.ref ta), some (.ref rp), a6, none] ∧ Same H1 H4 ∧ LotsAt H4 la ls ∧ LstAt H4 rp rs ∧
            (∀ x, x ∈ ls ↔ (∃ tail, tail ∈ lots.take j ∧ ∃ c, Nxt ws tail c ∧ x = c :: tail) ∨ ∃ c, c < k ∧ Nxt ws tail c ∧ x = c :: tail) ∧ ls.length ≤ j * (ws.length - i) + cnt tail k)
          ⟨ls, _, rfl, S2.trans S3, hls.same S3, hrp, (fun x => (hm x).trans ⟨.inl, fun z => z.elim id fun ⟨c, z, _⟩ => absurd z (Nat.not_lt_zero c)⟩), hlen⟩ ?_ ?_
        · rintro k σ H4 hk ⟨ls, a6, rfl, S4, hls4, hrp4, hm4, hlen4⟩
          have ek : (0 : Int) + (k : Int) = (k : Int) := Int.zero_add _
          have S14 := S1.trans S4
          have htup4 : TupAt H4 ta tail := S4 _ _ htup
          obtain ⟨xw, hxw⟩ : ∃ xw, ws[k]? = some xw := ⟨ws[k], List.getElem?_eq_getElem hk⟩
          obtain ⟨ax, e1, e2⟩ := h4 k xw hxw
          have hax : (was.map V.ref)[k]? = some (.ref ax) := by rw [List.getElem?_map, e1]; rfl
          have hsd := (ok.2.2.2 xw (List.mem_of_getElem? hxw)).2.2
          -- nothing new at this number
          have stay : ∀ {H5 : Hp}, Same H4 H5 → ¬ Nxt ws tail k → Same H1 H5 ∧ LotsAt H5 la ls ∧ LstAt H5 rp rs ∧
              (∀ x, x ∈ ls ↔ (∃ tail, tail ∈ lots.take j ∧ ∃ c, Nxt ws tail c ∧ x = c :: tail) ∨ ∃ c, c < k + 1 ∧ Nxt ws tail c ∧ x = c :: tail) ∧ ls.length ≤ j * (ws.length - i) + cnt tail (k + 1) := fun {H5} s5 no => by
            refine ⟨S4.trans s5, hls4.same s5, s5 _ _ hrp4, fun x => (hm4 x).trans ?_, by rw [cnt_succ]; exact Nat.le_trans hlen4 (by omega)⟩
            constructor
            · rintro (h | ⟨c, hc, h⟩)
              · exact .inl h
              · exact .inr ⟨c, by omega, h⟩
            · rintro (h | ⟨c, hc, h⟩)
              · exact .inl h
              · have nc : c ≠ k := fun e => no (e ▸ h.1)
                exact .inr ⟨c, by omega, h⟩
          refine ⟨_, rfl, _, rfl, ta, _, rfl, .inr (SqT.of htup4), rfl, flat_iv _, _, rfl, ?_⟩
          show (if (if true then !inV (.int ((0 : Int) + (k : Int))) (iv tail) else inV (.int ((0 : Int) + (k : Int))) (iv tail)) = true then _ else _)
          rw [if_pos rfl, ek, inV_iv]
          by_cases hkt : k ∈ tail
          · rw [if_neg (by simp [hkt])]
            exact iteF ⟨ls, _, rfl, stay (Same.refl H4) fun z => z.2.1 hkt⟩
          · rw [if_pos (by simp [hkt])]
            refine ⟨_, rfl, y, _, 1, .ref wa, rfl, rfl, SqT.of (S14 _ _ h1), atI_nat (j := 1) rfl, _, rfl, wa, _, k, .ref ax, rfl, rfl, SqT.of (S14 _ _ h2), atI_nat hax, ax, xw, rfl, S14 _ _ e2, hsd, fun H5 p5 S5 hp5 => ⟨p5, rfl, ⟨_, SqT.of hp5⟩, fun D nD => ?_⟩⟩
            refine lc_tup (K := K) (a := p5) (xs := iv xw.sides) (fun m H6 => Same H5 H6 ∧ LstAt H6 D ((xw.sides.take m).filter fun r => decide (r ∈ rs))) ⟨same_upd nD, upd_same⟩ (fun m H6 _ p => SqT.of (p.1 _ _ hp5)) ?_ ?_
            · rintro m x H6 hmx ⟨S6, hD⟩
              obtain ⟨r, hr', rfl⟩ := of_at_iv hmx
              have S46 := S5.trans S6
              refine ⟨rfl, _, rfl, _, rfl, rp, _, rfl, .inl (SqL.of (S46 _ _ hrp4)), rfl, flat_iv _, _, rfl, ?_⟩
              show (if (if false = true then !inV (.int r) (iv rs) else inV (.int r) (iv rs)) = true then _ else _)
              rw [if_neg Bool.false_ne_true, inV_iv]
              by_cases hrr : r ∈ rs
              · rw [if_pos (decide_eq_true hrr)]
                refine ⟨_, rfl, _, hD, small9 ?_, samePut S6 nD, ?_⟩
                · rw [iv_len]
                  refine Nat.le_trans (List.length_filter_le _ _) ?_
                  rw [List.length_take]
                  have := sides_len xw
                  omega
                · rw [filter_snoc hr', if_pos (decide_eq_true hrr), app_iv]
                  exact upd_same
              · rw [if_neg (by simp [hrr])]
                refine ⟨S6, ?_⟩
                rw [filter_snoc hr', if_neg (by simp [hrr])]
                exact hD
            · rintro H6 ⟨S6, hD⟩
              rw [iv_len, List.take_length] at hD
              refine ⟨by show 0 ≤ sizeLine; decide, fun e0 ne0 => ?_⟩
              have se := same_upd (o := .lst []) ne0
              have S47 := (S5.trans S6).trans se
              refine ⟨D, e0, _, rfl, rfl, SqL.of (se _ _ hD), SqL.of upd_same, (fun z hz => by
                obtain ⟨n, _, rfl⟩ := List.mem_map.mp hz
                exact .inl ⟨_, rfl⟩), _, rfl, ?_⟩
              have hrd : (!(iv (xw.sides.filter fun r => decide (r ∈ rs))).isEmpty) = true ↔ Ready ws tail k := by
                constructor
                · intro h
                  cases e : xw.sides.filter fun r => decide (r ∈ rs) with
                  | nil => rw [e] at h; cases h
                  | cons r l =>
                    have hm : r ∈ xw.sides.filter fun r => decide (r ∈ rs) := by rw [e]; exact List.mem_cons_self
                    have h' := List.mem_filter.mp hm
                    exact ⟨xw, hxw, r, h'.1, (hrs r).mp (of_decide_eq_true h'.2)⟩
                · rintro ⟨x', hx', r, h1', h2'⟩
                  have e : x' = xw := Option.some.inj (hx'.symm.trans hxw)
                  subst e
                  have hm : r ∈ x'.sides.filter fun r => decide (r ∈ rs) := List.mem_filter.mpr ⟨h1', decide_eq_true ((hrs r).mpr h2')⟩
                  cases e : x'.sides.filter fun r => decide (r ∈ rs) with
                  | nil => rw [e] at hm; cases hm
                  | cons r l => rfl
              show (if (!(iv (xw.sides.filter fun r => decide (r ∈ rs))).isEmpty) = true then _ else _)
              by_cases hR : Ready ws tail k
              · rw [if_pos (hrd.mpr hR)]
                obtain ⟨bs, hla4, pbs⟩ := hls4
                refine ⟨_, rfl, .inl ⟨rfl, _, SqL.of (S47 _ _ hla4)⟩, _, rfl, by show 1 ≤ sizeLine; decide, fun p8 np8 => ⟨_, rfl, p8, ta, [.int (k : Int)], iv tail, rfl, rfl, upd_same, same_upd np8 _ _ (S47 _ _ htup4), (fun z => by cases z), ?_, fun H9 p9 S9 hp9 => ?_⟩⟩
                · have := ft.length_le
                  rw [iv_len]
                  show 1 + tail.length ≤ sizeLine
                  exact Nat.le_of_lt (small9 (by omega))
                · have u8 := same_upd (o := .tup [.int (k : Int)]) np8
                  have S49 := (S47.trans u8).trans S9
                  have hla9 := S49 _ _ hla4
                  have hp9' : TupAt H9 p9 (k :: tail) := hp9
                  refine ⟨la, _, _, rfl, rfl, hla9, ?_, ?_⟩
                  · rw [List.length_map, pbs.1]
                    have b1 : j * (ws.length - i) ≤ 720 * 6 := Nat.mul_le_mul (by omega) (by omega)
                    have b2 : cnt tail k ≤ k := by
                      refine Nat.le_trans (List.length_filter_le _ _) ?_
                      rw [List.length_range]
                      exact Nat.le_refl k
                    rw [sizeLine_eq]
                    omega
                  · have tne : ∀ {a : Addr} {xs : List V}, H9 a = some (.tup xs) → a ≠ la := fun e z => by
                      rw [z, hla9] at e
                      cases e
                    have rne : rp ≠ la := fun z => by
                      obtain ⟨_, z1, _⟩ := hls
                      rw [z, z1] at nrp
                      cases nrp
                    refine ⟨ls ++ [k :: tail], _, rfl, samePut (S4.trans S49) nla, ⟨bs ++ [p9], ?_, Prs.snoc (pbs.imp fun a lot r => ?_) ?_⟩, ?_, fun x => ?_, ?_⟩
                    · rw [List.map_append]
                      exact upd_same
                    · have r' : H9 a = some (.tup (iv lot)) := S49 _ _ r
                      show upd _ la _ a = _
                      rw [upd_ne (tne r')]
                      exact r'
                    · show upd _ la _ p9 = _
                      rw [upd_ne (tne hp9')]
                      exact hp9'
                    · show upd _ la _ rp = _
                      rw [upd_ne rne]
                      exact S49 _ _ hrp4
                    · rw [List.mem_append, hm4, List.mem_singleton]
                      constructor
                      · rintro ((h | ⟨c, hc, h⟩) | h)
                        · exact .inl h
                        · exact .inr ⟨c, by omega, h⟩
                        · exact .inr ⟨k, Nat.lt_succ_self k, ⟨hk, hkt, hR⟩, h⟩
                      · rintro (h | ⟨c, hc, h⟩)
                        · exact .inl (.inl h)
                        · by_cases e : c = k
                          · subst e
                            exact .inr h.2
                          · exact .inl (.inr ⟨c, by omega, h⟩)
                    · rw [List.length_append]
                      show ls.length + 1 ≤ _
                      rw [cnt_succ, if_neg hkt]
                      omega
              · rw [if_neg fun z => hR (hrd.mp z)]
                exact ⟨ls, _, rfl, stay S47 fun z => hR z.2.2⟩
        · rintro σ H4 ⟨ls, a6, rfl, S4, hls4, hrp4, hm4, hlen4⟩
          have hcn := cnt_le ft.nodup ft.lt hti
          refine ⟨ls, _, _, _, _, rfl, S4, hls4, fun x => ?_, by rw [Nat.succ_mul]; exact Nat.le_trans hlen4 (Nat.add_le_add_left hcn _)⟩
          rw [hm4, List.take_add_one, htail]
          constructor
          · rintro (⟨tl, h, c, hc⟩ | ⟨c, _, hc⟩)
            · exact ⟨tl, List.mem_append_left _ h, c, hc⟩
            · exact ⟨tail, List.mem_append_right _ (by simp), c, hc⟩
          · rintro ⟨tl, h, c, hc⟩
            rcases List.mem_append.mp h with h | h
            · exact .inl ⟨tl, h, c, hc⟩
            · have e : tl = tail := by simpa using h
              subst e
              exact .inr ⟨c, hc.1.1, hc⟩
      · rintro σ H2 ⟨ls, a2, a4, a5, a6, rfl, S2, hls, hm, hlen⟩
        rw [List.length_map, pas.1] at hm hlen
        rw [List.take_length] at hm
        refine ⟨_, rfl, la, ls, _, _, _, _, _, rfl, S1.trans S2, hls, fun x => ?_, ?_⟩
        · rw [hm]
          constructor
          · rintro ⟨tail, ht, c, hc, rfl⟩
            obtain ⟨ft, hti⟩ := (hlots tail).mp ht
            exact ⟨.cons ft hc.1 hc.2.1 hc.2.2, by rw [List.length_cons, hti]⟩
          · rintro ⟨fx, hx⟩
            cases fx with
            | nil => cases hx
            | @cons c t ft h1 h2 h3 => exact ⟨t, (hlots t).mpr ⟨ft, by rw [List.length_cons] at hx; omega⟩, c, ⟨h1, h2, h3⟩, rfl⟩
        · show _ ≤ Fac ws.length i * (ws.length - i)
          exact Nat.le_trans hlen (Nat.mul_le_mul_right _ hsz)
    · rintro σ H1 ⟨fa, lots, a2, a3, a4, a5, a6, rfl, S1, ⟨as, hfa, pas⟩, hlots, hsz⟩
      refine ⟨_, rfl, fa, as.map V.ref, ws.length, ((6 : Nat) : Int), rfl, SqL.of hfa, ?_, fun x hx => ?_, fun ys p hp np => ?_⟩
      · rw [List.length_map, pas.1]
        rcases Nat.eq_zero_or_pos ws.length with e | e
        · rw [e] at hsz
          exact .inr (Nat.lt_of_le_of_lt hsz (by decide))
        · exact .inl e
      · obtain ⟨a, ha, rfl⟩ := List.mem_map.mp hx
        obtain ⟨lot, hl, r⟩ := prs_mem' pas ha
        obtain ⟨fl, e⟩ := (hlots lot).mp hl
        refine ⟨zs lot, ⟨a, rfl, SqT.of (by rw [iv_zs]; exact r)⟩, by unfold zs; rw [List.length_map, e], bd_zs fun n hn => ?_⟩
        have := fl.lt n hn
        omega
      · obtain ⟨bs, rfl, hbs⟩ := refs_perm hp
        obtain ⟨words, hw1, hw2, hw3⟩ := lots_perm pas hbs
        have u := same_upd (o := .lst (bs.map V.ref)) np
        refine q _ p words (S1.trans u) ⟨bs, upd_same, hw1.imp fun a b r => u _ _ r⟩ (fun x => (hw2 x).trans (hlots x)) ?_
        rw [hw3]
        exact Nat.le_trans hsz (fac_le _ (by omega) _ (by omega))
end
end W35P
end

section
set_option maxRecDepth 100000
set_option maxHeartbeats 16000000
/-! law -/
namespace W35P
open PySem PySem.Spec PyProof.Rows L2 W35 W35R
theorem YardAt.kp {H H' : Hp} {row y : Addr} {many : Nat} {ws : List Wl} {xs : List V} (k : Kp row H H') (hr : H row = some (.lst xs)) (h : YardAt H y many ws) : YardAt H' y many ws := by
  obtain ⟨wa, as, h1, h2, h3, h4⟩ := h
  have tk : ∀ {a : Addr} {zs : List V}, H a = some (.tup zs) → H' a = some (.tup zs) := fun {a zs} e => k a _ (fun z => by
    rw [z, hr] at e
    cases e) e
  exact ⟨wa, as, tk h1, tk h2, h3, fun i w e => let ⟨a, e1, e2⟩ := h4 i w e; ⟨a, e1, tk e2⟩⟩
theorem LotsAt.kp {K : PySem.W.Frag} {H H' : Hp} {row p : Addr} {lots : List (List Nat)} {ns : List Int} (k : Kp row H H') (hr : RowAt K H ns row) (h : LotsAt H p lots) : LotsAt H' p lots := by
  obtain ⟨as, h1, h2⟩ := h
  obtain ⟨sc, k', s', r', e1, _⟩ := hr
  have np : p ≠ row := fun z => by
    rw [z, e1] at h1
    have e := HO.lst.inj (Option.some.inj h1)
    cases as with
    | nil => cases e
    | cons a l =>
      cases l with
      | nil => cases e
      | cons b l => cases e
  refine ⟨as, k p _ np h1, h2.imp fun a b e => k a _ (fun z => ?_) e⟩
  have e' : H a = some (.tup (iv b)) := e
  rw [z, e1] at e'
  cases e'
theorem LotsAt.app {H : Hp} {p q : Addr} {as : List Addr} {lots : List (List Nat)} {x : List Nat} (h1 : H p = some (.lst (as.map V.ref))) (h2 : Prs (fun a lot => TupAt H a lot) as lots) (hx : TupAt H q x) :
    LotsAt (upd H p (.lst (as.map V.ref ++ [.ref q]))) p (lots ++ [x]) := by
  have tk : ∀ {a : Addr} {l : List Nat}, TupAt H a l → TupAt (upd H p (.lst (as.map V.ref ++ [.ref q]))) a l := fun {a l} e => by
    have e' : H a = some (.tup (iv l)) := e
    have n : a ≠ p := fun z => by
      rw [z, h1] at e'
      cases e'
    show upd _ p _ a = _
    rw [upd_ne n]
    exact e'
  refine ⟨as ++ [q], ?_, Prs.snoc (h2.imp fun a b e => tk e) (tk hx)⟩
  rw [List.map_append]
  exact upd_same
theorem full_perm {ws : List Wl} {x : List Nat} (f : Full ws x) : x.Perm (all ws) := by
  refine (List.perm_ext_iff_of_nodup f.1.nodup List.nodup_range).mpr fun a => ?_
  rw [List.mem_range]
  exact ⟨f.1.lt a, fun h => f.mem h⟩
theorem ctL_at {ws : List Wl} {many r : Nat} {x : List Nat} (h1 : 1 ≤ r) (h2 : r < many) : (iv (ctL ws many x))[r - 1]? = some (.int (cutL ws r x : Nat)) := by
  refine at_iv ?_
  unfold ctL
  rw [List.getElem?_map, List.getElem?_range (by omega)]
  show some (cutL ws (r - 1 + 1) x) = _
  rw [show r - 1 + 1 = r by omega]
theorem map_snoc {α β : Type} {f : α → β} {l : List α} {i : Nat} {x : α} (h : l[i]? = some x) : (l.take (i + 1)).map f = (l.take i).map f ++ [f x] := by
  rw [List.take_add_one, h, List.map_append]
  rfl
theorem strict_eq {l m : List Int} (h1 : l.Pairwise (· < ·)) (h2 : m.Pairwise (· < ·)) (h : ∀ x, x ∈ l ↔ x ∈ m) : l = m := by
  have p : l.Perm m := (List.perm_ext_iff_of_nodup (h1.imp fun x => Int.ne_of_lt x) (h2.imp fun x => Int.ne_of_lt x)).mpr h
  exact sorted_perm p (h1.imp Int.le_of_lt) (h2.imp Int.le_of_lt)
def rgI (a b : Int) : List Int := (List.range (b - a).toNat).map fun i => a + ((i : Nat) : Int)
theorem rgI_v (a b : Int) : (rgI a b).map V.int = rgV a b := by
  unfold rgI rgV
  rw [List.map_map]
  rfl
theorem rgI_lt (a b : Int) : (rgI a b).Pairwise (· < ·) := by
  unfold rgI
  rw [List.pairwise_map]
  exact List.pairwise_lt_range.imp fun h => by omega
theorem rgI_mem {a b k : Int} : k ∈ rgI a b ↔ a ≤ k ∧ k < b := by
  unfold rgI
  rw [List.mem_map]
  constructor
  · rintro ⟨i, hi, rfl⟩
    have := List.mem_range.mp hi
    omega
  · rintro ⟨h1, h2⟩
    exact ⟨(k - a).toNat, List.mem_range.mpr (by omega), by omega⟩
theorem zs_mem {l : List Nat} {k : Int} : k ∈ zs l ↔ ∃ n, n ∈ l ∧ k = (n : Int) := by
  unfold zs
  rw [List.mem_map]
  exact ⟨fun ⟨n, h, e⟩ => ⟨n, h, e.symm⟩, fun ⟨n, h, e⟩ => ⟨n, h, e.symm⟩⟩
section
variable {P : Program} {w : World} {K : PySem.W.Frag} {mg : Str → Option Value} {base : Heap}
abbrev sLaw : Stmt := topS 40
abbrev lcT1 : Expr := asgE (bodyAt sLaw 6)
abbrev lcT2 : Expr := asgE (bodyAt sLaw 7)
abbrev lcT3 : Expr := asgE (bodyAt sLaw 10)
abbrev nLaw : List Str := ["_law_script", "_law_row", "_law_yard_here", "_law_words_here", "_law_room", "_law_other", "_law_times", "_law_told", "_law_unlike", "_law_word", "_law_time"]
theorem scLaw : FnScope nLaw ["_law_script"] (defScope sLaw) := ⟨rfl, rfl, rfl, by decide +kernel, rfl, by decide +kernel, by decide +kernel⟩
theorem blT1 : BlkOk nLaw (defScope sLaw) (lcS lcT1) [("_law_word", 9)] := blkOk_by (by decide +kernel)
theorem blT2 : BlkOk nLaw (defScope sLaw) (lcS lcT2) [("_law_time", 10)] := blkOk_by (by decide +kernel)
theorem blT3 : BlkOk nLaw (defScope sLaw) (lcS lcT3) [("_law_time", 10)] := blkOk_by (by decide +kernel)
def spLaw (K : PySem.W.Frag) : Sp := fun vs H Q _ => ∃ (a : Addr) (ns : List Int), vs = [.ref a] ∧ ScAt K H a ns ∧ ∀ H', Q (.bl true) H'
theorem ok_law {f : Addr} {fd : FuncData} (F : Fun K "law" "law" sLaw f fd) (T : Gb mg) (cy : Cb P w K mg base 2 "_law_yard" (spLyard K)) (ct : Cb P w K mg base 1 "_law_taken" (spTaken K)) (cw : Cb P w K mg base 3 "_law_words" spLwords)
    (c1 : Cb P w K mg base 6 "least_cut" spLeast) (c2 : Cb P w K mg base 6 "greatest_cut" spGreat) (c3 : Cb P w K mg base 5 "cut_together" spTog) (c4 : Cb P w K mg base 5 "cut_times" spCutTimes)
    (c5 : Cb P w K mg base 2 "_law_alike" spAlikeL) (c6 : Cb P w K mg base 1 "_law_is" spLis) : FnOk P w K mg base CX0 7 f fd ["_law_script"] (spLaw K) := by
  refine F.ok scLaw (fun vs H Q E h => ?_) (fun cdv A outer s H vs Q E hr h => ?_)
  · obtain ⟨a, ns, rfl, _⟩ := h
    rfl
  · obtain ⟨a, ns, rfl, hS, q⟩ := h
    have nd := scLaw.nd
    have hu := hr.units
    refine ⟨_, pss_cons (ps_set (i := 1) nd rfl (.inl rfl) (pe_lst (pa_cons (pv 0) (pa_cons pe_int (pa_cons pe_int (pa_cons pe_int pa_nil))))))
      (pss_cons (ps_set (i := 2) nd rfl (.inr rfl) (pe_cb cy hr (pa_cons (pv 1) (pa_cons pe_int (pa_cons pe_int (pa_cons pe_int pa_nil))))))
      (pss_cons (ps_if (pt_cmpR op_eq (pe_ix ix_tup (pv 2) pe_int (fun _ _ => rfl)) pe_int (nomark _)) (pss_one (ps_ret pe_bl)) pss_nil)
      (pss_cons (ps_set (i := 3) nd rfl (.inl rfl) (pe_cb cw hr (pa_cons (pv 2) pa_nil)))
      (pss_cons (ps_asg (pe_tup (pa_cons (pe_op op_add pe_int (pe_cb ct hr (pa_cons (pv 1) (pa_cons (pe_op op_sub (pe_ix ix_tup (pv 2) pe_int (fun _ _ => rfl)) pe_int) pa_nil))))
          (pa_cons (pe_op op_add pe_int (pe_cb ct hr (pa_cons (pv 1) (pa_cons (pe_op op_sub (pe_ix ix_tup (pv 2) pe_int (fun _ _ => rfl)) pe_int) pa_nil)))) pa_nil)))
          (pg_tup rfl (pgs_cons (pg_name (i := 4) nd rfl (.inr rfl)) (pgs_cons (pg_name (i := 5) nd rfl (.inr rfl)) pgs_nil))))
      (pss_cons (ps_if (pt_cmpR (op_eq0 hu) (pv 3) (pe_lst pa_nil) (nomark _))
        (pss_cons (ps_if (pt_not (PW.pt (pw_and (pt_cmpR op_isN (pe_cb c1 hr (pa_cons (pv 2) (pa_cons (pv 4) pa_nil))) pe_non (nomark _)) (pw_and1 (pt_cmpR op_isN (pe_cb c2 hr (pa_cons (pv 2) (pa_cons (pv 4) pa_nil))) pe_non (nomark _)))))) pss_never pss_nil)
        (pss_one (ps_ret (pe_cmpR op_isN (pe_cb c3 hr (pa_cons (pv 2) (pa_cons (pv 4) (pa_cons (pv 5) pa_nil)))) pe_non (nomark _))))) pss_nil)
      (pss_cons (ps_setLc (i := 6) (own := [("_law_word", 9)]) (g := gName 9) (tt := tYes) rfl nd rfl rfl (sw_true rfl rfl rfl (by decide +kernel)) (pi_list (pv 3)) blT1
        (fun _ _ _ _ _ => pg_name (i := 9) nd rfl (Or.inl rfl)) (fun _ _ _ _ _ => pts_nil) (fun _ _ _ _ _ => pe_cb c4 hr (pa_cons (pv 2) (pa_cons (pv 9) pa_nil))))
      (pss_cons (ps_setLc (i := 7) (own := [("_law_time", 10)]) (g := gName 10) (tt := tYes) rfl nd rfl rfl (sw_true rfl rfl rfl (by decide +kernel)) (pi_list (pv 6)) blT2
        (fun _ _ _ _ _ => pg_name (i := 10) nd rfl (Or.inl rfl)) (fun _ _ _ _ _ => pts_nil) (fun _ _ _ _ _ => pe_ix (ixTK K) (pv 10) (pe_op op_sub (pv 4) pe_int) (fun _ _ => rfl)))
      (pss_cons (ps_if (pt_not (pt_val (pe_cb c5 hr (pa_cons (pe_lst (pa_cons (pe_cb c1 hr (pa_cons (pv 2) (pa_cons (pv 4) pa_nil))) (pa_cons (pe_cb c2 hr (pa_cons (pv 2) (pa_cons (pv 4) pa_nil))) pa_nil)))
          (pa_cons (pe_lst (pa_cons (pe_callB (cr_min rfl) (by rfl) T.min b_min (pa_cons (pv 7) pa_nil)) (pa_cons (pe_callB (cr_max rfl) (by rfl) T.max b_max (pa_cons (pv 7) pa_nil)) pa_nil))) pa_nil))))) pss_never pss_nil)
      (pss_cons (ps_if (pt_cmpR (op_neZ hu) (pe_callB (cr_sortedSet rfl) (by rfl) T.sorted b_sorted (pa_cons (pe_callTy (cr_setLI rfl) (by rfl) T.set b_set (pa_cons (pv 7) pa_nil)) pa_nil))
          (pe_listRg rfl (by rfl) T.list (prg_2 (by rfl) T.range (pe_callB (cr_min rfl) (by rfl) T.min b_min (pa_cons (pv 7) pa_nil)) (pe_op op_add (pe_callB (cr_max rfl) (by rfl) T.max b_max (pa_cons (pv 7) pa_nil)) pe_int))) (nomark _)) pss_never pss_nil)
      (pss_cons (ps_setLc (i := 8) (own := [("_law_time", 10)]) (g := gName 10) rfl nd rfl rfl (sw_true rfl rfl rfl (by decide +kernel)) (pi_list (pv 6)) blT3
        (fun _ _ _ _ _ => pg_name (i := 10) nd rfl (Or.inl rfl))
        (fun _ _ _ _ _ => pts_one (pt_cmpR op_ne (pe_ix (ixTK K) (pv 10) (pe_op op_sub (pv 4) pe_int) (fun _ _ => rfl)) (pe_ix (ixTK K) (pv 10) (pe_op op_sub (pv 5) pe_int) (fun _ _ => rfl)) (nomark _))) (fun _ _ _ _ _ => pv 10))
      (pss_one (ps_ret (pe_cb c6 hr (pa_cons (pe_cb c3 hr (pa_cons (pv 2) (pa_cons (pv 4) (pa_cons (pv 5) pa_nil)))) (pa_cons (pe_cmpR (op_eq0 hu) (pv 8) (pe_lst pa_nil) (nomark _)) pa_nil))))))))))))))), ?_⟩
    refine ⟨_, rfl, by show 4 ≤ sizeLine; decide, fun row nrow => ?_⟩
    have R0 : RowAt K (upd H row (.lst [.ref a, .int 0, .int 4735, .int 0])) ns row := ⟨a, 0, 4735, 0, upd_same, hS.put (NoFz.none nrow), by decide, ⟨by decide, by decide⟩, by decide⟩
    refine ⟨_, rfl, row, ns, rfl, R0, fun H1 y many ws K1 R1 hY1 ok => ?_⟩
    obtain ⟨wa, was, y1, y2, y3, y4⟩ := id hY1
    refine ⟨_, rfl, y, _, 0, .int many, rfl, rfl, SqT.of y1, atI_nat (j := 0) rfl, rfl, _, rfl, ?_⟩
    have e1 : decide (V.int (many : Int) = V.int 1) = decide (many = 1) := decide_eq_decide.mpr ⟨fun z => by have := V.int.inj z; omega, fun z => congrArg V.int (by omega)⟩
    show (if decide (V.int (many : Int) = V.int 1) = true then _ else _)
    rw [e1]
    by_cases hm1 : many = 1
    · rw [if_pos (decide_eq_true hm1)]
      exact q _
    rw [if_neg (by rw [decide_eq_false hm1]; exact Bool.false_ne_true)]
    have m1 := ok.1
    have m5 := ok.2.1
    have o3 := ok.2.2.1
    refine ⟨_, rfl, y, many, ws, rfl, hY1, ok, fun H2 wp words S2 hW2 hwF hwl => ?_⟩
    have R2 := R1.same S2
    have hY2 := hY1.same S2
    have em : ((many : Int) - 1) = ((many - 1 : Nat) : Int) := by omega
    refine ⟨_, rfl, _, rfl, y, _, 0, .int many, rfl, rfl, SqT.of (S2 _ _ y1), atI_nat (j := 0) rfl, _, _, rfl, rfl, row, many - 1, ns, ?_, by omega, by omega, R2, fun H3 v3 hv3 K3 R3 => ⟨_, _, rfl, rfl, ?_⟩⟩
    · show [V.ref row, V.int ((many : Int) - 1)] = _
      rw [em]
    obtain ⟨xs2, hrow2⟩ := R2.lst
    have hY3 := hY2.kp K3 hrow2
    have hW3 := LotsAt.kp K3 R2 hW2
    obtain ⟨_, _, z1, _⟩ := id hY3
    refine ⟨_, rfl, _, rfl, y, _, 0, .int many, rfl, rfl, SqT.of z1, atI_nat (j := 0) rfl, _, _, rfl, rfl, row, many - 1, ns, ?_, by omega, by omega, R3, fun H4 v4 hv4 K4 R4 => ⟨_, _, rfl, rfl, by show 2 ≤ sizeLine; decide, fun tp ntp => ?_⟩⟩
    · show [V.ref row, V.int ((many : Int) - 1)] = _
      rw [em]
    obtain ⟨xs3, hrow3⟩ := R3.lst
    have u4 := same_upd (o := .tup [.int (1 + (v3 : Int)), .int (1 + (v4 : Int))]) ntp
    have hY4 := (hY3.kp K4 hrow3).same u4
    have hW4 := (LotsAt.kp K4 R3 hW3).same u4
    obtain ⟨r, hr1, r1, rm⟩ : ∃ r : Nat, (1 + (v3 : Int)) = (r : Int) ∧ 1 ≤ r ∧ r < many := ⟨1 + v3, by omega, by omega, by omega⟩
    obtain ⟨t, ht1, t1, tm⟩ : ∃ t : Nat, (1 + (v4 : Int)) = (t : Int) ∧ 1 ≤ t ∧ t < many := ⟨1 + v4, by omega, by omega, by omega⟩
    refine ⟨tp, _, rfl, SqT.of upd_same, rfl, _, _, rfl, _, _, rfl, rfl, ?_⟩
    dsimp only
    rw [hr1, ht1]
    rw [hr1, ht1] at u4 hY4 hW4
    generalize upd H4 tp (.tup [.int (r : Int), .int (t : Int)]) = H5 at u4 hY4 hW4 ⊢
    clear hY1 hY2 hY3 hW2 hW3 y1 y2 y3 y4 z1 u4 ntp K4 K3 R4 R3 R2 K1 R1 R0 S2 hrow2 hrow3
    -- words == []
    refine ⟨_, rfl, by show 0 ≤ sizeLine; decide, fun e0 ne0 => ?_⟩
    have se := same_upd (o := .lst []) ne0
    obtain ⟨was, hwp, pws⟩ := id hW4
    refine ⟨wp, e0, _, rfl, rfl, SqL.of (se _ _ hwp), SqL.of upd_same, pl_refs (pws.imp fun a b r => se _ _ r), _, rfl, ?_⟩
    show (if (was.map V.ref).isEmpty = true then _ else _)
    have hY6 := hY4.same se
    have hW6 := hW4.same se
    generalize upd H5 e0 (.lst []) = H6 at hY6 hW6 ⊢
    cases hem : (was.map V.ref).isEmpty with
    | true =>
      have ew : words = [] := by
        have e : was = [] := by
          cases was with
          | nil => rfl
          | cons a l => cases hem
        exact List.eq_nil_of_length_eq_zero (by rw [← pws.1, e]; rfl)
      have ng : ¬ Growth ws (all ws) := fun g => by
        obtain ⟨x, fx⟩ := g.full
        have := (hwF x).mpr fx
        rw [ew] at this
        cases this
      refine iteT ?_
      refine ⟨_, rfl, _, rfl, y, many, ws, r, rfl, hY6, ok, r1, rm, fun H7 v S7 _ hv => ?_⟩
      have ev := hv ng
      subst ev
      refine ⟨rfl, _, rfl, iteT ⟨_, rfl, _, rfl, y, many, ws, r, rfl, hY6.same S7, ok, r1, rm, fun H8 v S8 _ hv => ?_⟩⟩
      have ev := hv ng
      subst ev
      refine ⟨rfl, _, rfl, iteF ?_⟩
      refine ⟨_, rfl, _, rfl, _, rfl, y, many, ws, r, t, rfl, hY6.same (S7.trans S8), ok, ⟨r1, rm⟩, ⟨t1, tm⟩, fun H9 v S9 _ hv => ?_⟩
      have ev := hv ng
      subst ev
      exact ⟨rfl, q _⟩
    | false =>
      obtain ⟨w0, hw0⟩ : ∃ x, x ∈ words := by
        cases e : words with
        | nil =>
          have : was = [] := List.eq_nil_of_length_eq_zero (by rw [pws.1, e]; rfl)
          rw [this] at hem
          cases hem
        | cons x l => exact ⟨x, List.mem_cons_self⟩
      have g : Growth ws (all ws) := ((hwF w0).mp hw0).growth
      refine iteF ?_
      obtain ⟨wad, hwp6, pws6⟩ := id hW6
      -- times
      refine ⟨_, rfl, wp, rfl, ⟨_, SqL.of hwp6⟩, fun D nD => ?_⟩
      refine lc_list (K := K) (a := wp) (xs := wad.map V.ref) (fun i H7 => Same H6 H7 ∧ LotsAt H7 D ((words.take i).map (ctL ws many))) ⟨same_upd nD, ⟨[], upd_same, Prs.nil⟩⟩ (fun i H7 _ p => SqL.of (p.1 _ _ hwp6)) ?_ ?_
      · rintro i x H7 hix ⟨S7, hD⟩
        obtain ⟨ta, hta, rfl⟩ := ref_at hix
        obtain ⟨word, hword, htup⟩ := pws6.back hta
        have hi : i < words.length := (List.getElem?_eq_some_iff.mp hword).1
        have fw := (hwF word).mp (List.mem_of_getElem? hword)
        obtain ⟨bs, hbs, pbs⟩ := id hD
        refine ⟨rfl, ⟨_, rfl, _, rfl, y, ta, many, ws, word, rfl, hY6.same S7, ok, S7 _ _ htup, full_perm fw, fun H8 cp S8 ncp hcp => ?_⟩⟩
        refine ⟨_, S8 _ _ hbs, small9 (by rw [List.length_map, pbs.1, List.length_map, List.length_take]; omega), samePut (S7.trans S8) nD, ?_⟩
        rw [map_snoc hword]
        exact LotsAt.app (S8 _ _ hbs) (pbs.imp fun a b r => S8 _ _ r) hcp
      · rintro H7 ⟨S7, hD⟩
        rw [List.length_map, pws6.1, List.take_length] at hD
        obtain ⟨tas, hD7, pts⟩ := id hD
        have etl : tas.length = words.length := by rw [pts.1, List.length_map]
        -- told
        refine ⟨_, rfl, D, rfl, ⟨_, SqL.of hD7⟩, fun D2 nD2 => ?_⟩
        refine lc_list (K := K) (a := D) (xs := tas.map V.ref) (fun i H8 => Same H7 H8 ∧ LstAt H8 D2 ((words.take i).map (cutL ws r))) ⟨same_upd nD2, upd_same⟩ (fun i H8 _ p => SqL.of (p.1 _ _ hD7)) ?_ ?_
        · rintro i x H8 hix ⟨S8, hD2⟩
          obtain ⟨ca, hca, rfl⟩ := ref_at hix
          obtain ⟨ct', hct, htup⟩ := pts.back hca
          rw [List.getElem?_map] at hct
          obtain ⟨word, hword, rfl⟩ : ∃ word, words[i]? = some word ∧ ct' = ctL ws many word := by
            cases e : words[i]? with
            | none => rw [e] at hct; cases hct
            | some x => rw [e] at hct; exact ⟨x, rfl, (Option.some.inj hct).symm⟩
          have hi : i < words.length := (List.getElem?_eq_some_iff.mp hword).1
          refine ⟨rfl, ⟨_, rfl, _, rfl, _, _, rfl, rfl, ca, _, (r : Int) - 1, .int (cutL ws r word : Nat), rfl, rfl, SqT.of (S8 _ _ htup), at_of (j := r - 1) (by omega) (ctL_at r1 rm), _, hD2, small9 (by rw [iv_len, List.length_map, List.length_take]; omega), samePut S8 nD2, ?_⟩⟩
          rw [map_snoc hword, app_iv]
          exact upd_same
        · rintro H8 ⟨S8, hD2⟩
          rw [List.length_map, etl, List.take_length] at hD2
          have hY8 := hY6.same (S7.trans S8)
          have hD8 := S8 _ _ hD7
          have pts8 : Prs (fun a lot => TupAt H8 a lot) tas (words.map (ctL ws many)) := pts.imp fun a b r => S8 _ _ r
          -- told holds the numbers of all words
          obtain ⟨td, etd⟩ : ∃ td, td = words.map (cutL ws r) := ⟨_, rfl⟩
          rw [← etd] at hD2
          have tdm : ∀ k, k ∈ td ↔ ∃ x, Full ws x ∧ cutL ws r x = k := fun k => by
            rw [etd, List.mem_map]
            exact ⟨fun ⟨x, hx, e⟩ => ⟨x, (hwF x).mp hx, e⟩, fun ⟨x, hx, e⟩ => ⟨x, (hwF x).mpr hx, e⟩⟩
          have tdl : td.length ≤ 720 := by rw [etd, List.length_map]; exact hwl
          have tdp : 0 < (zs td).length := by
            refine List.length_pos_of_mem (a := ((cutL ws r w0 : Nat) : Int)) (zs_mem.mpr ⟨_, (tdm _).mpr ⟨w0, (hwF w0).mp hw0, rfl⟩, rfl⟩)
          have hD2z : H8 D2 = some (.lst ((zs td).map V.int)) := by rw [iv_zs]; exact hD2
          clear hY6 hW6 hwp6 pws6 hD nD nD2 hD7 pts hW4 hY4 hwp pws S7 S8
          refine ⟨_, rfl, _, rfl, y, many, ws, r, rfl, hY8, ok, r1, rm, fun H9 v9 S9 h9 _ => ?_⟩
          obtain ⟨m, rfl, ⟨wm, fm, em'⟩, lm⟩ := h9 g
          refine ⟨_, rfl, _, rfl, y, many, ws, r, rfl, hY8.same S9, ok, r1, rm, fun H10 v10 S10 h10 _ => ?_⟩
          obtain ⟨M, rfl, ⟨wM, fM, eM⟩, lM⟩ := h10 g
          refine ⟨by show 2 ≤ sizeLine; decide, fun l1 nl1 => ?_⟩
          have u1 := same_upd (o := .lst [.int (m : Int), .int (M : Int)]) nl1
          have Sa := (S9.trans S10).trans u1
          refine ⟨_, rfl, D2, zs td, rfl, SqL.of (Sa _ _ hD2z), tdp, fun mn hmn hmin => ?_⟩
          refine ⟨_, rfl, D2, zs td, rfl, SqL.of (Sa _ _ hD2z), tdp, fun mx hmx hmax => ?_⟩
          refine ⟨by show 2 ≤ sizeLine; decide, fun l2 nl2 => ?_⟩
          have u2 := same_upd (o := .lst [.int mn, .int mx]) nl2
          have isMin : ∀ mn : Int, mn ∈ zs td → (∀ z, z ∈ zs td → mn ≤ z) → mn = (m : Int) := fun mn hmn hmin => by
            obtain ⟨k, hk, rfl⟩ := zs_mem.mp hmn
            obtain ⟨x, fx, rfl⟩ := (tdm k).mp hk
            have a1 := lm x fx
            have a2 := hmin _ (zs_mem.mpr ⟨m, (tdm m).mpr ⟨wm, fm, em'⟩, rfl⟩)
            omega
          have isMax : ∀ mx : Int, mx ∈ zs td → (∀ z, z ∈ zs td → z ≤ mx) → mx = (M : Int) := fun mx hmx hmax => by
            obtain ⟨k, hk, rfl⟩ := zs_mem.mp hmx
            obtain ⟨x, fx, rfl⟩ := (tdm k).mp hk
            have a1 := lM x fx
            have a2 := hmax _ (zs_mem.mpr ⟨M, (tdm M).mpr ⟨wM, fM, eM⟩, rfl⟩)
            omega
          have emn := isMin mn hmn hmin
          have emx := isMax mx hmx hmax
          refine ⟨l1, l2, m, M, mn, mx, rfl, u2 _ _ upd_same, upd_same, fun H13 S13 => ⟨_, rfl, ?_⟩⟩
          have S8' := (Sa.trans u2).trans S13
          rw [decide_eq_true (show (m : Int) = mn ∧ (M : Int) = mx from ⟨emn.symm, emx.symm⟩)]
          refine iteF ?_
          have hD13 := S8' _ _ hD2z
          refine ⟨_, rfl, D2, zs td, rgI 0 7, rfl, SqL.of hD13, by unfold zs; rw [List.length_map]; omega, fun z hz => ?_, fun p n hn np => ?_⟩
          · obtain ⟨k, hk, rfl⟩ := zs_mem.mp hz
            obtain ⟨x, fx, rfl⟩ := (tdm k).mp hk
            have := cutL_le (ws := ws) (r := r) x
            rw [fx.2] at this
            exact rgI_mem.mpr ⟨by omega, by omega⟩
          refine ⟨p, _, n, rfl, upd_same, Nat.lt_of_le_of_lt hn (by decide), fun sn p2 hsp hsm hsl np2 => ?_⟩
          have up := same_upd (o := SetO w p (fun j => decide (j ∈ zs td)) n) np
          have up2 := same_upd (o := .lst (sn.map V.int)) np2
          have hD15 := (up.trans up2) _ _ hD13
          refine ⟨_, rfl, D2, zs td, rfl, SqL.of hD15, tdp, fun mn' hmn' hmin' => ?_⟩
          refine ⟨_, rfl, D2, zs td, rfl, SqL.of hD15, tdp, fun mx' hmx' hmax' => ⟨_, _, rfl, rfl, _, _, rfl, rfl, ?_, fun p3 np3 => ?_⟩⟩
          · have b1 := isMin mn' hmn' hmin'
            have b2 := isMax mx' hmx' hmax'
            have b3 := cutL_le (ws := ws) (r := r) wM
            have b4 := lm wM fM
            rw [fM.2, eM] at b3
            rw [eM] at b4
            rw [b1, b2]
            exact RgOk.of_le (by omega) (by omega) (by omega) (by omega)
          have up3 := same_upd (o := .lst (rgV mn' (mx' + 1))) np3
          have esn : sn = rgI mn' (mx' + 1) := by
            refine strict_eq hsp (rgI_lt _ _) fun k => ?_
            rw [hsm, decide_eq_true_iff, rgI_mem]
            constructor
            · intro hk
              have b1 := hmin' k hk
              have b2 := hmax' k hk
              exact ⟨b1, by omega⟩
            · rintro ⟨k1, k2⟩
              have b1 := isMin mn' hmn' hmin'
              have b2 := isMax mx' hmx' hmax'
              obtain ⟨v, fv, ev⟩ := cut_between (r := r) (by omega) fM fm (c := k.toNat) (by omega) (by omega)
              exact zs_mem.mpr ⟨k.toNat, (tdm _).mpr ⟨v, fv, ev⟩, by omega⟩
          refine ⟨p2, p3, sn, rgI mn' (mx' + 1), rfl, rfl, SqL.of (up3 _ _ upd_same), SqL.of (by rw [rgI_v]; exact upd_same), _, rfl, ?_⟩
          rw [decide_eq_true esn]
          refine iteF ?_
          have S16 := ((S8'.trans up).trans up2).trans up3
          -- unlike
          refine ⟨_, rfl, D, rfl, ⟨_, SqL.of (S16 _ _ hD8)⟩, fun D3 nD3' => ?_⟩
          have nD3 := S16.free nD3'
          refine lc_list (K := K) (a := D) (xs := tas.map V.ref) (fun i H17 => Same H8 H17 ∧ ∃ bs : List Addr, H17 D3 = some (.lst (bs.map V.ref)) ∧ (∀ b, b ∈ bs → b ∈ tas) ∧ (bs = [] ↔ ∀ x, x ∈ words.take i → cutL ws r x = cutL ws t x) ∧ bs.length ≤ i)
            ⟨S16.trans (same_upd nD3'), [], upd_same, (fun b hb => by cases hb), ⟨(fun _ x hx => by simp at hx), fun _ => rfl⟩, Nat.le_refl 0⟩ (fun i H17 _ p => SqL.of (p.1 _ _ hD8)) ?_ ?_
          · rintro i x H17 hix ⟨S17, bs, hD3, hbs, hem3, hbl⟩
            obtain ⟨ca, hca, rfl⟩ := ref_at hix
            obtain ⟨ct', hct, htup⟩ := pts8.back hca
            rw [List.getElem?_map] at hct
            obtain ⟨word, hword, rfl⟩ : ∃ word, words[i]? = some word ∧ ct' = ctL ws many word := by
              cases e : words[i]? with
              | none => rw [e] at hct; cases hct
              | some x => rw [e] at hct; exact ⟨x, rfl, (Option.some.inj hct).symm⟩
            have hi : i < words.length := (List.getElem?_eq_some_iff.mp hword).1
            have htup17 := S17 _ _ htup
            refine ⟨rfl, _, rfl, _, rfl, _, _, rfl, rfl, ca, _, (r : Int) - 1, .int (cutL ws r word : Nat), rfl, rfl, SqT.of htup17, at_of (j := r - 1) (by omega) (ctL_at r1 rm), _, rfl, _, rfl, _, _, rfl, rfl, ca, _, (t : Int) - 1, .int (cutL ws t word : Nat), rfl, rfl, SqT.of htup17, at_of (j := t - 1) (by omega) (ctL_at t1 tm), rfl, _, rfl, ?_⟩
            have ed : decide (V.int (cutL ws r word : Nat) = V.int (cutL ws t word : Nat)) = decide (cutL ws r word = cutL ws t word) := decide_eq_decide.mpr ⟨fun z => by have := V.int.inj z; omega, fun z => by rw [z]⟩
            show (if (!decide (V.int (cutL ws r word : Nat) = V.int (cutL ws t word : Nat))) = true then _ else _)
            rw [ed]
            by_cases hc : cutL ws r word = cutL ws t word
            · rw [if_neg (by rw [decide_eq_true hc]; exact Bool.false_ne_true)]
              refine ⟨S17, bs, hD3, hbs, hem3.trans ⟨fun h x hx => ?_, fun h x hx => h x ?_⟩, by omega⟩
              · rw [List.take_add_one, hword] at hx
                rcases List.mem_append.mp hx with hx | hx
                · exact h x hx
                · have e : x = word := by simpa using hx
                  rw [e]
                  exact hc
              · rw [List.take_add_one]
                exact List.mem_append_left _ hx
            · rw [if_pos (by rw [decide_eq_false hc]; rfl)]
              refine ⟨_, rfl, _, hD3, small9 (by rw [List.length_map]; omega), samePut S17 nD3, bs ++ [ca], ?_, fun b hb => ?_, ⟨fun h => by simp at h, fun h => ?_⟩, by rw [List.length_append]; show bs.length + 1 ≤ _; omega⟩
              · rw [List.map_append]
                exact upd_same
              · rcases List.mem_append.mp hb with hb | hb
                · exact hbs b hb
                · rw [List.mem_singleton.mp hb]
                  exact List.mem_of_getElem? hca
              · refine absurd (h word ?_) hc
                rw [List.take_add_one, hword]
                exact List.mem_append_right _ (by simp)
          · rintro H17 ⟨S17, bs, hD3, hbs, hem3, hbl⟩
            rw [List.length_map, etl, List.take_length] at hem3
            refine ⟨_, rfl, _, rfl, _, rfl, y, many, ws, r, t, rfl, hY8.same S17, ok, ⟨r1, rm⟩, ⟨t1, tm⟩, fun H18 v18 S18 h18 _ => ?_⟩
            obtain ⟨b, rfl, hb⟩ := h18 g
            refine ⟨_, rfl, by show 0 ≤ sizeLine; decide, fun e1 ne1 => ?_⟩
            have ue := same_upd (o := .lst []) ne1
            refine ⟨D3, e1, _, rfl, rfl, SqL.of (ue _ _ (S18 _ _ hD3)), SqL.of upd_same, (fun z hz => ?_), b, (bs.map V.ref).isEmpty, rfl, ?_⟩
            · obtain ⟨c, hc, rfl⟩ := List.mem_map.mp hz
              obtain ⟨lot, _, hl⟩ := prs_mem' pts8 (hbs c hc)
              exact .inr ⟨c, zs lot, rfl, SqT.of (by rw [iv_zs]; exact ue _ _ (S18 _ _ (S17 _ _ hl)))⟩
            · have eb : b = (bs.map V.ref).isEmpty := by
                rw [Bool.eq_iff_iff, hb, List.isEmpty_iff, List.map_eq_nil_iff, hem3]
                exact ⟨fun h x hx => h x ((hwF x).mp hx), fun h x fx => h x ((hwF x).mpr fx)⟩
              rw [decide_eq_true eb]
              exact q _
end
end W35P
end

section
set_option maxRecDepth 100000
set_option maxHeartbeats 16000000
/-! every def by its facts -/
namespace W35P
open PySem PySem.Spec PyProof.Rows L2 W35 W35R
theorem df_mk {K : PySem.W.Frag} {h : Heap} {mg : Str → Option Value} {x : Str} {st : Stmt} {ps : List Str} (X : K.In h) (G : h.Ns mainGlobals mg) {f : Addr} {oc : Value} {od an : Option Addr} {sl : Array (Option Value)} {kV dc pm cd ct : Value}
    (a : PySem.W.nsIn K mainGlobals x = some (some (.ref f))) (l : K.lookup f = some ⟨oc, od, .func (PySem.W.fnOf x x (defArgs st) (defBody st) (defScope st) .none kV dc pm an cd ct), sl⟩) (c : PySem.W.codeIn K cd x = true) (k : PySem.W.keepIn K (.ref f) = true)
    (b : ∀ (kV doc pm : Value) (an : Option Addr) (cdv ct : Value) (us : List Value), us.length = ps.length → bindArgs (PySem.W.fnOf x x (defArgs st) (defBody st) (defScope st) .none kV doc pm an cdv ct) ⟨us, []⟩ = pure (ps.zip us)) : Df K mg x st ps :=
  ⟨⟨f, _, fun_mk l c k, PySem.W.mg_of X G a, (fun_mk l c k).binds b⟩⟩
theorem all_mk {l : PySem.W.OpenLaw} {w : World} {K : PySem.W.Frag} {h : Heap} {mg : Str → Option Value} {fa : Addr} (X : K.In h) (G : h.Ns mainGlobals mg) (hfa : mg "law" = some (.ref fa))
    {f1 f2 f3 f4 f5 f6 f7 f8 f9 f10 f11 f12 f13 f14 f15 f16 f17 f18 f19 f20 f21 f22 f23 f24 f25 f26 f27 f28 f29 : Addr} {od1 an1 od2 an2 od3 an3 od4 an4 od5 an5 od6 an6 od7 an7 od8 an8 od9 an9 od10 an10 od11 an11 od12 an12 od13 an13 od14 an14 od15 an15 od16 an16 od17 an17 od18 an18 od19 an19 od20 an20 od21 an21 od22 an22 od23 an23 od24 an24 od25 an25 od26 an26 od27 an27 od28 an28 od29 an29 : Option Addr} {sl1 sl2 sl3 sl4 sl5 sl6 sl7 sl8 sl9 sl10 sl11 sl12 sl13 sl14 sl15 sl16 sl17 sl18 sl19 sl20 sl21 sl22 sl23 sl24 sl25 sl26 sl27 sl28 sl29 : Array (Option Value)} {oc1 kV1 dc1 pm1 cd1 ct1 oc2 kV2 dc2 pm2 cd2 ct2 oc3 kV3 dc3 pm3 cd3 ct3 oc4 kV4 dc4 pm4 cd4 ct4 oc5 kV5 dc5 pm5 cd5 ct5 oc6 kV6 dc6 pm6 cd6 ct6 oc7 kV7 dc7 pm7 cd7 ct7 oc8 kV8 dc8 pm8 cd8 ct8 oc9 kV9 dc9 pm9 cd9 ct9 oc10 kV10 dc10 pm10 cd10 ct10 oc11 kV11 dc11 pm11 cd11 ct11 oc12 kV12 dc12 pm12 cd12 ct12 oc13 kV13 dc13 pm13 cd13 ct13 oc14 kV14 dc14 pm14 cd14 ct14 oc15 kV15 dc15 pm15 cd15 ct15 oc16 kV16 dc16 pm16 cd16 ct16 oc17 kV17 dc17 pm17 cd17 ct17 oc18 kV18 dc18 pm18 cd18 ct18 oc19 kV19 dc19 pm19 cd19 ct19 oc20 kV20 dc20 pm20 cd20 ct20 oc21 kV21 dc21 pm21 cd21 ct21 oc22 kV22 dc22 pm22 cd22 ct22 oc23 kV23 dc23 pm23 cd23 ct23 oc24 kV24 dc24 pm24 cd24 ct24 oc25 kV25 dc25 pm25 cd25 ct25 oc26 kV26 dc26 pm26 cd26 ct26 oc27 kV27 dc27 pm27 cd27 ct27 oc28 kV28 dc28 pm28 cd28 ct28 oc29 kV29 dc29 pm29 cd29 ct29 : Value}
    (a1 : PySem.W.nsIn K mainGlobals "is_int" = some (some (.ref f1))) (l1 : K.lookup f1 = some ⟨oc1, od1, .func (PySem.W.fnOf "is_int" "is_int" (defArgs sIsInt) (defBody sIsInt) (defScope sIsInt) .none kV1 dc1 pm1 an1 cd1 ct1), sl1⟩) (c1 : PySem.W.codeIn K cd1 "is_int" = true) (k1 : PySem.W.keepIn K (.ref f1) = true)
    (a2 : PySem.W.nsIn K mainGlobals "is_from" = some (some (.ref f2))) (l2 : K.lookup f2 = some ⟨oc2, od2, .func (PySem.W.fnOf "is_from" "is_from" (defArgs sIsFrom) (defBody sIsFrom) (defScope sIsFrom) .none kV2 dc2 pm2 an2 cd2 ct2), sl2⟩) (c2 : PySem.W.codeIn K cd2 "is_from" = true) (k2 : PySem.W.keepIn K (.ref f2) = true)
    (a3 : PySem.W.nsIn K mainGlobals "is_wall" = some (some (.ref f3))) (l3 : K.lookup f3 = some ⟨oc3, od3, .func (PySem.W.fnOf "is_wall" "is_wall" (defArgs sIsWall) (defBody sIsWall) (defScope sIsWall) .none kV3 dc3 pm3 an3 cd3 ct3), sl3⟩) (c3 : PySem.W.codeIn K cd3 "is_wall" = true) (k3 : PySem.W.keepIn K (.ref f3) = true)
    (a4 : PySem.W.nsIn K mainGlobals "need_yard" = some (some (.ref f4))) (l4 : K.lookup f4 = some ⟨oc4, od4, .func (PySem.W.fnOf "need_yard" "need_yard" (defArgs sNeedYard) (defBody sNeedYard) (defScope sNeedYard) .none kV4 dc4 pm4 an4 cd4 ct4), sl4⟩) (c4 : PySem.W.codeIn K cd4 "need_yard" = true) (k4 : PySem.W.keepIn K (.ref f4) = true)
    (a5 : PySem.W.nsIn K mainGlobals "need_room" = some (some (.ref f5))) (l5 : K.lookup f5 = some ⟨oc5, od5, .func (PySem.W.fnOf "need_room" "need_room" (defArgs sNeedRoom) (defBody sNeedRoom) (defScope sNeedRoom) .none kV5 dc5 pm5 an5 cd5 ct5), sl5⟩) (c5 : PySem.W.codeIn K cd5 "need_room" = true) (k5 : PySem.W.keepIn K (.ref f5) = true)
    (a6 : PySem.W.nsIn K mainGlobals "sides_of" = some (some (.ref f6))) (l6 : K.lookup f6 = some ⟨oc6, od6, .func (PySem.W.fnOf "sides_of" "sides_of" (defArgs sSides) (defBody sSides) (defScope sSides) .none kV6 dc6 pm6 an6 cd6 ct6), sl6⟩) (c6 : PySem.W.codeIn K cd6 "sides_of" = true) (k6 : PySem.W.keepIn K (.ref f6) = true)
    (a7 : PySem.W.nsIn K mainGlobals "every" = some (some (.ref f7))) (l7 : K.lookup f7 = some ⟨oc7, od7, .func (PySem.W.fnOf "every" "every" (defArgs sEvery) (defBody sEvery) (defScope sEvery) .none kV7 dc7 pm7 an7 cd7 ct7), sl7⟩) (c7 : PySem.W.codeIn K cd7 "every" = true) (k7 : PySem.W.keepIn K (.ref f7) = true)
    (a8 : PySem.W.nsIn K mainGlobals "reached" = some (some (.ref f8))) (l8 : K.lookup f8 = some ⟨oc8, od8, .func (PySem.W.fnOf "reached" "reached" (defArgs sReached) (defBody sReached) (defScope sReached) .none kV8 dc8 pm8 an8 cd8 ct8), sl8⟩) (c8 : PySem.W.codeIn K cd8 "reached" = true) (k8 : PySem.W.keepIn K (.ref f8) = true)
    (a9 : PySem.W.nsIn K mainGlobals "joined" = some (some (.ref f9))) (l9 : K.lookup f9 = some ⟨oc9, od9, .func (PySem.W.fnOf "joined" "joined" (defArgs sJoined) (defBody sJoined) (defScope sJoined) .none kV9 dc9 pm9 an9 cd9 ct9), sl9⟩) (c9 : PySem.W.codeIn K cd9 "joined" = true) (k9 : PySem.W.keepIn K (.ref f9) = true)
    (a10 : PySem.W.nsIn K mainGlobals "rest_of" = some (some (.ref f10))) (l10 : K.lookup f10 = some ⟨oc10, od10, .func (PySem.W.fnOf "rest_of" "rest_of" (defArgs sRest) (defBody sRest) (defScope sRest) .none kV10 dc10 pm10 an10 cd10 ct10), sl10⟩) (c10 : PySem.W.codeIn K cd10 "rest_of" = true) (k10 : PySem.W.keepIn K (.ref f10) = true)
    (a11 : PySem.W.nsIn K mainGlobals "need_order" = some (some (.ref f11))) (l11 : K.lookup f11 = some ⟨oc11, od11, .func (PySem.W.fnOf "need_order" "need_order" (defArgs sNeedOrder) (defBody sNeedOrder) (defScope sNeedOrder) .none kV11 dc11 pm11 an11 cd11 ct11), sl11⟩) (c11 : PySem.W.codeIn K cd11 "need_order" = true) (k11 : PySem.W.keepIn K (.ref f11) = true)
    (a12 : PySem.W.nsIn K mainGlobals "is_growth" = some (some (.ref f12))) (l12 : K.lookup f12 = some ⟨oc12, od12, .func (PySem.W.fnOf "is_growth" "is_growth" (defArgs sGrowth) (defBody sGrowth) (defScope sGrowth) .none kV12 dc12 pm12 an12 cd12 ct12), sl12⟩) (c12 : PySem.W.codeIn K cd12 "is_growth" = true) (k12 : PySem.W.keepIn K (.ref f12) = true)
    (a13 : PySem.W.nsIn K mainGlobals "can_come_of" = some (some (.ref f13))) (l13 : K.lookup f13 = some ⟨oc13, od13, .func (PySem.W.fnOf "can_come_of" "can_come_of" (defArgs sCan) (defBody sCan) (defScope sCan) .none kV13 dc13 pm13 an13 cd13 ct13), sl13⟩) (c13 : PySem.W.codeIn K cd13 "can_come_of" = true) (k13 : PySem.W.keepIn K (.ref f13) = true)
    (a14 : PySem.W.nsIn K mainGlobals "layers_of" = some (some (.ref f14))) (l14 : K.lookup f14 = some ⟨oc14, od14, .func (PySem.W.fnOf "layers_of" "layers_of" (defArgs sLayers) (defBody sLayers) (defScope sLayers) .none kV14 dc14 pm14 an14 cd14 ct14), sl14⟩) (c14 : PySem.W.codeIn K cd14 "layers_of" = true) (k14 : PySem.W.keepIn K (.ref f14) = true)
    (a15 : PySem.W.nsIn K mainGlobals "need_inner" = some (some (.ref f15))) (l15 : K.lookup f15 = some ⟨oc15, od15, .func (PySem.W.fnOf "need_inner" "need_inner" (defArgs sNeedInner) (defBody sNeedInner) (defScope sNeedInner) .none kV15 dc15 pm15 an15 cd15 ct15), sl15⟩) (c15 : PySem.W.codeIn K cd15 "need_inner" = true) (k15 : PySem.W.keepIn K (.ref f15) = true)
    (a16 : PySem.W.nsIn K mainGlobals "cut_time" = some (some (.ref f16))) (l16 : K.lookup f16 = some ⟨oc16, od16, .func (PySem.W.fnOf "cut_time" "cut_time" (defArgs sCutTime) (defBody sCutTime) (defScope sCutTime) .none kV16 dc16 pm16 an16 cd16 ct16), sl16⟩) (c16 : PySem.W.codeIn K cd16 "cut_time" = true) (k16 : PySem.W.keepIn K (.ref f16) = true)
    (a17 : PySem.W.nsIn K mainGlobals "cut_times" = some (some (.ref f17))) (l17 : K.lookup f17 = some ⟨oc17, od17, .func (PySem.W.fnOf "cut_times" "cut_times" (defArgs sCutTimes) (defBody sCutTimes) (defScope sCutTimes) .none kV17 dc17 pm17 an17 cd17 ct17), sl17⟩) (c17 : PySem.W.codeIn K cd17 "cut_times" = true) (k17 : PySem.W.keepIn K (.ref f17) = true)
    (a18 : PySem.W.nsIn K mainGlobals "lots_joining" = some (some (.ref f18))) (l18 : K.lookup f18 = some ⟨oc18, od18, .func (PySem.W.fnOf "lots_joining" "lots_joining" (defArgs sJoining) (defBody sJoining) (defScope sJoining) .none kV18 dc18 pm18 an18 cd18 ct18), sl18⟩) (c18 : PySem.W.codeIn K cd18 "lots_joining" = true) (k18 : PySem.W.keepIn K (.ref f18) = true)
    (a19 : PySem.W.nsIn K mainGlobals "least_cut" = some (some (.ref f19))) (l19 : K.lookup f19 = some ⟨oc19, od19, .func (PySem.W.fnOf "least_cut" "least_cut" (defArgs sLeast) (defBody sLeast) (defScope sLeast) .none kV19 dc19 pm19 an19 cd19 ct19), sl19⟩) (c19 : PySem.W.codeIn K cd19 "least_cut" = true) (k19 : PySem.W.keepIn K (.ref f19) = true)
    (a20 : PySem.W.nsIn K mainGlobals "greatest_cut" = some (some (.ref f20))) (l20 : K.lookup f20 = some ⟨oc20, od20, .func (PySem.W.fnOf "greatest_cut" "greatest_cut" (defArgs sGreat) (defBody sGreat) (defScope sGreat) .none kV20 dc20 pm20 an20 cd20 ct20), sl20⟩) (c20 : PySem.W.codeIn K cd20 "greatest_cut" = true) (k20 : PySem.W.keepIn K (.ref f20) = true)
    (a21 : PySem.W.nsIn K mainGlobals "cut_together" = some (some (.ref f21))) (l21 : K.lookup f21 = some ⟨oc21, od21, .func (PySem.W.fnOf "cut_together" "cut_together" (defArgs sTog) (defBody sTog) (defScope sTog) .none kV21 dc21 pm21 an21 cd21 ct21), sl21⟩) (c21 : PySem.W.codeIn K cd21 "cut_together" = true) (k21 : PySem.W.keepIn K (.ref f21) = true)
    (a22 : PySem.W.nsIn K mainGlobals "_law_taken" = some (some (.ref f22))) (l22 : K.lookup f22 = some ⟨oc22, od22, .func (PySem.W.fnOf "_law_taken" "_law_taken" (defArgs sTaken) (defBody sTaken) (defScope sTaken) .none kV22 dc22 pm22 an22 cd22 ct22), sl22⟩) (c22 : PySem.W.codeIn K cd22 "_law_taken" = true) (k22 : PySem.W.keepIn K (.ref f22) = true)
    (a23 : PySem.W.nsIn K mainGlobals "_law_alike" = some (some (.ref f23))) (l23 : K.lookup f23 = some ⟨oc23, od23, .func (PySem.W.fnOf "_law_alike" "_law_alike" (defArgs sAlike) (defBody sAlike) (defScope sAlike) .none kV23 dc23 pm23 an23 cd23 ct23), sl23⟩) (c23 : PySem.W.codeIn K cd23 "_law_alike" = true) (k23 : PySem.W.keepIn K (.ref f23) = true)
    (a24 : PySem.W.nsIn K mainGlobals "_law_is" = some (some (.ref f24))) (l24 : K.lookup f24 = some ⟨oc24, od24, .func (PySem.W.fnOf "_law_is" "_law_is" (defArgs sLis) (defBody sLis) (defScope sLis) .none kV24 dc24 pm24 an24 cd24 ct24), sl24⟩) (c24 : PySem.W.codeIn K cd24 "_law_is" = true) (k24 : PySem.W.keepIn K (.ref f24) = true)
    (a25 : PySem.W.nsIn K mainGlobals "_law_yard" = some (some (.ref f25))) (l25 : K.lookup f25 = some ⟨oc25, od25, .func (PySem.W.fnOf "_law_yard" "_law_yard" (defArgs sLyard) (defBody sLyard) (defScope sLyard) .none kV25 dc25 pm25 an25 cd25 ct25), sl25⟩) (c25 : PySem.W.codeIn K cd25 "_law_yard" = true) (k25 : PySem.W.keepIn K (.ref f25) = true)
    (a26 : PySem.W.nsIn K mainGlobals "_law_sides" = some (some (.ref f26))) (l26 : K.lookup f26 = some ⟨oc26, od26, .func (PySem.W.fnOf "_law_sides" "_law_sides" (defArgs sLsides) (defBody sLsides) (defScope sLsides) .none kV26 dc26 pm26 an26 cd26 ct26), sl26⟩) (c26 : PySem.W.codeIn K cd26 "_law_sides" = true) (k26 : PySem.W.keepIn K (.ref f26) = true)
    (a27 : PySem.W.nsIn K mainGlobals "_law_come" = some (some (.ref f27))) (l27 : K.lookup f27 = some ⟨oc27, od27, .func (PySem.W.fnOf "_law_come" "_law_come" (defArgs sLcome) (defBody sLcome) (defScope sLcome) .none kV27 dc27 pm27 an27 cd27 ct27), sl27⟩) (c27 : PySem.W.codeIn K cd27 "_law_come" = true) (k27 : PySem.W.keepIn K (.ref f27) = true)
    (a28 : PySem.W.nsIn K mainGlobals "_law_words" = some (some (.ref f28))) (l28 : K.lookup f28 = some ⟨oc28, od28, .func (PySem.W.fnOf "_law_words" "_law_words" (defArgs sLwords) (defBody sLwords) (defScope sLwords) .none kV28 dc28 pm28 an28 cd28 ct28), sl28⟩) (c28 : PySem.W.codeIn K cd28 "_law_words" = true) (k28 : PySem.W.keepIn K (.ref f28) = true)
    (a29 : PySem.W.nsIn K mainGlobals "law" = some (some (.ref f29))) (l29 : K.lookup f29 = some ⟨oc29, od29, .func (PySem.W.fnOf "law" "law" (defArgs sLaw) (defBody sLaw) (defScope sLaw) .none kV29 dc29 pm29 an29 cd29 ct29), sl29⟩) (c29 : PySem.W.codeIn K cd29 "law" = true) (k29 : PySem.W.keepIn K (.ref f29) = true)
    (z1 : PySem.W.nsIn K mainGlobals "isinstance" = some none)
    (z2 : PySem.W.nsIn K mainGlobals "int" = some none)
    (z3 : PySem.W.nsIn K mainGlobals "bool" = some none)
    (z4 : PySem.W.nsIn K mainGlobals "tuple" = some none)
    (z5 : PySem.W.nsIn K mainGlobals "list" = some none)
    (z6 : PySem.W.nsIn K mainGlobals "str" = some none)
    (z7 : PySem.W.nsIn K mainGlobals "len" = some none)
    (z8 : PySem.W.nsIn K mainGlobals "range" = some none)
    (z9 : PySem.W.nsIn K mainGlobals "enumerate" = some none)
    (z10 : PySem.W.nsIn K mainGlobals "sorted" = some none)
    (z11 : PySem.W.nsIn K mainGlobals "any" = some none)
    (z12 : PySem.W.nsIn K mainGlobals "all" = some none)
    (z13 : PySem.W.nsIn K mainGlobals "max" = some none)
    (z14 : PySem.W.nsIn K mainGlobals "min" = some none)
    (z15 : PySem.W.nsIn K mainGlobals "set" = some none)
    {tr tw : Tok} (zr : PySem.W.nsIn K mainGlobals "MOST_ROOMS" = some (some (.int 9 tr))) (zw : PySem.W.nsIn K mainGlobals "MOST_WALLS" = some (some (.int 12 tw))) :
    ∃ fd : FuncData, (∀ (s : Shared) (v : Value), BindsTo s fd ⟨[v], []⟩ [("_law_script", v)]) ∧ ∀ base : Heap, K.In base → base.Ns mainGlobals mg → FnOk l.prog w K mg base CX0 7 fa fd ["_law_script"] (spLaw K) := by
  have e := hfa.symm.trans (PySem.W.mg_of X G a29)
  cases e
  have T : Gb mg := ⟨PySem.W.mg_none_of X G z1, PySem.W.mg_none_of X G z2, PySem.W.mg_none_of X G z3, PySem.W.mg_none_of X G z4, PySem.W.mg_none_of X G z5, PySem.W.mg_none_of X G z6, PySem.W.mg_none_of X G z7, PySem.W.mg_none_of X G z8, PySem.W.mg_none_of X G z9, PySem.W.mg_none_of X G z10, PySem.W.mg_none_of X G z11, PySem.W.mg_none_of X G z12, PySem.W.mg_none_of X G z13, PySem.W.mg_none_of X G z14, PySem.W.mg_none_of X G z15, ⟨_, PySem.W.mg_of X G zr⟩, ⟨_, PySem.W.mg_of X G zw⟩⟩
  have D1 : Df K mg "is_int" sIsInt ["value"] := df_mk X G a1 l1 c1 k1 fun _ _ _ _ _ _ us hl => match us, hl with | [_], _ => rfl
  have D2 : Df K mg "is_from" sIsFrom ["value", "least", "most"] := df_mk X G a2 l2 c2 k2 fun _ _ _ _ _ _ us hl => match us, hl with | [_, _, _], _ => rfl
  have D3 : Df K mg "is_wall" sIsWall ["value", "many"] := df_mk X G a3 l3 c3 k3 fun _ _ _ _ _ _ us hl => match us, hl with | [_, _], _ => rfl
  have D4 : Df K mg "need_yard" sNeedYard ["value"] := df_mk X G a4 l4 c4 k4 fun _ _ _ _ _ _ us hl => match us, hl with | [_], _ => rfl
  have D5 : Df K mg "need_room" sNeedRoom ["yard", "value"] := df_mk X G a5 l5 c5 k5 fun _ _ _ _ _ _ us hl => match us, hl with | [_, _], _ => rfl
  have D6 : Df K mg "sides_of" sSides ["wall"] := df_mk X G a6 l6 c6 k6 fun _ _ _ _ _ _ us hl => match us, hl with | [_], _ => rfl
  have D7 : Df K mg "every" sEvery ["yard"] := df_mk X G a7 l7 c7 k7 fun _ _ _ _ _ _ us hl => match us, hl with | [_], _ => rfl
  have D8 : Df K mg "reached" sReached ["yard", "lot"] := df_mk X G a8 l8 c8 k8 fun _ _ _ _ _ _ us hl => match us, hl with | [_, _], _ => rfl
  have D9 : Df K mg "joined" sJoined ["yard", "lot"] := df_mk X G a9 l9 c9 k9 fun _ _ _ _ _ _ us hl => match us, hl with | [_, _], _ => rfl
  have D10 : Df K mg "rest_of" sRest ["yard", "lot"] := df_mk X G a10 l10 c10 k10 fun _ _ _ _ _ _ us hl => match us, hl with | [_, _], _ => rfl
  have D11 : Df K mg "need_order" sNeedOrder ["yard", "value"] := df_mk X G a11 l11 c11 k11 fun _ _ _ _ _ _ us hl => match us, hl with | [_, _], _ => rfl
  have D12 : Df K mg "is_growth" sGrowth ["yard", "lot"] := df_mk X G a12 l12 c12 k12 fun _ _ _ _ _ _ us hl => match us, hl with | [_, _], _ => rfl
  have D13 : Df K mg "can_come_of" sCan ["yard", "lot"] := df_mk X G a13 l13 c13 k13 fun _ _ _ _ _ _ us hl => match us, hl with | [_, _], _ => rfl
  have D14 : Df K mg "layers_of" sLayers ["yard"] := df_mk X G a14 l14 c14 k14 fun _ _ _ _ _ _ us hl => match us, hl with | [_], _ => rfl
  have D15 : Df K mg "need_inner" sNeedInner ["yard", "value"] := df_mk X G a15 l15 c15 k15 fun _ _ _ _ _ _ us hl => match us, hl with | [_, _], _ => rfl
  have D16 : Df K mg "cut_time" sCutTime ["yard", "order", "room"] := df_mk X G a16 l16 c16 k16 fun _ _ _ _ _ _ us hl => match us, hl with | [_, _, _], _ => rfl
  have D17 : Df K mg "cut_times" sCutTimes ["yard", "order"] := df_mk X G a17 l17 c17 k17 fun _ _ _ _ _ _ us hl => match us, hl with | [_, _], _ => rfl
  have D18 : Df K mg "lots_joining" sJoining ["yard", "room"] := df_mk X G a18 l18 c18 k18 fun _ _ _ _ _ _ us hl => match us, hl with | [_, _], _ => rfl
  have D19 : Df K mg "least_cut" sLeast ["yard", "room"] := df_mk X G a19 l19 c19 k19 fun _ _ _ _ _ _ us hl => match us, hl with | [_, _], _ => rfl
  have D20 : Df K mg "greatest_cut" sGreat ["yard", "room"] := df_mk X G a20 l20 c20 k20 fun _ _ _ _ _ _ us hl => match us, hl with | [_, _], _ => rfl
  have D21 : Df K mg "cut_together" sTog ["yard", "one", "other"] := df_mk X G a21 l21 c21 k21 fun _ _ _ _ _ _ us hl => match us, hl with | [_, _, _], _ => rfl
  have D22 : Df K mg "_law_taken" sTaken ["_law_row", "_law_many"] := df_mk X G a22 l22 c22 k22 fun _ _ _ _ _ _ us hl => match us, hl with | [_, _], _ => rfl
  have D23 : Df K mg "_law_alike" sAlike ["_law_found", "_law_due"] := df_mk X G a23 l23 c23 k23 fun _ _ _ _ _ _ us hl => match us, hl with | [_, _], _ => rfl
  have D24 : Df K mg "_law_is" sLis ["_law_found", "_law_due"] := df_mk X G a24 l24 c24 k24 fun _ _ _ _ _ _ us hl => match us, hl with | [_, _], _ => rfl
  have D25 : Df K mg "_law_yard" sLyard ["_law_row", "_law_rooms", "_law_shuts", "_law_either"] := df_mk X G a25 l25 c25 k25 fun _ _ _ _ _ _ us hl => match us, hl with | [_, _, _, _], _ => rfl
  have D26 : Df K mg "_law_sides" sLsides ["_law_shut"] := df_mk X G a26 l26 c26 k26 fun _ _ _ _ _ _ us hl => match us, hl with | [_], _ => rfl
  have D27 : Df K mg "_law_come" sLcome ["_law_yard_here", "_law_lot"] := df_mk X G a27 l27 c27 k27 fun _ _ _ _ _ _ us hl => match us, hl with | [_, _], _ => rfl
  have D28 : Df K mg "_law_words" sLwords ["_law_yard_here"] := df_mk X G a28 l28 c28 k28 fun _ _ _ _ _ _ us hl => match us, hl with | [_], _ => rfl
  have F := fun_mk (st := sLaw) l29 c29 k29
  refine ⟨PySem.W.fnOf "law" "law" (defArgs sLaw) (defBody sLaw) (defScope sLaw) .none kV29 dc29 pm29 an29 cd29 ct29, fun s v => .of_eq rfl, fun base _ _ => ?_⟩
  have C1 : Cb l.prog w K mg base 1 "is_int" spIsInt := cb_is_int D1 T
  have C2 : Cb l.prog w K mg base 2 "is_from" spIsFrom := cb_is_from D2 C1
  have C3 : Cb l.prog w K mg base 3 "is_wall" spIsWall := cb_is_wall D3 T C2
  have C6 : Cb l.prog w K mg base 1 "sides_of" spSides := cb_sides D6
  have C7 : Cb l.prog w K mg base 1 "every" spEvery := cb_every D7 T
  have C5 : Cb l.prog w K mg base 3 "need_room" spNeedRoom := cb_need_room D5 C2
  have C15 : Cb l.prog w K mg base 4 "need_inner" spNeedInner := cb_need_inner D15 C5
  have C4 : Cb l.prog w K mg base 4 "need_yard" spNeedYard := cb_need_yard D4 T C2 C3
  have C8 : Cb l.prog w K mg base 2 "reached" spReached := cb_reached D8 T C6
  have C9 : Cb l.prog w K mg base 1 "joined" spJoined := cb_joined D9 T
  have C10 : Cb l.prog w K mg base 2 "rest_of" spRest := cb_rest D10 T C7
  have C11 : Cb l.prog w K mg base 2 "need_order" spNeedOrder := cb_need_order D11 T C7
  have C12 : Cb l.prog w K mg base 3 "is_growth" spGrowth := cb_growth D12 T C6 C8
  have C13 : Cb l.prog w K mg base 3 "can_come_of" spCan := cb_can D13 T C6 C8 C10
  have C14 : Cb l.prog w K mg base 4 "layers_of" spLayers := cb_layers D14 T C13
  have C16 : Cb l.prog w K mg base 2 "cut_time" spCutTime := cb_cut_time D16 T C9
  have C17 : Cb l.prog w K mg base 5 "cut_times" spCutTimes := cb_cut_times D17 T C4 C11 C16
  have C18 : Cb l.prog w K mg base 5 "lots_joining" spJoining := cb_joining D18 T C14 C9
  have C19 : Cb l.prog w K mg base 6 "least_cut" spLeast := cb_least D19 T C4 C15 C12 C7 C18
  have C20 : Cb l.prog w K mg base 6 "greatest_cut" spGreat := cb_great D20 T C4 C15 C12 C7 C18
  have C21 : Cb l.prog w K mg base 5 "cut_together" spTog := cb_tog D21 T C4 C15 C12 C7 C14 C9
  have C22 : Cb l.prog w K mg base 1 "_law_taken" (spTaken K) := cb_taken D22 T
  have C24 : Cb l.prog w K mg base 1 "_law_is" spLis := cb_lis D24 T
  have C26 : Cb l.prog w K mg base 1 "_law_sides" spLsides := cb_lsides D26
  have C25 : Cb l.prog w K mg base 2 "_law_yard" (spLyard K) := cb_lyard D25 T C22
  have C27 : Cb l.prog w K mg base 2 "_law_come" spReached := cb_lcome D27 T C26
  have C28 : Cb l.prog w K mg base 3 "_law_words" spLwords := cb_lwords D28 T C26 C27
  have CI : Cb l.prog w K mg base 1 "_law_alike" spAlikeI := cb_alikeI D23 T
  have CL : Cb l.prog w K mg base 2 "_law_alike" spAlikeL := cb_alikeL D23 T CI
  exact ok_law F T C25 C22 C28 C19 C20 C21 C17 CL C24
theorem sc_of {K : PySem.W.Frag} {H : Hp} {a : Addr} {ns : List Int} (h : SqL K H a (ns.map V.int)) (o : Only H) : ScAt K H a ns := by
  rcases h with h | h
  · rcases h with h | ⟨f, h⟩
    · rcases o a with z | ⟨f, xs, z⟩
      · rw [h] at z
        cases z
      · rw [h] at z
        cases z
    · exact .inl ⟨f, h⟩
  · exact .inr fun H' => .inr h
end W35P
end
open PySem PySem.W PyProof.Rows
set_option maxHeartbeats 0 in
theorem PySem.Challenge.cw_walledin_k35_whole_times_of_rooms_holds : PySem.Challenge.rw_walledin_k35_whole_times_of_rooms.Holds := by
  w_on; o_law; k_head; (case hw => w_witness2)
  k_fill
  refine L2.walk_of (l := PySem.Challenge.rw_walledin_k35_whole_times_of_rooms) (n := 63) (k := 7) (x := "_law_script") (CX := fun _ => L2.CX0) (sp := fun w => W35P.spLaw _) rfl (by decide) rfl ⟨rfl, by decide, by decide⟩ (fun w h Y => PySem.W.kIn_of Y) ?F (fun _ _ a ns hl ho hS => ⟨a, ns, rfl, W35P.sc_of hS ho, fun _ => rfl⟩) (fun _ _ _ _ _ h => h)
  case F =>
    intro w mg fa h KX G hmg
    refine' W35P.all_mk KX G hmg ?a1 ?l1 ?c1 ?k1 ?a2 ?l2 ?c2 ?k2 ?a3 ?l3 ?c3 ?k3 ?a4 ?l4 ?c4 ?k4 ?a5 ?l5 ?c5 ?k5 ?a6 ?l6 ?c6 ?k6 ?a7 ?l7 ?c7 ?k7 ?a8 ?l8 ?c8 ?k8 ?a9 ?l9 ?c9 ?k9 ?a10 ?l10 ?c10 ?k10 ?a11 ?l11 ?c11 ?k11 ?a12 ?l12 ?c12 ?k12 ?a13 ?l13 ?c13 ?k13 ?a14 ?l14 ?c14 ?k14 ?a15 ?l15 ?c15 ?k15 ?a16 ?l16 ?c16 ?k16 ?a17 ?l17 ?c17 ?k17 ?a18 ?l18 ?c18 ?k18 ?a19 ?l19 ?c19 ?k19 ?a20 ?l20 ?c20 ?k20 ?a21 ?l21 ?c21 ?k21 ?a22 ?l22 ?c22 ?k22 ?a23 ?l23 ?c23 ?k23 ?a24 ?l24 ?c24 ?k24 ?a25 ?l25 ?c25 ?k25 ?a26 ?l26 ?c26 ?k26 ?a27 ?l27 ?c27 ?k27 ?a28 ?l28 ?c28 ?k28 ?a29 ?l29 ?c29 ?k29 ?z1 ?z2 ?z3 ?z4 ?z5 ?z6 ?z7 ?z8 ?z9 ?z10 ?z11 ?z12 ?z13 ?z14 ?z15 ?zr ?zw
    (case a1 => k_is); (case l1 => k_is); (case c1 => k_is); (case k1 => k_is); (case a2 => k_is); (case l2 => k_is); (case c2 => k_is); (case k2 => k_is)
    (case a3 => k_is); (case l3 => k_is); (case c3 => k_is); (case k3 => k_is); (case a4 => k_is); (case l4 => k_is); (case c4 => k_is); (case k4 => k_is)
    (case a5 => k_is); (case l5 => k_is); (case c5 => k_is); (case k5 => k_is); (case a6 => k_is); (case l6 => k_is); (case c6 => k_is); (case k6 => k_is)
    (case a7 => k_is); (case l7 => k_is); (case c7 => k_is); (case k7 => k_is); (case a8 => k_is); (case l8 => k_is); (case c8 => k_is); (case k8 => k_is)
    (case a9 => k_is); (case l9 => k_is); (case c9 => k_is); (case k9 => k_is); (case a10 => k_is); (case l10 => k_is); (case c10 => k_is); (case k10 => k_is)
    (case a11 => k_is); (case l11 => k_is); (case c11 => k_is); (case k11 => k_is); (case a12 => k_is); (case l12 => k_is); (case c12 => k_is); (case k12 => k_is)
    (case a13 => k_is); (case l13 => k_is); (case c13 => k_is); (case k13 => k_is); (case a14 => k_is); (case l14 => k_is); (case c14 => k_is); (case k14 => k_is)
    (case a15 => k_is); (case l15 => k_is); (case c15 => k_is); (case k15 => k_is); (case a16 => k_is); (case l16 => k_is); (case c16 => k_is); (case k16 => k_is)
    (case a17 => k_is); (case l17 => k_is); (case c17 => k_is); (case k17 => k_is); (case a18 => k_is); (case l18 => k_is); (case c18 => k_is); (case k18 => k_is)
    (case a19 => k_is); (case l19 => k_is); (case c19 => k_is); (case k19 => k_is); (case a20 => k_is); (case l20 => k_is); (case c20 => k_is); (case k20 => k_is)
    (case a21 => k_is); (case l21 => k_is); (case c21 => k_is); (case k21 => k_is); (case a22 => k_is); (case l22 => k_is); (case c22 => k_is); (case k22 => k_is)
    (case a23 => k_is); (case l23 => k_is); (case c23 => k_is); (case k23 => k_is); (case a24 => k_is); (case l24 => k_is); (case c24 => k_is); (case k24 => k_is)
    (case a25 => k_is); (case l25 => k_is); (case c25 => k_is); (case k25 => k_is); (case a26 => k_is); (case l26 => k_is); (case c26 => k_is); (case k26 => k_is)
    (case a27 => k_is); (case l27 => k_is); (case c27 => k_is); (case k27 => k_is); (case a28 => k_is); (case l28 => k_is); (case c28 => k_is); (case k28 => k_is)
    (case a29 => k_is); (case l29 => k_is); (case c29 => k_is); (case k29 => k_is); (case z1 => k_is); (case z2 => k_is); (case z3 => k_is); (case z4 => k_is)
    (case z5 => k_is); (case z6 => k_is); (case z7 => k_is); (case z8 => k_is); (case z9 => k_is); (case z10 => k_is); (case z11 => k_is); (case z12 => k_is)
    (case z13 => k_is); (case z14 => k_is); (case z15 => k_is); (case zr => k_is); (case zw => k_is)
