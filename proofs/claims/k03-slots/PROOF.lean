import PyProof.Rows.All
import Wide.All
import OpenK.AllK
import Wide.FinOn
import HandS.ForMost
import HandS.TupAny
import HandS.Style
import HandS.Strs
import HandS.IsInst
import HandS.Walk
import HandS.Zip
import HandS.Wide
import HandS.Flow
import KE.GoesEnum
import PySem.Challenge.RW_onesession_k03_whole_slots_that_matter
import HandS.Codes
set_option Elab.async false
set_option linter.all false
set_option autoImplicit false
set_option maxRecDepth 100000
set_option maxHeartbeats 4200000
namespace Ka
section
variable {α : Type}
  [DecidableEq α]

/-- expressions over words -/
inductive Ex (α : Type) where
  | word (w : α)
  | slot (s : α)
  | map (row : List α) (e : Ex α)
  | pair (tab : List (List α)) (e f : Ex α)

def look : List (α × α) → α → Option α
  | [], _ => none
  | (n, w) :: r, s => if n = s then some w else look r s
/-- the first place of x, or the length -/
def idx : List α → α → Nat
  | [], _ => 0
  | y :: r, x => if y = x then 0 else idx r x + 1
def val (ws : List α) (g : List (α × α)) : Ex α → Option α
  | .word w => some w
  | .slot s => look g s
  | .map row e => (val ws g e).bind fun v => row[idx ws v]?
  | .pair tab e f => (val ws g e).bind fun v => (tab[idx ws v]?).bind fun row => (val ws g f).bind fun u => row[idx ws u]?
def slotsOf : Ex α → List α
  | .word _ => []
  | .slot s => [s]
  | .map _ e => slotsOf e
  | .pair _ e f => slotsOf e ++ slotsOf f
def addNew (acc : List α) (s : α) : List α := if s ∈ acc then acc else acc ++ [s]
def reads (e : Ex α) : List α := (slotsOf e).foldl addNew []
def depth : Ex α → Nat
  | .word _ => 0
  | .slot _ => 0
  | .map _ e => depth e + 1
  | .pair _ e f => max (depth e) (depth f) + 1
def size : Ex α → Nat
  | .word _ => 1
  | .slot _ => 1
  | .map _ e => size e + 1
  | .pair _ e f => size e + size f + 1
def RowOk (ws row : List α) : Prop := row.length = ws.length ∧ ∀ x ∈ row, x ∈ ws
/-- well formed over the words ws and the slots S -/
def WF (ws S : List α) : Ex α → Prop
  | .word w => w ∈ ws
  | .slot s => s ∈ S
  | .map row e => RowOk ws row ∧ WF ws S e
  | .pair tab e f => (tab.length = ws.length ∧ ∀ r ∈ tab, RowOk ws r) ∧ WF ws S e ∧ WF ws S f
/-- the given words give a word to each of these slots -/
def Cov (ws : List α) (g : List (α × α)) (S : List α) : Prop := ∀ s ∈ S, ∃ w, w ∈ ws ∧ look g s = some w

theorem idx_at : ∀ {ws : List α} {x : α}, x ∈ ws → ws[idx ws x]? = some x
  | y :: r, x, h => by
    unfold idx
    by_cases e : y = x
    · rw [if_pos e, e]; rfl
    · rw [if_neg e]
      have h' : x ∈ r := by
        rcases List.mem_cons.mp h with h | h
        · exact absurd h.symm e
        · exact h
      simpa using idx_at h'
theorem idx_before : ∀ {ws : List α} {x : α} {m : Nat}, m < idx ws x → ws[m]? ≠ some x
  | [], x, m, h => by simp [idx] at h
  | y :: r, x, m, h => by
    unfold idx at h
    by_cases e : y = x
    · rw [if_pos e] at h; omega
    · rw [if_neg e] at h
      cases m with
      | zero => intro q; exact e (Option.some.inj (by simpa using q))
      | succ m => simpa using idx_before (ws := r) (x := x) (m := m) (by omega)
theorem idx_lt {ws : List α} {x : α} (h : x ∈ ws) : idx ws x < ws.length := by
  have := idx_at h
  exact (List.getElem?_eq_some_iff.mp this).1
theorem idx_uniq {ws : List α} {x : α} {j : Nat} (nd : ws.Nodup) (h : ws[j]? = some x) : idx ws x = j := by
  have hm : x ∈ ws := List.mem_of_getElem? h
  obtain ⟨h1, e1⟩ := List.getElem?_eq_some_iff.mp h
  obtain ⟨h2, e2⟩ := List.getElem?_eq_some_iff.mp (idx_at hm)
  exact (List.getElem_inj nd).mp (e2.trans e1.symm)

theorem RowOk.at {ws row : List α} (h : RowOk ws row) {i : Nat} (hi : i < ws.length) : ∃ v, row[i]? = some v ∧ v ∈ ws := by
  have hi' : i < row.length := by rw [h.1]; exact hi
  exact ⟨row[i], List.getElem?_eq_getElem hi', h.2 _ (List.getElem_mem hi')⟩
/-- a well formed expression has a word -/
theorem val_ok {ws S : List α} {g : List (α × α)} : ∀ {e : Ex α}, WF ws S e → Cov ws g (slotsOf e) → ∃ v, val ws g e = some v ∧ v ∈ ws
  | .word w, h, _ => ⟨w, rfl, h⟩
  | .slot s, _, c => by
    obtain ⟨w, h1, h2⟩ := c s (by simp [slotsOf])
    exact ⟨w, h2, h1⟩
  | .map row e, h, c => by
    obtain ⟨v, e1, m1⟩ := val_ok h.2 c
    obtain ⟨u, e2, m2⟩ := h.1.at (idx_lt m1)
    exact ⟨u, by unfold val; rw [e1]; exact e2, m2⟩
  | .pair tab e f, h, c => by
    obtain ⟨v, e1, m1⟩ := val_ok h.2.1 fun s hs => c s (by simp [slotsOf, hs])
    obtain ⟨u, e2, m2⟩ := val_ok h.2.2 fun s hs => c s (by simp [slotsOf, hs])
    have hi : idx ws v < tab.length := by rw [h.1.1]; exact idx_lt m1
    have er : tab[idx ws v]? = some tab[idx ws v] := List.getElem?_eq_getElem hi
    obtain ⟨z, e3, m3⟩ := (h.1.2 _ (List.getElem_mem hi)).at (idx_lt m2)
    exact ⟨z, by unfold val; rw [e1]; simp only [Option.bind_some]; rw [er]; simp only [Option.bind_some]; rw [e2]; exact e3, m3⟩
theorem val_congr {ws : List α} {g g' : List (α × α)} : ∀ {e : Ex α}, (∀ s ∈ slotsOf e, look g s = look g' s) → val ws g e = val ws g' e
  | .word w, _ => rfl
  | .slot s, h => h s (by simp [slotsOf])
  | .map row e, h => by unfold val; rw [val_congr (e := e) h]
  | .pair tab e f, h => by
    unfold val
    rw [val_congr (e := e) fun s hs => h s (by simp [slotsOf, hs]), val_congr (e := f) fun s hs => h s (by simp [slotsOf, hs])]
theorem Cov.sub {ws S T : List α} {g : List (α × α)} (h : Cov ws g S) (hs : ∀ s ∈ T, s ∈ S) : Cov ws g T := fun s q => h s (hs s q)
theorem WF.slots {ws S : List α} : ∀ {e : Ex α}, WF ws S e → ∀ s ∈ slotsOf e, s ∈ S
  | .word _, _, s, hs => by simp [slotsOf] at hs
  | .slot t, h, s, hs => by
    have e : s = t := by simpa [slotsOf] using hs
    rw [e]; exact h
  | .map _ e, h, s, hs => h.2.slots s hs
  | .pair _ e f, h, s, hs => by
    rcases List.mem_append.mp (show s ∈ slotsOf e ++ slotsOf f from hs) with q | q
    · exact h.2.1.slots s q
    · exact h.2.2.slots s q

/-! ### reads -/
theorem mem_addNew {acc : List α} {s x : α} : x ∈ addNew acc s ↔ x ∈ acc ∨ x = s := by
  unfold addNew
  by_cases h : s ∈ acc
  · rw [if_pos h]
    constructor
    · exact .inl
    · rintro (q | rfl)
      · exact q
      · exact h
  · rw [if_neg h]; simp
theorem nodup_addNew {acc : List α} {s : α} (h : acc.Nodup) : (addNew acc s).Nodup := by
  unfold addNew
  by_cases q : s ∈ acc
  · rw [if_pos q]; exact h
  · rw [if_neg q]
    refine List.nodup_append.mpr ⟨h, by simp, fun a ha b hb e => ?_⟩
    have e' : b = s := by simpa using hb
    rw [← e', ← e] at q
    exact q ha
theorem mem_foldNew : ∀ {l acc : List α} {x : α}, x ∈ l.foldl addNew acc ↔ x ∈ acc ∨ x ∈ l
  | [], acc, x => by simp
  | s :: r, acc, x => by
    rw [List.foldl_cons, mem_foldNew, mem_addNew, List.mem_cons]
    constructor
    · rintro ((h | h) | h)
      · exact .inl h
      · exact .inr (.inl h)
      · exact .inr (.inr h)
    · rintro (h | h | h)
      · exact .inl (.inl h)
      · exact .inl (.inr h)
      · exact .inr h
theorem nodup_foldNew : ∀ {l acc : List α}, acc.Nodup → (l.foldl addNew acc).Nodup
  | [], _, h => h
  | s :: r, acc, h => nodup_foldNew (l := r) (acc := addNew acc s) (nodup_addNew h)
theorem mem_reads {e : Ex α} {x : α} : x ∈ reads e ↔ x ∈ slotsOf e := by
  unfold reads
  rw [mem_foldNew]; simp
theorem nodup_reads (e : Ex α) : (reads e).Nodup := nodup_foldNew (by simp)
/-- no more members than the list that holds them -/
theorem nodup_len : ∀ {l S : List α}, l.Nodup → (∀ x ∈ l, x ∈ S) → l.length ≤ S.length
  | [], S, _, _ => Nat.zero_le S.length
  | x :: r, S, nd, h => by
    obtain ⟨h1, h2⟩ := List.nodup_cons.mp nd
    have hx : x ∈ S := h x (by simp)
    have ih := nodup_len (l := r) (S := S.erase x) h2 fun y hy => by
      have hyx : y ≠ x := fun e => h1 (e ▸ hy)
      exact (List.mem_erase_of_ne hyx).mpr (h y (by simp [hy]))
    rw [List.length_erase_of_mem hx] at ih
    have : 0 < S.length := List.length_pos_of_mem hx
    simp only [List.length_cons]
    omega

/-! ### all given words -/
def allRows (ws slots : List α) : List (List (α × α)) := slots.foldl (fun rows s => rows.flatMap fun row => ws.map fun w => row ++ [(s, w)]) [[]]
theorem allRows_snoc (ws slots : List α) (s : α) : allRows ws (slots ++ [s]) = (allRows ws slots).flatMap fun row => ws.map fun w => row ++ [(s, w)] := by
  unfold allRows
  rw [List.foldl_append]; rfl
theorem fold_rows (ws : List α) : ∀ (slots : List α) (A : List (List (α × α))), slots.foldl (fun rows s => rows.flatMap fun row => ws.map fun w => row ++ [(s, w)]) A = A.flatMap fun a => (allRows ws slots).map fun r => a ++ r
  | [], A => by simp [allRows]
  | s :: r, A => by
    rw [List.foldl_cons, fold_rows ws r]
    have e : allRows ws (s :: r) = (ws.map fun w => [(s, w)]).flatMap fun a => (allRows ws r).map fun r => a ++ r := by
      unfold allRows
      rw [List.foldl_cons, fold_rows ws r]
      simp [allRows]
    rw [e]
    simp [List.flatMap_assoc, List.flatMap_map, List.map_flatMap, List.map_map, Function.comp_def]
theorem allRows_cons (ws : List α) (s : α) (r : List α) : allRows ws (s :: r) = ws.flatMap fun w => (allRows ws r).map fun g => (s, w) :: g := by
  unfold allRows
  rw [List.foldl_cons, fold_rows ws r]
  simp [allRows, List.flatMap_map]
theorem allRows_length (ws : List α) : ∀ slots : List α, (allRows ws slots).length = ws.length ^ slots.length
  | [] => rfl
  | s :: r => by
    rw [allRows_cons, List.length_cons, Nat.pow_succ, List.length_flatMap]
    simp only [List.length_map]
    rw [allRows_length ws r]
    have : ∀ l : List α, (l.map fun _ => ws.length ^ r.length).sum = ws.length ^ r.length * l.length := by
      intro l
      induction l with
      | nil => simp
      | cons a l ih => rw [List.map_cons, List.sum_cons, ih, List.length_cons, Nat.mul_succ, Nat.add_comm]
    exact this ws
theorem mem_allRows {ws : List α} : ∀ {slots : List α} {g : List (α × α)}, g ∈ allRows ws slots ↔ g.map (·.1) = slots ∧ ∀ p ∈ g, p.2 ∈ ws
  | [], g => by
    constructor
    · intro h
      have e : g = [] := by simpa [allRows] using h
      subst e; simp
    · rintro ⟨h, _⟩
      have e : g = [] := by simpa using h
      subst e; simp [allRows]
  | s :: r, g => by
    rw [allRows_cons, List.mem_flatMap]
    constructor
    · rintro ⟨w, hw, h⟩
      obtain ⟨g', hg', rfl⟩ := List.mem_map.mp h
      obtain ⟨h1, h2⟩ := mem_allRows.mp hg'
      refine ⟨by simp [h1], fun p hp => ?_⟩
      rcases List.mem_cons.mp hp with rfl | q
      · exact hw
      · exact h2 p q
    · rintro ⟨h1, h2⟩
      cases g with
      | nil => simp at h1
      | cons p g' =>
        obtain ⟨n, w⟩ := p
        simp only [List.map_cons, List.cons.injEq] at h1
        obtain ⟨rfl, h1⟩ := h1
        exact ⟨w, h2 (n, w) (by simp), List.mem_map.mpr ⟨g', mem_allRows.mpr ⟨h1, fun p hp => h2 p (by simp [hp])⟩, rfl⟩⟩
theorem look_of_row {ws : List α} : ∀ {g : List (α × α)} {s : α}, s ∈ g.map (·.1) → (∀ p ∈ g, p.2 ∈ ws) → ∃ w, w ∈ ws ∧ look g s = some w
  | (n, w) :: r, s, h, hm => by
    unfold look
    by_cases e : n = s
    · exact ⟨w, hm (n, w) (by simp), if_pos e⟩
    · rw [if_neg e]
      refine look_of_row (g := r) ?_ fun p hp => hm p (by simp [hp])
      rcases List.mem_cons.mp (show s ∈ n :: r.map (·.1) from h) with q | q
      · exact absurd q.symm e
      · exact q
theorem cov_of_row {ws slots : List α} {g : List (α × α)} (h : g ∈ allRows ws slots) : Cov ws g slots := fun s hs => by
  obtain ⟨h1, h2⟩ := mem_allRows.mp h
  exact look_of_row (by rw [h1]; exact hs) h2
/-- given words cut to some slots -/
theorem restrict {ws : List α} {g : List (α × α)} : ∀ {slots : List α}, slots.Nodup → Cov ws g slots → ∃ h, h ∈ allRows ws slots ∧ ∀ s ∈ slots, look h s = look g s
  | [], _, _ => ⟨[], by simp [allRows], fun s hs => by simp at hs⟩
  | s :: r, nd, c => by
    obtain ⟨nh, nt⟩ := List.nodup_cons.mp nd
    obtain ⟨w, hw, hl⟩ := c s (by simp)
    obtain ⟨h, hm, hq⟩ := restrict nt (c.sub fun t ht => by simp [ht])
    refine ⟨(s, w) :: h, ?_, fun t ht => ?_⟩
    · rw [allRows_cons, List.mem_flatMap]
      exact ⟨w, hw, List.mem_map.mpr ⟨h, hm, rfl⟩⟩
    · show (if s = t then some w else look h t) = look g t
      by_cases e : s = t
      · rw [if_pos e, ← e]; exact hl.symm
      · rw [if_neg e]
        rcases List.mem_cons.mp ht with q | q
        · exact absurd q.symm e
        · exact hq t q

/-! ### one slot's word changed -/
def setAt (g : List (α × α)) (i : Nat) (s w : α) : List (α × α) := g.take i ++ [(s, w)] ++ g.drop (i + 1)
theorem setAt_zero (p : α × α) (g : List (α × α)) (s w : α) : setAt (p :: g) 0 s w = (s, w) :: g := by simp [setAt]
theorem setAt_succ (p : α × α) (g : List (α × α)) (i : Nat) (s w : α) : setAt (p :: g) (i + 1) s w = p :: setAt g i s w := by simp [setAt]
theorem setAt_row {ws : List α} : ∀ {slots : List α} {g : List (α × α)} {i : Nat} {s w : α}, g ∈ allRows ws slots → slots[i]? = some s → w ∈ ws → setAt g i s w ∈ allRows ws slots
  | [], _, _, _, _, _, hs, _ => by simp at hs
  | t :: r, g, i, s, w, hg, h, hw => by
    rw [allRows_cons, List.mem_flatMap] at hg
    obtain ⟨u, hu, hg⟩ := hg
    obtain ⟨g', hg', rfl⟩ := List.mem_map.mp hg
    rw [allRows_cons, List.mem_flatMap]
    cases i with
    | zero =>
      have e : t = s := by simpa using h
      subst e
      exact ⟨w, hw, List.mem_map.mpr ⟨g', hg', (setAt_zero _ _ _ _).symm⟩⟩
    | succ i =>
      exact ⟨u, hu, List.mem_map.mpr ⟨_, setAt_row hg' (by simpa using h) hw, (setAt_succ _ _ _ _ _).symm⟩⟩
theorem setAt_setAt : ∀ {g : List (α × α)} {i : Nat} {s w u : α}, i < g.length → setAt (setAt g i s w) i s u = setAt g i s u
  | [], _, _, _, _, hs => by simp at hs
  | p :: g, 0, s, w, u, _ => by rw [setAt_zero, setAt_zero, setAt_zero]
  | p :: g, i + 1, s, w, u, h => by rw [setAt_succ, setAt_succ, setAt_succ, setAt_setAt (by simpa using h)]
theorem look_setAt : ∀ {slots : List α} {g : List (α × α)} {i : Nat} {s w t : α}, g.map (·.1) = slots → slots.Nodup → slots[i]? = some s → look (setAt g i s w) t = if s = t then some w else look g t
  | [], _, _, _, _, _, _, _, h => by simp at h
  | a :: r, [], _, _, _, _, h, _, _ => by simp at h
  | a :: r, (n, u) :: g, i, s, w, t, h, nd, hi => by
    rw [List.map_cons] at h
    injection h with hn h
    subst hn
    obtain ⟨nh, nt⟩ := List.nodup_cons.mp nd
    cases i with
    | zero =>
      have e : n = s := by simpa using hi
      subst e
      rw [setAt_zero]
      by_cases q : n = t
      · simp [look, q]
      · simp [look, q]
    | succ i =>
      have hi' : r[i]? = some s := by simpa using hi
      rw [setAt_succ]
      by_cases q : n = t
      · have hne : s ≠ t := fun e => nh (by rw [q, ← e]; exact List.mem_of_getElem? hi')
        simp [look, q, hne]
      · simp only [look, if_neg q]
        exact look_setAt h nt hi'
end
end Ka

namespace Ka
section
variable {α : Type}
  [DecidableEq α]

/-! ### the members of a list that a test by place lets stay -/
def keepIx (p : Nat → α → Bool) (l : List α) : List α := (l.zipIdx.filter fun x => p x.2 x.1).map (·.1)
theorem keepIx_snoc (p : Nat → α → Bool) (l : List α) (s : α) : keepIx p (l ++ [s]) = if p l.length s = true then keepIx p l ++ [s] else keepIx p l := by
  unfold keepIx
  rw [List.zipIdx_append, List.filter_append, List.map_append]
  by_cases h : p l.length s = true
  · simp [List.zipIdx, h]
  · simp [List.zipIdx, h]
theorem keepIx_take (p : Nat → α → Bool) {l : List α} {i : Nat} {s : α} (h : l[i]? = some s) : keepIx p (l.take (i + 1)) = if p i s = true then keepIx p (l.take i) ++ [s] else keepIx p (l.take i) := by
  have hi : i < l.length := (List.getElem?_eq_some_iff.mp h).1
  have e : l.take (i + 1) = l.take i ++ [s] := by rw [List.take_add_one, h]; rfl
  rw [e, keepIx_snoc, List.length_take, Nat.min_eq_left (Nat.le_of_lt hi)]
theorem keepIx_congr {p q : Nat → α → Bool} {l : List α} (h : ∀ i s, l[i]? = some s → p i s = q i s) : keepIx p l = keepIx q l := by
  unfold keepIx
  congr 1
  apply List.filter_congr
  rintro ⟨s, i⟩ hm
  exact h i s (by
    have := List.mem_zipIdx_iff_getElem?.mp hm
    simpa using this)
theorem mem_keepIx {p : Nat → α → Bool} {l : List α} {i : Nat} {s : α} (h : l[i]? = some s) (hp : p i s = true) : s ∈ keepIx p l := by
  unfold keepIx
  refine List.mem_map.mpr ⟨(s, i), List.mem_filter.mpr ⟨List.mem_zipIdx_iff_getElem?.mpr h, hp⟩, rfl⟩
theorem keepIx_sub {p : Nat → α → Bool} {l : List α} {s : α} (h : s ∈ keepIx p l) : s ∈ l := by
  unfold keepIx at h
  obtain ⟨⟨t, i⟩, hm, rfl⟩ := List.mem_map.mp h
  have := List.mem_zipIdx_iff_getElem?.mp (List.mem_filter.mp hm).1
  exact List.mem_of_getElem? (by simpa using this)
theorem keepIx_len (p : Nat → α → Bool) (l : List α) : (keepIx p l).length ≤ l.length := by
  unfold keepIx
  rw [List.length_map]
  exact Nat.le_trans (List.length_filter_le _ _) (by simp)

/-! ### what makes a difference, said twice -/
/-- by all words at the place -/
def differs (ws : List α) (e : Ex α) (slots : List α) (i : Nat) (s : α) : Bool :=
  (allRows ws slots).any fun g => ws.any fun w => decide (val ws (setAt g i s w) e ≠ val ws g e)
/-- k with the digit of that size put to nought -/
def zero (size block k : Nat) : Nat := k - k % size + k % block
/-- by the list of results -/
def unlikeAt (ws : List α) (e : Ex α) (slots : List α) (i : Nat) : Bool :=
  (List.range (allRows ws slots).length).any fun k => decide (((allRows ws slots).map (val ws · e))[k]? ≠ ((allRows ws slots).map (val ws · e))[zero (ws.length ^ (slots.length - i)) (ws.length ^ (slots.length - (i + 1))) k]?)

theorem flatMap_block {β : Type} {M : Nat} {f : α → List β} : ∀ {l : List α} {q r : Nat} {w : α}, (∀ a ∈ l, (f a).length = M) → l[q]? = some w → r < M → (l.flatMap f)[q * M + r]? = (f w)[r]?
  | [], q, r, w, _, h, _ => by simp at h
  | a :: l, 0, r, w, hM, h, hr => by
    have e : a = w := by simpa using h
    subst e
    rw [List.flatMap_cons, Nat.zero_mul, Nat.zero_add, List.getElem?_append_left (by rw [hM a (by simp)]; exact hr)]
  | a :: l, q + 1, r, w, hM, h, hr => by
    have ha : (f a).length = M := hM a (by simp)
    rw [List.flatMap_cons, List.getElem?_append_right (by rw [ha, Nat.add_mul, Nat.one_mul]; omega), ha]
    have e : (q + 1) * M + r - M = q * M + r := by rw [Nat.add_mul, Nat.one_mul]; omega
    rw [e]
    exact flatMap_block (fun b hb => hM b (by simp [hb])) (by simpa using h) hr
theorem flatMap_block_inv {β : Type} {M : Nat} {f : α → List β} : ∀ {l : List α} {k : Nat} {x : β}, (∀ a ∈ l, (f a).length = M) → (l.flatMap f)[k]? = some x → ∃ q r w, k = q * M + r ∧ r < M ∧ l[q]? = some w ∧ (f w)[r]? = some x
  | [], k, x, _, h => by simp at h
  | a :: l, k, x, hM, h => by
    have ha : (f a).length = M := hM a (by simp)
    rw [List.flatMap_cons] at h
    by_cases hk : k < M
    · rw [List.getElem?_append_left (by rw [ha]; exact hk)] at h
      exact ⟨0, k, a, by omega, hk, rfl, h⟩
    · rw [List.getElem?_append_right (by rw [ha]; omega), ha] at h
      obtain ⟨q, r, w, e, hr, hq, hx⟩ := flatMap_block_inv (fun b hb => hM b (by simp [hb])) h
      exact ⟨q + 1, r, w, by rw [Nat.add_mul, Nat.one_mul]; omega, hr, by simpa using hq, hx⟩
theorem zero_block {M size block q r : Nat} (h : size ∣ M) (h2 : block ∣ M) : zero size block (q * M + r) = q * M + zero size block r := by
  obtain ⟨c, rfl⟩ := h
  obtain ⟨d, hd⟩ := h2
  unfold zero
  have e1 : (q * (size * c) + r) % size = r % size := by
    rw [show q * (size * c) = size * (q * c) by rw [Nat.mul_left_comm]]
    exact Nat.mul_add_mod ..
  have e2 : (q * (size * c) + r) % block = r % block := by
    rw [hd, show q * (block * d) = block * (q * d) by rw [Nat.mul_left_comm]]
    exact Nat.mul_add_mod ..
  have e3 : r % size ≤ r := Nat.mod_le _ _
  rw [e1, e2]
  omega
/-- the digit put to nought is the slot put to the first word -/
theorem row_zero {ws : List α} {w0 : α} (hw : ws[0]? = some w0) : ∀ {slots : List α} {i k : Nat} {s : α} {g : List (α × α)}, slots[i]? = some s → (allRows ws slots)[k]? = some g →
    (allRows ws slots)[zero (ws.length ^ (slots.length - i)) (ws.length ^ (slots.length - (i + 1))) k]? = some (setAt g i s w0)
  | [], _, _, _, _, hs, _ => by simp at hs
  | t :: r, i, k, s, g, h, hk => by
    have hM : ∀ a ∈ ws, ((allRows ws r).map fun g => (t, a) :: g).length = ws.length ^ r.length := fun a _ => by rw [List.length_map, allRows_length]
    rw [allRows_cons] at hk ⊢
    obtain ⟨q, m, w, rfl, hm, hq, hx⟩ := flatMap_block_inv hM hk
    rw [List.getElem?_map] at hx
    obtain ⟨g', hg', rfl⟩ := Option.map_eq_some_iff.mp hx
    have hqb : q < ws.length := (List.getElem?_eq_some_iff.mp hq).1
    cases i with
    | zero =>
      have e : t = s := by simpa using h
      subst e
      have hlt : q * ws.length ^ r.length + m < ws.length ^ (r.length + 1) := by
        rw [Nat.pow_succ, Nat.mul_comm _ ws.length]
        have : (q + 1) * ws.length ^ r.length ≤ ws.length * ws.length ^ r.length := Nat.mul_le_mul_right _ hqb
        rw [Nat.add_mul, Nat.one_mul] at this
        omega
      have ez : zero (ws.length ^ ((t :: r).length - 0)) (ws.length ^ ((t :: r).length - (0 + 1))) (q * ws.length ^ r.length + m) = 0 * ws.length ^ r.length + m := by
        unfold zero
        simp only [List.length_cons, Nat.sub_zero, Nat.add_sub_cancel, Nat.zero_add]
        rw [Nat.mod_eq_of_lt hlt, Nat.sub_self, Nat.zero_mul, Nat.zero_add, Nat.zero_add]
        rw [Nat.mul_comm, Nat.mul_add_mod]
        exact Nat.mod_eq_of_lt hm
      rw [ez, flatMap_block hM hw hm, List.getElem?_map, hg', setAt_zero]
      rfl
    | succ i =>
      have h' : r[i]? = some s := by simpa using h
      have hir : i < r.length := (List.getElem?_eq_some_iff.mp h').1
      have e1 : (t :: r).length - (i + 1) = r.length - i := by rw [List.length_cons]; omega
      have e2 : (t :: r).length - (i + 1 + 1) = r.length - (i + 1) := by rw [List.length_cons]; omega
      rw [e1, e2, zero_block (Nat.pow_dvd_pow _ (by omega)) (Nat.pow_dvd_pow _ (by omega))]
      have ih := row_zero hw h' hg'
      have hz := (List.getElem?_eq_some_iff.mp ih).1
      rw [allRows_length] at hz
      rw [flatMap_block hM hq hz, List.getElem?_map, ih, setAt_succ]
      rfl
theorem row_len {ws slots : List α} {g : List (α × α)} (h : g ∈ allRows ws slots) : g.length = slots.length := by
  have e := congrArg List.length (mem_allRows.mp h).1
  rwa [List.length_map] at e
theorem unlike_differs {ws : List α} {w0 : α} (hw : ws[0]? = some w0) (e : Ex α) {slots : List α} {i : Nat} {s : α} (h : slots[i]? = some s) : unlikeAt ws e slots i = differs ws e slots i s := by
  have hi : i < slots.length := (List.getElem?_eq_some_iff.mp h).1
  have hw0 : w0 ∈ ws := List.mem_of_getElem? hw
  have key : unlikeAt ws e slots i = true ↔ differs ws e slots i s = true := by
    unfold unlikeAt differs
    rw [List.any_eq_true, List.any_eq_true]
    constructor
    · rintro ⟨k, hk, hd⟩
      have hk' := List.mem_range.mp hk
      have hg : (allRows ws slots)[k]? = some (allRows ws slots)[k] := List.getElem?_eq_getElem hk'
      refine ⟨_, List.getElem_mem hk', List.any_eq_true.mpr ⟨w0, hw0, ?_⟩⟩
      have hd' := of_decide_eq_true hd
      rw [List.getElem?_map, List.getElem?_map, hg, row_zero hw h hg] at hd'
      refine decide_eq_true fun q => hd' ?_
      simp only [Option.map_some]
      rw [q]
    · rintro ⟨g, hg, hd⟩
      obtain ⟨w, hwm, hd⟩ := List.any_eq_true.mp hd
      have hd' := of_decide_eq_true hd
      have one : ∀ g', g' ∈ allRows ws slots → val ws (setAt g' i s w0) e ≠ val ws g' e → ∃ x, x ∈ List.range (allRows ws slots).length ∧ decide (((allRows ws slots).map (val ws · e))[x]? ≠ ((allRows ws slots).map (val ws · e))[zero (ws.length ^ (slots.length - i)) (ws.length ^ (slots.length - (i + 1))) x]?) = true := by
        intro g' hm hne
        obtain ⟨k, hk⟩ := List.mem_iff_getElem?.mp hm
        refine ⟨k, List.mem_range.mpr (List.getElem?_eq_some_iff.mp hk).1, decide_eq_true fun q => hne ?_⟩
        rw [List.getElem?_map, List.getElem?_map, hk, row_zero hw h hk] at q
        exact (Option.some.inj (by simpa using q)).symm
      by_cases q : val ws (setAt g i s w0) e = val ws g e
      · refine one (setAt g i s w) (setAt_row hg h hwm) fun z => hd' ?_
        rw [setAt_setAt (by rw [row_len hg]; exact hi)] at z
        rw [← z, q]
      · exact one g hg q
  cases h1 : unlikeAt ws e slots i with
  | true => exact (key.mp h1).symm
  | false =>
    cases h2 : differs ws e slots i s with
    | false => rfl
    | true => rw [key.mpr h2] at h1; cases h1

def mattersL (ws : List α) (e : Ex α) : List α := keepIx (fun i s => differs ws e (reads e) i s) (reads e)
theorem law_matters {ws : List α} {w0 : α} (hw : ws[0]? = some w0) (e : Ex α) : keepIx (fun i _ => unlikeAt ws e (reads e) i) (reads e) = mattersL ws e :=
  keepIx_congr fun i s h => unlike_differs hw e h

/-! ### a slot that makes no difference, filled -/
def filled (s w : α) : Ex α → Ex α
  | .word u => .word u
  | .slot t => if t = s then .word w else .slot t
  | .map row e => .map row (filled s w e)
  | .pair tab e f => .pair tab (filled s w e) (filled s w f)
theorem val_filled {ws : List α} {g : List (α × α)} {s w : α} : ∀ e : Ex α, val ws g (filled s w e) = val ws ((s, w) :: g) e
  | .word u => rfl
  | .slot t => by
    show val ws g (if t = s then .word w else .slot t) = if s = t then some w else look g t
    by_cases h : t = s
    · rw [if_pos h, if_pos h.symm]; rfl
    · rw [if_neg h, if_neg (fun q => h q.symm)]; rfl
  | .map row e => by unfold filled val; rw [val_filled e]
  | .pair tab e f => by unfold filled val; rw [val_filled e, val_filled f]
theorem slots_filled {s w : α} : ∀ {e : Ex α} {t : α}, t ∈ slotsOf (filled s w e) → t ∈ slotsOf e
  | .word u, t, h => h
  | .slot u, t, h => by
    unfold filled at h
    by_cases q : u = s
    · rw [if_pos q] at h; simp [slotsOf] at h
    · rw [if_neg q] at h; exact h
  | .map row e, t, h => slots_filled (e := e) h
  | .pair tab e f, t, h => by
    rcases List.mem_append.mp (show t ∈ slotsOf (filled s w e) ++ slotsOf (filled s w f) from h) with q | q
    · exact List.mem_append.mpr (.inl (slots_filled q))
    · exact List.mem_append.mpr (.inr (slots_filled q))
theorem wf_filled {ws S : List α} {s w : α} (hw : w ∈ ws) : ∀ {e : Ex α}, WF ws S e → WF ws S (filled s w e)
  | .word _, h => h
  | .slot t, h => by
    unfold filled
    by_cases q : t = s
    · rw [if_pos q]; exact hw
    · rw [if_neg q]; exact h
  | .map _ _, h => ⟨h.1, wf_filled hw h.2⟩
  | .pair _ _ _, h => ⟨h.1, wf_filled hw h.2.1, wf_filled hw h.2.2⟩
theorem depth_filled {s w : α} : ∀ e : Ex α, depth (filled s w e) = depth e
  | .word _ => rfl
  | .slot t => by
    unfold filled
    by_cases q : t = s
    · rw [if_pos q]; rfl
    · rw [if_neg q]
  | .map _ e => by unfold filled depth; rw [depth_filled e]
  | .pair _ e f => by unfold filled depth; rw [depth_filled e, depth_filled f]
theorem same_at {ws : List α} {e : Ex α} {slots : List α} {i : Nat} {s : α} (hd : differs ws e slots i s = false) {g : List (α × α)} (hg : g ∈ allRows ws slots) {w : α} (hw : w ∈ ws) : val ws (setAt g i s w) e = val ws g e := by
  by_cases q : val ws (setAt g i s w) e = val ws g e
  · exact q
  · have : differs ws e slots i s = true := List.any_eq_true.mpr ⟨g, hg, List.any_eq_true.mpr ⟨w, hw, decide_eq_true q⟩⟩
    rw [this] at hd; cases hd
/-- put over any given words, it changes nothing -/
theorem idle {ws : List α} {e : Ex α} {i : Nat} {s : α} (h : (reads e)[i]? = some s) (hd : differs ws e (reads e) i s = false) {g : List (α × α)} (c : Cov ws g (slotsOf e)) {w : α} (hw : w ∈ ws) : val ws ((s, w) :: g) e = val ws g e := by
  obtain ⟨r, hr, hl⟩ := restrict (nodup_reads e) (c.sub fun t ht => mem_reads.mp ht)
  have e1 : val ws r e = val ws g e := val_congr fun t ht => hl t (mem_reads.mpr ht)
  rw [← e1, ← same_at hd hr hw]
  refine val_congr fun t ht => ?_
  rw [look_setAt (mem_allRows.mp hr).1 (nodup_reads e) h]
  show (if s = t then some w else look g t) = _
  rw [hl t (mem_reads.mpr ht)]
/-- what the loop that fills keeps -/
structure Filled (ws S : List α) (e o : Ex α) : Prop where
  wf : WF ws S o
  sub : ∀ t, t ∈ slotsOf o → t ∈ slotsOf e
  eq : ∀ g, Cov ws g (slotsOf e) → val ws g o = val ws g e
theorem Filled.start {ws S : List α} {e : Ex α} (h : WF ws S e) : Filled ws S e e := ⟨h, fun _ q => q, fun _ _ => rfl⟩
theorem Filled.step {ws S : List α} {e o : Ex α} (F : Filled ws S e o) {s w : α} (hs : s ∈ reads e) (hn : s ∉ mattersL ws e) (hw : w ∈ ws) : Filled ws S e (filled s w o) := by
  obtain ⟨i, hi⟩ := List.mem_iff_getElem?.mp hs
  have hd : differs ws e (reads e) i s = false := by
    cases q : differs ws e (reads e) i s with
    | false => rfl
    | true => exact absurd (mem_keepIx (p := fun i s => differs ws e (reads e) i s) hi q) hn
  refine ⟨wf_filled hw F.wf, fun t ht => F.sub t (slots_filled ht), fun g c => ?_⟩
  rw [val_filled]
  have c' : Cov ws ((s, w) :: g) (slotsOf e) := fun t ht => by
    show ∃ x, x ∈ ws ∧ (if s = t then some w else look g t) = some x
    by_cases q : s = t
    · exact ⟨w, hw, if_pos q⟩
    · rw [if_neg q]; exact c t ht
  rw [F.eq _ c', idle hi hd c hw]

/-! ### two expressions compared -/
def allSlots (e o : Ex α) : List α := reads e ++ (reads o).filter fun s => decide (s ∉ reads e)
def firstUnlike (ws : List α) (e o : Ex α) : Option (List (α × α)) := (allRows ws (allSlots e o)).find? fun g => decide (val ws g e ≠ val ws g o)
theorem mem_allSlots {e o : Ex α} {s : α} : s ∈ allSlots e o ↔ s ∈ slotsOf e ∨ s ∈ slotsOf o := by
  unfold allSlots
  rw [List.mem_append, List.mem_filter]
  constructor
  · rintro (h | ⟨h, _⟩)
    · exact .inl (mem_reads.mp h)
    · exact .inr (mem_reads.mp h)
  · rintro (h | h)
    · exact .inl (mem_reads.mpr h)
    · by_cases q : s ∈ reads e
      · exact .inl q
      · exact .inr ⟨mem_reads.mpr h, decide_eq_true q⟩
theorem nodup_allSlots (e o : Ex α) : (allSlots e o).Nodup := by
  unfold allSlots
  refine List.nodup_append.mpr ⟨nodup_reads e, (nodup_reads o).filter _, fun a ha b hb q => ?_⟩
  have := of_decide_eq_true (List.mem_filter.mp hb).2
  exact this (q ▸ ha)
/-- no given words tell them apart -/
def Alike (ws : List α) (e o : Ex α) : Prop := ∀ g, Cov ws g (slotsOf e) → Cov ws g (slotsOf o) → val ws g e = val ws g o
theorem unlike_none {ws : List α} {e o : Ex α} : firstUnlike ws e o = none ↔ Alike ws e o := by
  unfold firstUnlike
  rw [List.find?_eq_none]
  constructor
  · intro h g ce co
    obtain ⟨r, hr, hl⟩ := restrict (nodup_allSlots e o) (g := g) (ws := ws) fun s hs => by
      rcases mem_allSlots.mp hs with q | q
      · exact ce s q
      · exact co s q
    have e1 : val ws r e = val ws g e := val_congr fun t ht => hl t (mem_allSlots.mpr (.inl ht))
    have e2 : val ws r o = val ws g o := val_congr fun t ht => hl t (mem_allSlots.mpr (.inr ht))
    have := h r hr
    rw [← e1, ← e2]
    by_cases q : val ws r e = val ws r o
    · exact q
    · exact absurd (decide_eq_true q) this
  · intro h g hg
    have c := cov_of_row hg
    have := h g (c.sub fun s hs => mem_allSlots.mpr (.inl hs)) (c.sub fun s hs => mem_allSlots.mpr (.inr hs))
    simp [this]
theorem Alike.refl (ws : List α) (e : Ex α) : Alike ws e e := fun _ _ _ => rfl
theorem Alike.symm {ws : List α} {e o : Ex α} (h : Alike ws e o) : Alike ws o e := fun g c d => (h g d c).symm
theorem unlike_symm (ws : List α) (e o : Ex α) : (firstUnlike ws o e).isNone = (firstUnlike ws e o).isNone := by
  cases h1 : firstUnlike ws e o with
  | none => rw [unlike_none.mpr (unlike_none.mp h1).symm]
  | some g =>
    cases h2 : firstUnlike ws o e with
    | some g' => rfl
    | none => rw [unlike_none.mpr (unlike_none.mp h2).symm] at h1; cases h1
theorem Filled.alike {ws S : List α} {e o : Ex α} (F : Filled ws S e o) : Alike ws e o := fun g c _ => (F.eq g c).symm

/-! ### two maps that undo each other -/
def back (ws order : List α) : List α := ws.map fun w => (ws[idx order w]?).getD w
theorem undo_at {ws order : List α} (nd : ws.Nodup) (hp : order.Perm ws) {v : α} (hv : v ∈ ws) : (order[idx ws v]?).bind (fun x => (back ws order)[idx ws x]?) = some v := by
  have hl : order.length = ws.length := hp.length_eq
  have ndo : order.Nodup := hp.nodup_iff.mpr nd
  have h1 : idx ws v < order.length := by rw [hl]; exact idx_lt hv
  have e1 : order[idx ws v]? = some order[idx ws v] := List.getElem?_eq_getElem h1
  have hx : order[idx ws v] ∈ ws := hp.mem_iff.mp (List.getElem_mem h1)
  rw [e1]
  simp only [Option.bind_some]
  unfold back
  rw [List.getElem?_map, idx_at hx]
  simp only [Option.map_some]
  rw [idx_uniq ndo e1, idx_at hv]
  rfl
theorem undone_alike {ws S order : List α} {e : Ex α} (nd : ws.Nodup) (hp : order.Perm ws) (h : WF ws S e) : Alike ws e (.map (back ws order) (.map order e)) := fun g c _ => by
  obtain ⟨v, ev, hv⟩ := val_ok h c
  have e2 : val ws g (.map (back ws order) (.map order e)) = (order[idx ws v]?).bind (fun x => (back ws order)[idx ws x]?) := by
    show ((val ws g e).bind fun v => order[idx ws v]?).bind _ = _
    rw [ev]; rfl
  rw [ev, e2, undo_at nd hp hv]
theorem rowOk_order {ws order : List α} (hp : order.Perm ws) : RowOk ws order := ⟨hp.length_eq, fun x hx => hp.mem_iff.mp hx⟩
theorem rowOk_back {ws order : List α} (hp : order.Perm ws) : RowOk ws (back ws order) := by
  refine ⟨by simp [back], fun x hx => ?_⟩
  obtain ⟨w, hw, rfl⟩ := List.mem_map.mp hx
  have h1 : idx order w < ws.length := by rw [← hp.length_eq]; exact idx_lt (hp.mem_iff.mpr hw)
  rw [List.getElem?_eq_getElem h1]
  exact List.getElem_mem h1
theorem insert_perm {l r : List α} (i : Nat) (x : α) (h : l.Perm r) : (l.take i ++ [x] ++ l.drop i).Perm (r ++ [x]) := by
  have e : (l.take i ++ [x] ++ l.drop i).Perm (x :: l) := by
    rw [List.append_assoc]
    refine (List.perm_append_comm_assoc _ _ _).trans ?_
    rw [List.take_append_drop]
    exact List.Perm.refl _
  exact e.trans ((List.Perm.cons x h).trans (List.perm_append_comm (l₁ := [x])))

/-! ### the parts of a pair exchanged -/
def flip (n : Nat) (tab : List (List α)) : List (List α) := (List.range n).map fun k => tab.filterMap fun row => row[k]?
def turned (ws : List α) : Ex α → Ex α
  | .pair tab e f => .pair (flip ws.length tab) f e
  | x => x
theorem column {n : Nat} : ∀ {tab : List (List α)} {k : Nat}, k < n → (∀ r ∈ tab, r.length = n) → ∀ i : Nat, (tab.filterMap fun row => row[k]?)[i]? = (tab[i]?).bind fun row => row[k]?
  | [], k, _, _, i => by simp
  | r :: t, k, hk, h, i => by
    have hr : k < r.length := by rw [h r (by simp)]; exact hk
    have e : r[k]? = some r[k] := List.getElem?_eq_getElem hr
    rw [List.filterMap_cons_some (f := fun row : List α => row[k]?) (b := r[k]) e]
    cases i with
    | zero => simp [e]
    | succ i => simpa using column hk (fun q hq => h q (by simp [hq])) i
theorem column_len {n : Nat} : ∀ {tab : List (List α)} {k : Nat}, k < n → (∀ r ∈ tab, r.length = n) → (tab.filterMap fun row => row[k]?).length = tab.length
  | [], k, _, _ => by simp
  | r :: t, k, hk, h => by
    have hr : k < r.length := by rw [h r (by simp)]; exact hk
    rw [List.filterMap_cons_some (f := fun row : List α => row[k]?) (b := r[k]) (List.getElem?_eq_getElem hr), List.length_cons, List.length_cons, column_len hk fun q hq => h q (by simp [hq])]
theorem wf_turned {ws S : List α} {e : Ex α} (h : WF ws S e) : WF ws S (turned ws e) := by
  cases e with
  | word w => exact h
  | slot s => exact h
  | map row e => exact h
  | pair tab e f =>
    refine ⟨⟨by simp [flip], fun r hr => ?_⟩, h.2.2, h.2.1⟩
    obtain ⟨k, hk, rfl⟩ := List.mem_map.mp hr
    have hk' := List.mem_range.mp hk
    refine ⟨by rw [column_len hk' fun q hq => (h.1.2 q hq).1]; exact h.1.1, fun x hx => ?_⟩
    obtain ⟨row, hrow, hx⟩ := List.mem_filterMap.mp hx
    exact (h.1.2 row hrow).2 x (List.mem_of_getElem? hx)
theorem depth_turned (ws : List α) (e : Ex α) : depth (turned ws e) = depth e := by
  cases e with
  | pair tab e f => show max (depth f) (depth e) + 1 = max (depth e) (depth f) + 1; rw [Nat.max_comm]
  | _ => rfl
theorem slots_turned (ws : List α) (e : Ex α) (s : α) : s ∈ slotsOf (turned ws e) ↔ s ∈ slotsOf e := by
  cases e with
  | pair tab e f =>
    show s ∈ slotsOf f ++ slotsOf e ↔ s ∈ slotsOf e ++ slotsOf f
    rw [List.mem_append, List.mem_append, Or.comm]
  | _ => exact Iff.rfl
theorem turned_alike {ws S : List α} {e : Ex α} (h : WF ws S e) : Alike ws e (turned ws e) := fun g c _ => by
  cases e with
  | word w => rfl
  | slot s => rfl
  | map row e => rfl
  | pair tab e f =>
    obtain ⟨v, ev, hv⟩ := val_ok h.2.1 (c.sub fun s hs => by simp [slotsOf, hs])
    obtain ⟨u, eu, hu⟩ := val_ok h.2.2 (c.sub fun s hs => by simp [slotsOf, hs])
    have iv := idx_lt hv
    have iu := idx_lt hu
    show val ws g (.pair tab e f) = val ws g (.pair (flip ws.length tab) f e)
    unfold val
    rw [ev, eu]
    simp only [Option.bind_some]
    have ef : (flip ws.length tab)[idx ws u]? = some (tab.filterMap fun row => row[idx ws u]?) := by
      unfold flip
      rw [List.getElem?_map, List.getElem?_range iu]; rfl
    rw [ef]
    simp only [Option.bind_some]
    rw [column iu (fun r hr => (h.1.2 r hr).1)]
end
end Ka

namespace Ka
open L2 PySem PySem.Spec PyProof.Rows

/-! ### the text -/
def stK (i : Nat) : Stmt := PySem.Challenge.pw_onesession_k03_whole_slots_that_matter.main.body.getD i (.Pass ⟨0, 0, 0, 0⟩)

/-! ### heaps -/
theorem same_new {H : Hp} {p : Addr} {o : HO} (h : H p = none) : Same H (upd H p o) := fun b x e => by
  rw [upd_ne (ne_of_none e h)]; exact e
theorem same_sqt {K : PySem.W.Frag} {H H' : Hp} {a : Addr} {xs : List V} (e : Same H H') (h : SqT K H a xs) : SqT K H' a xs := by
  rcases h with (q | ⟨o, q⟩) | q
  · exact .inl (.inl (e _ _ q))
  · exact .inl (.inr ⟨o, e _ _ q⟩)
  · exact .inr q
theorem sqt_new {K : PySem.W.Frag} {H : Hp} {p : Addr} {xs : List V} : SqT K (upd H p (.tup xs)) p xs := .inl (.inl upd_same)
theorem sql_new {K : PySem.W.Frag} {H : Hp} {p : Addr} {xs : List V} : SqL K (upd H p (.lst xs)) p xs := .inl (.inl upd_same)
/-- all but p stays -/
def But (p : Addr) (H H' : Hp) : Prop := ∀ b o, b ≠ p → H b = some o → H' b = some o
theorem But.refl (p : Addr) (H : Hp) : But p H H := fun _ _ _ h => h
theorem But.trans {p : Addr} {H H1 H2 : Hp} (a : But p H H1) (b : But p H1 H2) : But p H H2 := fun c o n h => b c o n (a c o n h)
theorem But.of {p : Addr} {H H' : Hp} (a : Same H H') : But p H H' := fun c o _ h => a c o h
theorem but_upd {p : Addr} {H : Hp} {o : HO} : But p H (upd H p o) := fun b x n e => by
  rw [upd_ne n]; exact e
theorem sl_small {n : Nat} (h : n ≤ 10000000) : n ≤ sizeLine := Nat.le_trans h (by decide)
theorem sl_less {n : Nat} (h : n ≤ 10000000) : n < sizeLine := Nat.lt_of_le_of_lt h (by decide)

/-! ### pairs of lists -/
theorem pr_get {α β : Type} {F : α → β → Prop} : ∀ {xs : List α} {ys : List β} {i : Nat} {y : β}, Paired F xs ys → ys[i]? = some y → ∃ x, xs[i]? = some x ∧ F x y
  | _, _, _, _, .nil, hy => by simp at hy
  | _, _, 0, _, .cons r _, hy => by
    simp at hy
    subst hy
    exact ⟨_, rfl, r⟩
  | _, _, i + 1, y, .cons _ t, hy => by
    obtain ⟨x, hx, hr⟩ := pr_get (i := i) (y := y) t (by simpa using hy)
    exact ⟨x, by simpa using hx, hr⟩
theorem pr_getL {α β : Type} {F : α → β → Prop} : ∀ {xs : List α} {ys : List β} {i : Nat} {x : α}, Paired F xs ys → xs[i]? = some x → ∃ y, ys[i]? = some y ∧ F x y
  | _, _, _, _, .nil, hx => by simp at hx
  | _, _, 0, _, .cons r _, hx => by
    simp at hx
    subst hx
    exact ⟨_, rfl, r⟩
  | _, _, i + 1, x, .cons _ t, hx => by
    obtain ⟨y, hy, hr⟩ := pr_getL (i := i) (x := x) t (by simpa using hx)
    exact ⟨y, by simpa using hy, hr⟩
theorem pr_app {α β : Type} {F : α → β → Prop} : ∀ {xs xs' : List α} {ys ys' : List β}, Paired F xs ys → Paired F xs' ys' → Paired F (xs ++ xs') (ys ++ ys')
  | _, _, _, _, .nil, h => h
  | _, _, _, _, .cons r t, h => .cons r (pr_app t h)
theorem pr_take {α β : Type} {F : α → β → Prop} : ∀ {xs : List α} {ys : List β} (n : Nat), Paired F xs ys → Paired F (xs.take n) (ys.take n)
  | _, _, 0, _ => by simp; exact .nil
  | _, _, _ + 1, .nil => .nil
  | _, _, n + 1, .cons r t => .cons r (pr_take n t)
theorem pr_drop {α β : Type} {F : α → β → Prop} : ∀ {xs : List α} {ys : List β} (n : Nat), Paired F xs ys → Paired F (xs.drop n) (ys.drop n)
  | _, _, 0, h => h
  | _, _, _ + 1, .nil => .nil
  | _, _, n + 1, .cons _ t => pr_drop n t

/-! ### what stands in the heap -/
section
variable (K : PySem.W.Frag)
/-- given words: a tuple of pairs -/
def Gv (H : Hp) (a : Addr) (g : List (Str × Str)) : Prop := ∃ ps : List Addr, SqT K H a (ps.map V.ref) ∧ Paired (fun p (x : Str × Str) => SqT K H p [.str x.1, .str x.2]) ps g
/-- the words: a tuple whose object is known, it has no dict -/
def Wd (H : Hp) (a : Addr) (ws : List Str) : Prop := ∃ o, H a = some (.frz o (.tup (ws.map V.str))) ∧ o.dict = none
/-- rows of words -/
abbrev Rows (H : Hp) (rs : List Addr) (tab : List (List Str)) : Prop := Paired (fun r (row : List Str) => SqT K H r (row.map V.str)) rs tab
/-- an expression -/
inductive Rep (H : Hp) : V → Ex Str → Prop where
  | word {a : Addr} {w : Str} (h : SqT K H a [.str "word", .str w]) : Rep H (.ref a) (.word w)
  | slot {a : Addr} {s : Str} (h : SqT K H a [.str "slot", .str s]) : Rep H (.ref a) (.slot s)
  | map {a r : Addr} {row : List Str} {v : V} {e : Ex Str} (h : SqT K H a [.str "map", .ref r, v]) (hr : SqT K H r (row.map V.str)) (he : Rep H v e) : Rep H (.ref a) (.map row e)
  | pair {a t : Addr} {rs : List Addr} {tab : List (List Str)} {v u : V} {e f : Ex Str} (h : SqT K H a [.str "pair", .ref t, v, u]) (ht : SqT K H t (rs.map V.ref)) (hrs : Rows K H rs tab) (he : Rep H v e) (hf : Rep H u f) :
      Rep H (.ref a) (.pair tab e f)
end
section
variable {K : PySem.W.Frag} {H H' : Hp}
theorem Gv.same {a : Addr} {g : List (Str × Str)} (e : Same H H') (h : Gv K H a g) : Gv K H' a g := by
  obtain ⟨ps, h1, h2⟩ := h
  exact ⟨ps, same_sqt e h1, Paired.mapP h2 fun _ _ q => same_sqt e q⟩
theorem Wd.same {a : Addr} {ws : List Str} (e : Same H H') (h : Wd H a ws) : Wd H' a ws := by
  obtain ⟨o, h1, h2⟩ := h
  exact ⟨o, e _ _ h1, h2⟩
theorem Wd.sqt {a : Addr} {ws : List Str} (h : Wd H a ws) : SqT K H a (ws.map V.str) := by
  obtain ⟨o, h1, _⟩ := h
  exact .inl (.inr ⟨o, h1⟩)
theorem rows_same {rs : List Addr} {tab : List (List Str)} (e : Same H H') (h : Rows K H rs tab) : Rows K H' rs tab := Paired.mapP h fun _ _ q => same_sqt e q
theorem Rep.same {v : V} {x : Ex Str} (e : Same H H') (h : Rep K H v x) : Rep K H' v x := by
  induction h with
  | word h => exact .word (same_sqt e h)
  | slot h => exact .slot (same_sqt e h)
  | map h hr _ ih => exact .map (same_sqt e h) (same_sqt e hr) ih
  | pair h ht hrs _ _ i1 i2 => exact .pair (same_sqt e h) (same_sqt e ht) (rows_same e hrs) i1 i2
theorem sqt_but {p a : Addr} {xs ys : List V} (hp : H p = some (.lst ys)) (e : But p H H') (h : SqT K H a xs) : SqT K H' a xs := by
  rcases h with (q | ⟨o, q⟩) | q
  · exact .inl (.inl (e _ _ (ne_of q hp (by intro z; cases z)) q))
  · exact .inl (.inr ⟨o, e _ _ (ne_of q hp (by intro z; cases z)) q⟩)
  · exact .inr q
theorem Wd.but {p a : Addr} {ws : List Str} {ys : List V} (hp : H p = some (.lst ys)) (e : But p H H') (h : Wd H a ws) : Wd H' a ws := by
  obtain ⟨o, h1, h2⟩ := h
  exact ⟨o, e _ _ (ne_of h1 hp (by intro z; cases z)) h1, h2⟩
theorem rows_but {p : Addr} {rs : List Addr} {tab : List (List Str)} {ys : List V} (hp : H p = some (.lst ys)) (e : But p H H') (h : Rows K H rs tab) : Rows K H' rs tab := Paired.mapP h fun _ _ q => sqt_but hp e q
theorem Rep.but {p : Addr} {v : V} {x : Ex Str} {ys : List V} (hp : H p = some (.lst ys)) (e : But p H H') (h : Rep K H v x) : Rep K H' v x := by
  induction h with
  | word h => exact .word (sqt_but hp e h)
  | slot h => exact .slot (sqt_but hp e h)
  | map h hr _ ih => exact .map (sqt_but hp e h) (sqt_but hp e hr) ih
  | pair h ht hrs _ _ i1 i2 => exact .pair (sqt_but hp e h) (sqt_but hp e ht) (rows_but hp e hrs) i1 i2
theorem Gv.but {p a : Addr} {g : List (Str × Str)} {ys : List V} (hp : H p = some (.lst ys)) (e : But p H H') (h : Gv K H a g) : Gv K H' a g := by
  obtain ⟨ps, h1, h2⟩ := h
  exact ⟨ps, sqt_but hp e h1, Paired.mapP h2 fun _ _ q => sqt_but hp e q⟩
end

/-! ### rules of our own -/
section
variable {X : Cx}
/-- a slice of a tuple: some tuple of these items -/
def rSlS (K : PySem.W.Frag) : V → Option Int → Option Int → Hp → VK → Prop := fun x lo hi H Q => ∃ a xs, x = .ref a ∧ SqT K H a xs ∧ ∀ p H', Same H H' → SqT K H' p (cutV xs lo hi) → Q (.ref p) H'
theorem sl_tupS : SlR X (rSlS X.K) := by
  intro pn s σ H x v vl vu lo hi sl Q I rx hs pl pu hR
  obtain ⟨a, xs, rfl, ha, q⟩ := hR
  refine sl_tupA pn s σ H _ v vl vu lo hi sl Q I rx hs pl pu ⟨a, xs, rfl, ha, fun hw => ?_, fun _ p np => q p _ (same_new np) sqt_new⟩
  have e : cutV xs lo hi = xs := by
    unfold cutV
    rw [hw.1, hw.2, List.drop_zero, Nat.sub_zero, List.take_length]
  exact q a H (Same.refl H) (by rw [e]; exact ha)
/-- t + u: some tuple of these items -/
def rCatS (K : PySem.W.Frag) : R2 := fun x y H Q => ∃ a b xs ys, x = .ref a ∧ y = .ref b ∧ SqT K H a xs ∧ SqT K H b ys ∧ xs.length + ys.length ≤ sizeLine ∧ ∀ p H', Same H H' → SqT K H' p (xs ++ ys) → Q (.ref p) H'
theorem op_catS : OpR X (binaryOp .Add) (rCatS X.K) := by
  intro pn s σ H x y v u Q I rx ry hR
  obtain ⟨a, b, xs, ys, rfl, rfl, ha, hb, hz, q⟩ := hR
  refine op_catA pn s σ H _ _ v u Q I rx ry ⟨a, b, xs, ys, rfl, rfl, ha, hb, hz, fun e => ?_, fun _ e => ?_, fun _ _ p np => q p _ (same_new np) sqt_new⟩
  · subst e; exact q b H (Same.refl H) hb
  · subst e; exact q a H (Same.refl H) (by rw [List.append_nil]; exact ha)
/-- tuple(x) of a list of texts: the words, their object known -/
theorem call_words : CallR X (.type "tuple") (fun xs H Q => ∃ p ws, xs = [.ref p] ∧ SqL X.K H p (ws.map V.str) ∧ ∀ q H', Same H H' → Wd H' q ws → Q (.ref q) H') := by
  intro pn s σ H xs us Q I rs hR
  obtain ⟨p, ws, rfl, hq, q⟩ := hR
  obtain ⟨u, rfl, ru⟩ := vals1 rs
  cases ru
  obtain ⟨its, rv, pL, hz⟩ := I.list hq
  have hn := rv.length
  have hn2 : its.toArray.size ≤ sizeLine := by
    rw [List.size_toArray]
    omega
  refine call_tuple_list pL.isList (fun h' kp => ?_) hn2
  have J : Inv X pn σ H { s with heap := h' } := I.kept (t' := s.toks) kp
  have nw := J.hok.fresh (Nat.le_refl _)
  have hT := IsTup.new (h := h') (items := its.toArray)
  have J2 : Inv X pn σ (upd H h'.objs.size (.frz { cls := .type "tuple", data := .seq its.toArray } (.tup (ws.map V.str)))) { s with heap := h'.push { cls := .type "tuple", data := .seq its.toArray } } :=
    J.laid (t' := s.toks) (fun b o e => Heap.get?_push_of_some _ e) (Nat.le_refl _) ⟨Heap.get?_push_size _ rfl, hz, its, rv, hT⟩
  exact ⟨.ref h'.objs.size, _, J2, rfl, q _ _ (same_new nw) ⟨_, upd_same, rfl⟩⟩
/-- ws.index(e) -/
def tIdx (to : TE) (t : TA) : TE := fun σ H Q => to σ H fun x H1 => ∃ a ws, x = .ref a ∧ Wd H1 a ws ∧ t σ H1 fun xs H2 => ∃ z, xs = [.str z] ∧ Wd H2 a ws ∧ z ∈ ws ∧ Q (.int (idx ws z : Nat)) H2
variable {apos cpos : Pos} {o e : Expr} {es : List Expr} {to : TE} {t : TA}
theorem pe_idx (ho : PE X o to) (ha : PA X (e :: es) t)
    (k1 : attributeBase o "index" X.env (eval o X.env) = eval o X.env := by rfl)
    (k2 : ((backTo cpos (starEach (e :: es) X.env)).all (fun x => !x.1) && (backToKw cpos (keywordEach [] X.env)).all (fun x => x.1.isSome) && decide ((e :: es).length + ([] : List Keyword).length + (if ([] : List Keyword).isEmpty then 0 else 1) < 30)) = true := by rfl)
    (k3 : (apos.endLine == cpos.line) = true := by rfl) (k4 : starEach (e :: es) X.env = (false, eval e X.env) :: starEach es X.env := by rfl) (k5 : (backTo cpos (starEach es X.env)).any (·.1) = false := by rfl) :
    PE X (.Call (.Attribute o "index" apos) (e :: es) [] cpos) (tIdx to t) := by
  refine ⟨fun pn s σ H Q I hR => ?_⟩
  refine wpAny_Call_method_late k1 k2 k3 rfl (thn (ho.run pn s σ H _ I hR) fun v s1 ⟨x, H1, I1, r1, q1⟩ => ?_)
  obtain ⟨a, ws, rfl, ⟨ob, hw, hd⟩, q1⟩ := q1
  cases r1
  have hk : s1.heap.get? a = some ob := (I1.hok a _ hw).1
  have hc : ob.cls = .type "tuple" := by
    obtain ⟨_, _, _, ob', e1, c1, _⟩ := (I1.hok a _ hw).2
    rw [hk] at e1; cases e1; exact c1
  refine ⟨"tuple", "tuple.index", PySem.F.plainAttrs_tuple, PySem.F.slot_tuple_index, PySem.F.type_tuple_index, ⟨ob, hk, hc⟩, fun b z => ?_, ?_⟩
  · cases z; exact ⟨ob, hk, hd⟩
  have hA := ha.run cpos pn s1 σ H1 _ I1 q1
  rw [k4] at hA ⊢
  refine Calls.callWith_builtin (by show (false || (backTo cpos (starEach es X.env)).any (·.1)) = false; rw [k5] <;> rfl) (Calls.evalArgs_plain ?_)
  refine thn hA fun us s2 ⟨vs, H2, I2, r2, q2⟩ => ?_
  obtain ⟨z, rfl, w2, hz, q⟩ := q2
  exact mt_tup_index pn s2 σ H2 (.ref a) _ (.ref a) us Q I2 rfl r2 ⟨a, ws, z, idx ws z, rfl, rfl, w2.sqt, idx_at hz, fun m hm => idx_before hm, q⟩
end
end Ka

namespace Ka
open L2 PySem PySem.Spec PyProof.Rows

/-! ### enumerate(t) of a tuple -/
theorem enum_new {v : Value} {o : Obj} {Z : Heap → Prop} (B : Begins v o Z) :
    Meets (Builtin.«enumerate.__new__» ⟨[.type "enumerate", v], []⟩) (fun _ R s => Z s.heap ∧
      R (.ok (.ret (.ref (s.heap.push o).objs.size))) { s with heap := (s.heap.push o).push { cls := .type "enumerate", data := .fields #[.none, .bool false, .ref s.heap.objs.size, rawInt 0, .none, .none] } }) :=
  .of_wp fun prog w A R s hs => by
    obtain ⟨hp, gn, dr, tk, os⟩ := s
    obtain ⟨hz, hR⟩ := hs
    have hsub := sub_enumerate
    have go : ∀ {A' : Around} {E : Value → Shared → Prop} {Q : Value → Shared → Prop}, Q (.ref hp.objs.size) ⟨hp.push o, gn, dr, tk, os⟩ → wpAny (model prog w) A' (pyIter v) Q E ⟨hp, gn, dr, tk, os⟩ :=
      fun q => B.iter prog w _ _ ⟨hp, gn, dr, tk, os⟩ _ hz q
    wp_walk using go
    refine wpAny_stack_any fun _ => wpAny_pure ?_
    split
    · rename_i ty _ _ _ _ _
      cases (ty == Value.type "enumerate")
      · wp_walk using go
        exact ⟨_, rfl, hR⟩
      · wp_walk using go
        exact ⟨_, rfl, hR⟩
    · wp_walk using go
      exact ⟨_, rfl, hR⟩
theorem enum_call {prog : Program} {w : World} {A : Around} {E : Value → Shared → Prop} {s : Shared} {v : Value} {o : Obj} {Z : Heap → Prop} {Q : Value → Shared → Prop} (B : Begins v o Z) (hz : Z s.heap)
    (h : ∀ h', IsEnum h' (s.heap.objs.size + 1) s.heap.objs.size 0 .none → h'.get? s.heap.objs.size = some o → h'.objs.size = s.heap.objs.size + 2 → (∀ b x, s.heap.get? b = some x → h'.get? b = some x) →
      Q (.ref (s.heap.objs.size + 1)) { s with heap := h' }) : wpAny (model prog w) A (call (.type "enumerate") [v]) Q E s := by
  refine callType_new F.called_enumerate (by decide) (F.typeCall_enumerate_1 _) (F.newCall_enumerate_1 _) (fun x => F.args_object_init_2 x _) F.entry_enumerate_new (enum_new B) ⟨hz, ?_⟩
  have n1 : (s.heap.push o).objs.size = s.heap.objs.size + 1 := Heap.size_push ..
  show _ ∧ _
  rw [n1]
  have he : IsEnum ((s.heap.push o).push { cls := .type "enumerate", data := .fields #[.none, .bool false, .ref s.heap.objs.size, rawInt 0, .none, .none] }) (s.heap.objs.size + 1) s.heap.objs.size 0 .none := by
    have q := Heap.get?_push_size (s.heap.push o) (o := { cls := .type "enumerate", data := .fields #[.none, .bool false, .ref s.heap.objs.size, rawInt 0, .none, .none] }) rfl
    rw [n1] at q; exact q
  exact ⟨⟨_, he, rfl⟩, h _ he (Heap.get?_push_of_some _ (Heap.get?_push_size _ B.free)) (by rw [Heap.size_push, n1]) fun b x e => Heap.get?_push_of_some _ (Heap.get?_push_of_some _ e)⟩
/-- the tuple at a, its items in new pairs with their places -/
def ItEn (K : PySem.W.Frag) (a : Addr) (xs : List V) : It :=
  ⟨fun i H => SqT K H a xs ∧ i < xs.length, fun i H v H' => ∃ T x, v = .ref T ∧ H T = none ∧ H' = upd H T (.tup [.int (i : Nat), x]) ∧ xs[i]? = some x, fun i H => SqT K H a xs ∧ i = xs.length⟩
theorem turn_en {P : Program} {w : World} {K : PySem.W.Frag} {elts : List Expr} {kk : Nat} {tp : Pos} (a e it : Addr) (xs : List V) (hai : a ≠ it) (hae : a ≠ e) :
    Turn P w K (.Tuple elts kk tp) (ItEn K a xs) [e, it] e (fun i h => (∃ old, IsEnum h e it ((i : Nat) : Int) old) ∧ h.IsTupleIter it a i ∧ e ≠ it) where
  mem := List.mem_cons_self
  obj := fun i h st b hb => by
    obtain ⟨⟨_, he⟩, ⟨o, ho, _, hd⟩, _⟩ := st
    have eb : b = e ∨ b = it := by simpa using hb
    rcases eb with rfl | rfl
    · exact ⟨_, he, fun v q => nomatch q⟩
    · exact ⟨o, ho, fun v q => by rw [hd] at q; cases q⟩
  keep := fun i h h' st k => by
    obtain ⟨⟨old, he⟩, hi, hne⟩ := st
    exact ⟨⟨old, k e (by simp) _ he⟩, hi.at fun o q => k it (by simp) o q, hne⟩
  item := by
    intro X hP hw hK calm i pn s σ H E I hf st hg
    subst hP hw hK
    obtain ⟨⟨_, he⟩, hit, hne⟩ := st
    obtain ⟨hq, hi⟩ := hg
    obtain ⟨its, rv, pT, hz⟩ := I.tuple hq
    have nl := rv.length
    have le : e < s.heap.objs.size := Heap.lt_size he
    have li : it < s.heap.objs.size := by obtain ⟨_, q, _⟩ := hit; exact Heap.lt_size q
    have D := Draws.tuple (prog := X.prog) (w := X.w) (A := X.A.in1) (I.ok.hd calm) it a hai its.toArray
    have ef : e ∉ [it, a] := by
      simp only [List.mem_cons, List.not_mem_nil, or_false, not_or]
      exact ⟨hne, Ne.symm hae⟩
    refine wpAny_pyNext_enum_itemC D he ⟨hit, pT⟩ (by simp only [List.size_toArray]; omega) hne ef fun u h' tk hu ho st' hT hsz hk => ?_
    refine ⟨_, rfl, wpAny_letOwnedTupleGo_enum (s := { s with heap := h', toks := tk + 1 }) ho fun h'' he' sb => ?_⟩
    have hui : its[i]? = some u := by simpa using hu
    obtain ⟨x, hx, rx⟩ : ∃ x, xs[i]? = some x ∧ RelV x u := pr_get rv hui
    have hT2 : h''.get? s.heap.objs.size = some { cls := .type "tuple", data := .seq #[.int i tk, u] } := (sb.2 _ (Nat.ne_of_gt le)).trans hT
    have nw : ObjOk X.prog X.w (upd H s.heap.objs.size (.tup [.int (i : Nat), x])) h'' s.heap.objs.size (.tup [.int (i : Nat), x]) :=
      ⟨sl_small (by show 2 ≤ 10000000; decide), [.int i tk, u], .cons ⟨_, rfl⟩ (.cons rx .nil), ⟨_, hT2, rfl, _, rfl⟩⟩
    have J : Inv X pn σ (upd H s.heap.objs.size (.tup [.int (i : Nat), x])) { s with heap := h'', toks := tk + 1 } :=
      I.turnedNew (ch := [e, it]) (fun b ob hb q => (sb.2 b (fun z => hb (by simp [z]))).trans (hk b ob (fun z => hb (by simp [z])) (fun z => hb (by simp [z])) q)) hf (Nat.le_refl _) nw
    refine ⟨.ref s.heap.objs.size, _, J, rfl, ⟨_, x, rfl, I.hok.fresh (Nat.le_refl _), rfl, hx⟩, ⟨⟨u, ?_⟩, st'.1.at fun o q => (sb.2 it (Ne.symm hne)).trans q, hne⟩, fun b hb => ?_⟩
    · rw [show ((i + 1 : Nat) : Int) = (i : Int) + 1 by omega]; exact he'
    · have lb : b < s.heap.objs.size := by
        have eb : b = e ∨ b = it := by simpa using hb
        rcases eb with rfl | rfl
        · exact le
        · exact li
      rw [upd_ne (Nat.ne_of_lt lb)]
      exact (hf b hb).1
  done := by
    intro X hP hw hK calm i pn s σ H E I hf st hg
    subst hP hw hK
    obtain ⟨⟨_, he⟩, hit, hne⟩ := st
    obtain ⟨hq, rfl⟩ := hg
    obtain ⟨its, rv, pT, hz⟩ := I.tuple hq
    have nl := rv.length
    obtain ⟨v0, v1, _, v3, v4, v5⟩ := hf it (by simp)
    have D := Draws.tuple (prog := X.prog) (w := X.w) (A := X.A) (I.ok.hd calm) it a hai its.toArray
    have D1 := Draws.tuple (prog := X.prog) (w := X.w) (A := X.A.in1) (I.ok.hd calm) it a hai its.toArray
    have hn : its.toArray.size = xs.length := by simp only [List.size_toArray]; omega
    refine wpAny_pyNext_enum_endD D1 he (by rw [hn]; exact ⟨hit, pT⟩) fun h' eb => ⟨rfl, I.turned (t' := s.toks) (fun b o hb q => eb b o hb q) v0 v1 v3 v4 v5⟩
  self := fun A i s Q E st hq => by
    obtain ⟨⟨_, he⟩, _⟩ := st
    exact wpAny_pyIter_enum he hq
def iEnT (K : PySem.W.Frag) (ta : TA) : TI := fun σ H R => ta σ H fun vs H1 => ∃ a xs, vs = [.ref a] ∧ SqT K H1 a xs ∧ R (ItEn K a xs) H1
theorem pi_enT {X : Cx} {e : Expr} {ta : TA} {p pos tp : Pos} {elts : List Expr} {kk : Nat} (hg : Gl X "enumerate") (hm : X.mg "enumerate" = none) (ha : PA X [e] ta) (hs : starEach [e] X.env = [(false, eval e X.env)] := by rfl) :
    PI X (.Tuple elts kk tp) (.Call (.Name "enumerate" p) [e] [] pos) (iEnT X.K ta) := by
  refine ⟨fun pn s σ H R I hR => ?_⟩
  have hA := ha.run pos pn s σ H _ I hR
  refine Call_ (ld_blt I hg hm boot_enumerate (PyProof.Rows.callWith_type1 (thn hA fun us s1 ⟨vs, H1, I1, r1, q1⟩ => ?_) hs rfl))
  obtain ⟨a, xs, rfl, hq, q⟩ := q1
  cases r1 with
  | cons r rr =>
    cases rr
    cases r
    obtain ⟨its, rv, pT, hz⟩ := I1.tuple hq
    have la : a < s1.heap.objs.size := by obtain ⟨_, q, _⟩ := pT; exact Heap.lt_size q
    refine enum_call (begins_tuple a its.toArray) pT fun h' he hit hsz hk => wpAny_pyIter_enum he ?_
    have J : Inv X pn σ H1 { s1 with heap := h' } := I1.kept (t' := s1.toks) hk
    refine ⟨s1.heap.objs.size + 1, [s1.heap.objs.size + 1, s1.heap.objs.size], _, _, H1, rfl, J, turn_en a (s1.heap.objs.size + 1) s1.heap.objs.size xs (Nat.ne_of_lt la) (Nat.ne_of_lt (Nat.lt_succ_of_lt la)), ⟨⟨.none, he⟩, ⟨_, hit, rfl, rfl⟩, Nat.succ_ne_self _⟩, fun b hb => ?_, q⟩
    have eb : b = s1.heap.objs.size + 1 ∨ b = s1.heap.objs.size := by simpa using hb
    have lb : s1.heap.objs.size ≤ b := by
      rcases eb with rfl | rfl
      · exact Nat.le_succ _
      · exact Nat.le_refl _
    exact I1.fpOk lb (I1.hok.fresh lb)
/-- at each turn a new pair of the place and the item -/
theorem walk_en {K : PySem.W.Frag} {a : Addr} {xs : List V} : Walk (ItEn K a xs) xs.length (fun H => SqT K H a xs) (YPair (fun i => some (.int (i : Nat))) (fun i => xs[i]?)) where
  goes := fun i H hi hG => ⟨hG, hi⟩
  stops := fun H hG => ⟨hG, rfl⟩
  yields := fun i H x H' hi hG hy => by
    obtain ⟨T, y, e1, e2, e3, e4⟩ := hy
    exact ⟨T, _, y, e1, e2, e3, rfl, e4⟩
/-- zip of two tuples -/
theorem walk_zipT {K : PySem.W.Frag} {a b : Addr} {xs ys : List V} (hn : xs.length = ys.length) : Walk (RZ.ItzT K a b) xs.length (fun H => SqT K H a xs ∧ SqT K H b ys) (YPair (fun i => xs[i]?) (fun i => ys[i]?)) where
  goes := fun i H hi hG => ⟨xs, ys, _, _, hG.1, hG.2, List.getElem?_eq_getElem hi, List.getElem?_eq_getElem (hn ▸ hi)⟩
  stops := fun H hG => ⟨xs, ys, hG.1, hG.2, .inl (Nat.le_refl _)⟩
  yields := fun i H v H' hi hG hy => by
    obtain ⟨T, x, y, e1, e2, e3, e4, e5⟩ := hy
    exact ⟨T, x, y, e1, e2, e3, e4 xs hG.1, e5 ys hG.2⟩
end Ka

namespace Ka
open L2 PySem PySem.Spec PyProof.Rows
section
variable {mg : Str → Option Value} {base : Heap} {P : Program} {w : World} {K : PySem.W.Frag}

/-! ### word_given -/
theorem sc1 : FnScope ["given", "slot", "name", "word"] ["given", "slot"] (defScope (stK 1)) := ⟨rfl, rfl, rfl, by decide +kernel, rfl, by decide +kernel, by decide +kernel⟩
def spGiven (K : PySem.W.Frag) : Sp := fun vs H Q _ => ∃ (a : Addr) (s : Str) (g : List (Str × Str)) (u : Str), vs = [.ref a, .str s] ∧ Gv K H a g ∧ look g s = some u ∧ Q (.str u) H
theorem ok_given {f : Addr} {fd : FuncData} {k : Nat} (F : Fun K "word_given" "word_given" (stK 1) f fd) : FnOk P w K mg base CX0 (k + 1) f fd ["given", "slot"] (spGiven K) := by
  refine F.ok sc1 (fun vs H Q E h => ?_) (fun cdv A outer s H vs Q E hr h => ?_)
  · obtain ⟨a, s, g, u, rfl, _⟩ := h
    rfl
  · obtain ⟨a, sl, g, u, rfl, ⟨ps, ht, hp⟩, hl, q⟩ := h
    refine ⟨_, pss_cons (ps_for PassesOwn.never rfl (pi_tup (pv 0))
        (pg_tup rfl (pgs_cons (pg_name (i := 2) sc1.nd rfl (.inl rfl)) (pgs_cons (pg_name (i := 3) sc1.nd rfl (.inl rfl)) pgs_nil)))
        (pss_one (ps_if (pt_cmpR op_eq (pv 2) (pv 1) (nomark _)) (pss_one (ps_ret (pv 3))) pss_nil)))
      (pss_one (ps_ret pe_non)), ?_⟩
    refine ⟨_, rfl, a, rfl, ⟨_, ht⟩, for_tup (xs := ps.map V.ref) (fun i σ H' => H' = H ∧ look (g.drop i) sl = some u ∧ ∃ y2 y3, σ = [some (.ref a), some (.str sl), y2, y3])
      ⟨rfl, hl, none, none, rfl⟩ (fun i σ H' _ z => by rw [z.1]; exact ht) (fun i x σ H' hx z => ?_) (fun σ H' z => ?_)⟩
    · obtain ⟨rfl, hl', y2, y3, rfl⟩ := z
      rw [List.getElem?_map] at hx
      obtain ⟨p, hp', rfl⟩ := Option.map_eq_some_iff.mp hx
      obtain ⟨⟨n, c⟩, hg, hpt⟩ := pr_getL hp hp'
      have ed : g.drop i = (n, c) :: g.drop (i + 1) := by
        obtain ⟨hlt, e⟩ := List.getElem?_eq_some_iff.mp hg
        rw [← e]; exact List.drop_eq_getElem_cons hlt
      rw [ed] at hl'
      refine ⟨p, _, rfl, hpt, rfl, _, _, rfl, _, _, rfl, rfl, ?_⟩
      refine ⟨_, rfl, _, rfl, rfl, _, rfl, ite2 (fun e => ?_) (fun e => ?_)⟩
      · have en : n = sl := V.str.inj (of_decide_eq_true e)
        have ec : c = u := by
          unfold look at hl'
          rw [if_pos en] at hl'
          exact Option.some.inj hl'
        subst ec
        exact ⟨_, rfl, q⟩
      · have en : n ≠ sl := fun z => e (by rw [z]; exact decide_eq_true rfl)
        refine ⟨rfl, ?_, _, _, rfl⟩
        unfold look at hl'
        rw [if_neg en] at hl'
        exact hl'
    · obtain ⟨_, hl', _⟩ := z
      have : g.length ≤ (ps.map V.ref).length := by rw [List.length_map, hp.length]; exact Nat.le_refl _
      rw [List.drop_eq_nil_of_le this] at hl'
      cases hl'

/-! ### value -/
theorem sc2 : FnScope ["words", "expr", "given", "row"] ["words", "expr", "given"] (defScope (stK 2)) := ⟨rfl, rfl, rfl, by decide +kernel, rfl, by decide +kernel, by decide +kernel⟩
def spValue (K : PySem.W.Frag) (d : Nat) : Sp := fun vs H Q _ => ∃ (a b : Addr) (v : V) (e : Ex Str) (ws S : List Str) (g : List (Str × Str)), vs = [.ref a, v, .ref b] ∧ Wd H a ws ∧ Rep K H v e ∧ Gv K H b g ∧
  WF ws S e ∧ Cov ws g (slotsOf e) ∧ depth e ≤ d ∧ ∀ u, val ws g e = some u → u ∈ ws → Q (.str u) H
theorem ok_value {f f1 : Addr} {fd fd1 : FuncData} (F : Fun K "value" "value" (stK 2) f fd) (F1 : Fun K "word_given" "word_given" (stK 1) f1 fd1)
    (b : Binds K fd ["words", "expr", "given"] []) (b1 : Binds K fd1 ["given", "slot"] []) (g1 : mg "word_given" = some (.ref f1)) (g2 : mg "value" = some (.ref f)) :
    ∀ d : Nat, FnOk P w K mg base CX0 (d + 2) f fd ["words", "expr", "given"] (spValue K d) := by
  have G1 : FnOk P w K mg base CX0 1 f1 fd1 ["given", "slot"] (spGiven K) := ok_given F1
  have ne1 : decide (V.str "slot" = V.str "word") = false := by decide
  have ne2 : decide (V.str "map" = V.str "word") = false := by decide
  have ne3 : decide (V.str "map" = V.str "slot") = false := by decide
  have ne4 : decide (V.str "pair" = V.str "word") = false := by decide
  have ne5 : decide (V.str "pair" = V.str "slot") = false := by decide
  have ne6 : decide (V.str "pair" = V.str "map") = false := by decide
  intro d
  induction d with
  | zero =>
    refine F.ok sc2 (fun vs H Q E h => ?_) (fun cdv A outer s H vs Q E hr h => ?_)
    · obtain ⟨a, b, v, e, ws, S, g, rfl, _⟩ := h
      rfl
    · obtain ⟨a, b', v, e, ws, S, g, rfl, hW, hR, hG, wf, cv, hd, q⟩ := h
      refine ⟨_, pss_cons (ps_if (pt_cmpR op_eq (pe_ix ix_tup (pv 1) pe_int (fun _ _ => rfl)) pe_str (nomark _)) (pss_one (ps_ret (pe_ix ix_tup (pv 1) pe_int (fun _ _ => rfl)))) pss_nil)
        (pss_cons (ps_if (pt_cmpR op_eq (pe_ix ix_tup (pv 1) pe_int (fun _ _ => rfl)) pe_str (nomark _)) (pss_one (ps_ret (pe_call G1 (hr.mono (by decide)) (by rfl) g1 F1.kp b1 .nil pass0 (pa_cons (pv 2) (pa_cons (pe_ix ix_tup (pv 1) pe_int (fun _ _ => rfl)) pa_nil))))) pss_nil)
        pss_never), ?_⟩
      cases hR with
      | @word p u hp =>
        refine ⟨_, rfl, p, _, _, _, rfl, rfl, hp, atI_nat (j := 0) rfl, rfl, _, rfl, iteT ?_⟩
        exact ⟨_, rfl, p, _, _, _, rfl, rfl, hp, atI_nat (j := 1) rfl, q u rfl wf⟩
      | @slot p sl hp =>
        refine ⟨_, rfl, p, _, _, _, rfl, rfl, hp, atI_nat (j := 0) rfl, rfl, _, rfl, ?_⟩
        rw [ne1]
        refine iteF ⟨_, rfl, p, _, _, _, rfl, rfl, hp, atI_nat (j := 0) rfl, rfl, _, rfl, iteT ?_⟩
        obtain ⟨u, hu, hl⟩ := cv sl (by simp [slotsOf])
        exact ⟨_, rfl, _, rfl, p, _, _, _, rfl, rfl, hp, atI_nat (j := 1) rfl, b', sl, g, u, rfl, hG, hl, q u hl hu⟩
      | map h hr he => exact absurd hd (by simp [depth])
      | pair h ht hrs he hf => exact absurd hd (by simp [depth])
  | succ d ih =>
    refine F.ok sc2 (fun vs H Q E h => ?_) (fun cdv A outer s H vs Q E hr h => ?_)
    · obtain ⟨a, b, v, e, ws, S, g, rfl, _⟩ := h
      rfl
    · obtain ⟨a, b', v, e, ws, S, g, rfl, hW, hR, hG, wf, cv, hd, q⟩ := h
      refine ⟨_, pss_cons (ps_if (pt_cmpR op_eq (pe_ix ix_tup (pv 1) pe_int (fun _ _ => rfl)) pe_str (nomark _)) (pss_one (ps_ret (pe_ix ix_tup (pv 1) pe_int (fun _ _ => rfl)))) pss_nil)
        (pss_cons (ps_if (pt_cmpR op_eq (pe_ix ix_tup (pv 1) pe_int (fun _ _ => rfl)) pe_str (nomark _)) (pss_one (ps_ret (pe_call G1 (hr.mono (by omega)) (by rfl) g1 F1.kp b1 .nil pass0 (pa_cons (pv 2) (pa_cons (pe_ix ix_tup (pv 1) pe_int (fun _ _ => rfl)) pa_nil))))) pss_nil)
        (pss_cons (ps_set (i := 3) sc2.nd rfl (.inl rfl) (pe_ix ix_tup (pe_ix ix_tup (pv 1) pe_int (fun _ _ => rfl)) (pe_idx (pv 0) (pa_cons (pe_call ih hr (by rfl) g2 F.kp b .nil pass0 (pa_cons (pv 0) (pa_cons (pe_ix ix_tup (pv 1) pe_int (fun _ _ => rfl)) (pa_cons (pv 2) pa_nil)))) pa_nil)) (fun _ _ => rfl)))
        (pss_cons (ps_if (pt_cmpR op_eq (pe_ix ix_tup (pv 1) pe_int (fun _ _ => rfl)) pe_str (nomark _)) (pss_one (ps_ret (pv 3))) pss_nil)
        (pss_one (ps_ret (pe_ix ix_tup (pv 3) (pe_idx (pv 0) (pa_cons (pe_call ih hr (by rfl) g2 F.kp b .nil pass0 (pa_cons (pv 0) (pa_cons (pe_ix ix_tup (pv 1) pe_int (fun _ _ => rfl)) (pa_cons (pv 2) pa_nil)))) pa_nil)) (fun _ _ => rfl))))))), ?_⟩
      cases hR with
      | @word p u hp =>
        refine ⟨_, rfl, p, _, _, _, rfl, rfl, hp, atI_nat (j := 0) rfl, rfl, _, rfl, iteT ?_⟩
        exact ⟨_, rfl, p, _, _, _, rfl, rfl, hp, atI_nat (j := 1) rfl, q u rfl wf⟩
      | @slot p sl hp =>
        refine ⟨_, rfl, p, _, _, _, rfl, rfl, hp, atI_nat (j := 0) rfl, rfl, _, rfl, ?_⟩
        rw [ne1]
        refine iteF ⟨_, rfl, p, _, _, _, rfl, rfl, hp, atI_nat (j := 0) rfl, rfl, _, rfl, iteT ?_⟩
        obtain ⟨u, hu, hl⟩ := cv sl (by simp [slotsOf])
        exact ⟨_, rfl, _, rfl, p, _, _, _, rfl, rfl, hp, atI_nat (j := 1) rfl, b', sl, g, u, rfl, hG, hl, q u hl hu⟩
      | @map p r row v e' hp hrow he =>
        refine ⟨_, rfl, p, _, _, _, rfl, rfl, hp, atI_nat (j := 0) rfl, rfl, _, rfl, ?_⟩
        rw [ne2]
        refine iteF ⟨_, rfl, p, _, _, _, rfl, rfl, hp, atI_nat (j := 0) rfl, rfl, _, rfl, ?_⟩
        rw [ne3]
        refine iteF ?_
        refine ⟨_, rfl, p, _, _, _, rfl, rfl, hp, atI_nat (j := 1) rfl, _, rfl, a, ws, rfl, hW, _, rfl, _, rfl, p, _, _, _, rfl, rfl, hp, atI_nat (j := 2) rfl, _, rfl, ?_⟩
        refine ⟨a, b', v, e', ws, S, g, rfl, hW, he, hG, wf.2, cv, by simp only [depth] at hd; omega, fun x hx hm => ?_⟩
        obtain ⟨z, hz, hzm⟩ := wf.1.at (idx_lt hm)
        have hz' : (row.map V.str)[idx ws x]? = some (.str z) := by rw [List.getElem?_map, hz]; rfl
        refine ⟨x, rfl, hW, hm, r, _, _, _, rfl, rfl, hrow, atI_nat hz', ?_⟩
        refine ⟨_, rfl, p, _, _, _, rfl, rfl, hp, atI_nat (j := 0) rfl, rfl, _, rfl, iteT ?_⟩
        exact ⟨_, rfl, q z (by unfold val; rw [hx]; exact hz) hzm⟩
      | @pair p t rs tab v u e' f' hp ht hrs he hf =>
        refine ⟨_, rfl, p, _, _, _, rfl, rfl, hp, atI_nat (j := 0) rfl, rfl, _, rfl, ?_⟩
        rw [ne4]
        refine iteF ⟨_, rfl, p, _, _, _, rfl, rfl, hp, atI_nat (j := 0) rfl, rfl, _, rfl, ?_⟩
        rw [ne5]
        refine iteF ?_
        refine ⟨_, rfl, p, _, _, _, rfl, rfl, hp, atI_nat (j := 1) rfl, _, rfl, a, ws, rfl, hW, _, rfl, _, rfl, p, _, _, _, rfl, rfl, hp, atI_nat (j := 2) rfl, _, rfl, ?_⟩
        refine ⟨a, b', v, e', ws, S, g, rfl, hW, he, hG, wf.2.1, cv.sub (fun s hs => by simp [slotsOf, hs]), by simp only [depth] at hd; omega, fun x hx hm => ?_⟩
        have hi : idx ws x < tab.length := by rw [wf.1.1]; exact idx_lt hm
        have et : tab[idx ws x]? = some tab[idx ws x] := List.getElem?_eq_getElem hi
        obtain ⟨r, er, hrow⟩ := pr_get hrs et
        have er' : (rs.map V.ref)[idx ws x]? = some (.ref r) := by rw [List.getElem?_map, er]; rfl
        refine ⟨x, rfl, hW, hm, t, _, _, _, rfl, rfl, ht, atI_nat er', ?_⟩
        refine ⟨_, rfl, p, _, _, _, rfl, rfl, hp, atI_nat (j := 0) rfl, rfl, _, rfl, ?_⟩
        rw [ne6]
        refine iteF ?_
        refine ⟨_, rfl, _, rfl, a, ws, rfl, hW, _, rfl, _, rfl, p, _, _, _, rfl, rfl, hp, atI_nat (j := 3) rfl, _, rfl, ?_⟩
        refine ⟨a, b', u, f', ws, S, g, rfl, hW, hf, hG, wf.2.2, cv.sub (fun s hs => by simp [slotsOf, hs]), by simp only [depth] at hd; omega, fun y hy hm2 => ?_⟩
        obtain ⟨z, hz, hzm⟩ := (wf.1.2 _ (List.getElem_mem hi)).at (idx_lt hm2)
        have hz' : (tab[idx ws x].map V.str)[idx ws y]? = some (.str z) := by rw [List.getElem?_map, hz]; rfl
        refine ⟨y, rfl, hW, hm2, r, _, _, _, rfl, rfl, hrow, atI_nat hz', ?_⟩
        exact q z (by unfold val; rw [hx]; simp only [Option.bind_some]; rw [et]; simp only [Option.bind_some]; rw [hy]; exact hz) hzm
end
end Ka

namespace Ka
open L2 PySem PySem.Spec PyProof.Rows

theorem cut_from (xs : List V) (n : Nat) : cutV xs (some (n : Int)) none = xs.drop n := by
  unfold cutV
  rw [HT.sIx_nat, HT.sIx_none]
  by_cases h : n ≤ xs.length
  · rw [Nat.min_eq_left h]
    exact List.take_of_length_le (by rw [List.length_drop]; exact Nat.le_refl _)
  · rw [Nat.min_eq_right (by omega), Nat.sub_self, List.take_zero, List.drop_eq_nil_of_le (by omega)]
theorem cut_to (xs : List V) (n : Nat) : cutV xs none (some (n : Int)) = xs.take n := by
  unfold cutV
  rw [HT.sIx_nat, HT.sIx_none, List.drop_zero, Nat.sub_zero]
  by_cases h : n ≤ xs.length
  · rw [Nat.min_eq_left h]
  · rw [Nat.min_eq_right (by omega), List.take_length, List.take_of_length_le (by omega)]
theorem inV_str (s : Str) : ∀ acc : List Str, inV (.str s) (acc.map V.str) = decide (s ∈ acc)
  | [] => by simp [inV]
  | a :: r => by
    have ih := inV_str s r
    unfold inV at ih ⊢
    rw [List.map_cons, List.any_cons, ih]
    show ((a == s) || decide (s ∈ r)) = decide (s ∈ a :: r)
    by_cases h : a = s
    · subst h; simp
    · have h' : ¬ s = a := fun q => h q.symm
      simp [h, h']
theorem pr_snoc {α β : Type} {F : α → β → Prop} : ∀ {xs : List α} {ys : List β} {y : β}, Paired F xs (ys ++ [y]) → ∃ xs' x, xs = xs' ++ [x] ∧ Paired F xs' ys ∧ F x y
  | _, [], _, .cons r .nil => ⟨[], _, rfl, .nil, r⟩
  | _, a :: ys, y, .cons r t => by
    obtain ⟨xs', x, rfl, h1, h2⟩ := pr_snoc (ys := ys) (y := y) t
    exact ⟨_ :: xs', x, rfl, .cons r h1, h2⟩
theorem pr_rev {α β : Type} {F : α → β → Prop} : ∀ {xs : List α} {ys : List β}, Paired F xs ys → Paired F xs.reverse ys.reverse
  | _, _, .nil => .nil
  | _, _, .cons r t => by
    rw [List.reverse_cons]
    rw [List.reverse_cons]
    exact pr_app (pr_rev t) (.cons r .nil)

/-! ### a node, its own slot, its parts -/
def kids : Ex Str → List (Ex Str)
  | .word _ => []
  | .slot _ => []
  | .map _ e => [e]
  | .pair _ e f => [e, f]
def own : Ex Str → List Str
  | .slot s => [s]
  | _ => []
theorem slots_own (x : Ex Str) : slotsOf x = own x ++ (kids x).flatMap slotsOf := by
  cases x <;> simp [slotsOf, own, kids]
theorem size_kids (x : Ex Str) : size x = 1 + ((kids x).map size).sum := by
  cases x <;> simp [size, kids] <;> omega
theorem kids_two (x : Ex Str) : (kids x).length ≤ 2 := by
  cases x <;> simp [kids]
theorem Rep.opened {K : PySem.W.Frag} {H : Hp} {v : V} {x : Ex Str} (h : Rep K H v x) : ∃ (p : Addr) (tag : Str) (sec : V) (ks : List V), v = .ref p ∧ SqT K H p (.str tag :: sec :: ks) ∧ Paired (Rep K H) ks (kids x) ∧
    ((tag = "slot" ∧ ∃ s, sec = .str s ∧ own x = [s]) ∨ (tag ≠ "slot" ∧ own x = [])) := by
  cases h with
  | word h => exact ⟨_, _, _, [], rfl, h, .nil, .inr ⟨by decide, rfl⟩⟩
  | slot h => exact ⟨_, _, _, [], rfl, h, .nil, .inl ⟨rfl, _, rfl, rfl⟩⟩
  | map h hr he => exact ⟨_, _, _, _, rfl, h, .cons he .nil, .inr ⟨by decide, rfl⟩⟩
  | pair h ht hrs he hf => exact ⟨_, _, _, _, rfl, h, .cons he (.cons hf .nil), .inr ⟨by decide, rfl⟩⟩
section
variable {mg : Str → Option Value} {base : Heap} {P : Program} {w : World} {K : PySem.W.Frag}

/-! ### reads -/
theorem sc3 : FnScope ["expr", "slots", "waiting", "node"] ["expr"] (defScope (stK 3)) := ⟨rfl, rfl, rfl, by decide +kernel, rfl, by decide +kernel, by decide +kernel⟩
def spReads (K : PySem.W.Frag) : Sp := fun vs H Q _ => ∃ (v : V) (e : Ex Str), vs = [v] ∧ Rep K H v e ∧ size e ≤ 1000 ∧ ∀ p H', Same H H' → SqT K H' p ((reads e).map V.str) → Q (.ref p) H'
theorem ok_reads {f : Addr} {fd : FuncData} {k : Nat} (F : Fun K "reads" "reads" (stK 3) f fd) (ml : mg "list" = none) (mt : mg "tuple" = none) : FnOk P w K mg base CX0 (k + 1) f fd ["expr"] (spReads K) := by
  refine F.ok sc3 (fun vs H Q E h => ?_) (fun cdv A outer s H vs Q E hr h => ?_)
  · obtain ⟨v, e, rfl, _⟩ := h
    rfl
  · obtain ⟨v, e, rfl, hR, hsz, q⟩ := h
    refine ⟨_, pss_cons (ps_set (i := 1) sc3.nd rfl (.inl rfl) (pe_lst pa_nil))
      (pss_cons (ps_set (i := 2) sc3.nd rfl (.inl rfl) (pe_lst (pa_cons (pv 0) pa_nil)))
      (pss_cons (ps_while PassesOwn.never (pt_truth (pv 2) (by intro _; rfl))
        (pss_cons (ps_set (i := 3) sc3.nd rfl (.inl rfl) (pe_bm0 PySem.F.plainAttrs_list PySem.F.slot_list_pop PySem.F.type_list_pop mt_pop (pv 2)))
        (pss_cons (ps_if (PW.pt (pw_and (pt_cmpR op_eq (pe_ix ix_tup (pv 3) pe_int (fun _ _ => rfl)) pe_str (nomark _)) (pw_and1 (pt_cmpR op_notIn_seq (pe_ix ix_tup (pv 3) pe_int (fun _ _ => rfl)) (pv 1) (by rfl)))))
          (pss_one (ps_expr (pe_bm PySem.F.plainAttrs_list PySem.F.slot_list_append PySem.F.type_list_append mt_append (pv 1) (pa_cons (pe_ix ix_tup (pv 3) pe_int (fun _ _ => rfl)) pa_nil)))) pss_nil)
        (pss_one (ps_expr (pe_bm PySem.F.plainAttrs_list PySem.F.slot_list_extend PySem.F.type_list_extend mt_extend (pv 2)
          (pa_cons (pe_revL (pe_callTy call_list_of (by rfl) ml (by decide +kernel) (pa_cons (pe_slice sl_tupS (pv 3) (po_some pe_int) po_none) pa_nil))) pa_nil)))))))
      (pss_one (ps_ret (pe_callTy call_tuple_of (by rfl) mt (by decide +kernel) (pa_cons (pv 1) pa_nil)))))), ?_⟩
    -- slots = [], waiting = [expr]
    refine ⟨Nat.zero_le _, fun sl nsl => ?_⟩
    refine ⟨v, rfl, sl_small (by show 1 ≤ 10000000; decide), fun wt nwt => ?_⟩
    have s1 : Same H (upd H sl (.lst [])) := same_new nsl
    have s2 : Same (upd H sl (.lst [])) (upd (upd H sl (.lst [])) wt (.lst [v])) := same_new nwt
    have nws : wt ≠ sl := fun z => by rw [z, upd_same] at nwt; cases nwt
    refine ⟨fun m σ H' => ∃ (y3 : Option V) (vs : List V) (es : List (Ex Str)) (acc : List Str), σ = [some v, some (.ref sl), some (.ref wt), y3] ∧ Same H H' ∧ H' sl = some (.lst (acc.map V.str)) ∧ H' wt = some (.lst vs) ∧ Paired (Rep K H') vs es ∧
        m = (es.map size).sum ∧ m + acc.length ≤ 1000 ∧ (es.reverse.flatMap slotsOf).foldl addNew acc = reads e,
      ⟨(([e]).map size).sum, none, [v], [e], [], rfl, s1.trans s2, by rw [upd_ne nws.symm, upd_same]; rfl, upd_same, .cons ((hR.same s1).same s2) .nil, rfl, by simpa using hsz, by simp [reads]⟩, fun m σ H' hW => ?_⟩
    obtain ⟨y3, vs, es, acc, rfl, sm, esl, ewt, hP, rfl, hm, hf⟩ := hW
    refine ⟨_, rfl, _, .inl ⟨vs, SqL.of ewt, rfl⟩, ?_⟩
    rcases List.eq_nil_or_concat es with rfl | ⟨es', x, rfl⟩
    · -- return tuple(slots)
      cases hP
      refine iteF ⟨_, rfl, sl, _, rfl, .inl ⟨SqL.of esl, fun p np => ?_⟩⟩
      have ef : acc = reads e := by simpa using hf
      rw [← ef] at q
      exact q p _ (sm.trans (same_new np)) sqt_new
    · rw [List.concat_eq_append] at hP hf hm ⊢
      obtain ⟨vs', y, rfl, hP', hy⟩ := pr_snoc hP
      have hne : (!(vs' ++ [y]).isEmpty) = true := by cases vs' <;> rfl
      rw [hne]
      refine iteT ?_
      have hsum : ((es' ++ [x]).map size).sum = (es'.map size).sum + size x := by simp
      rw [hsum] at hm ⊢
      refine ⟨fun σ' H'' => ∃ (y3 : Option V) (vs : List V) (es : List (Ex Str)) (acc : List Str), σ' = [some v, some (.ref sl), some (.ref wt), y3] ∧ Same H H'' ∧ H'' sl = some (.lst (acc.map V.str)) ∧ H'' wt = some (.lst vs) ∧ Paired (Rep K H'') vs es ∧
        (es.map size).sum + acc.length ≤ 1000 ∧ (es.map size).sum < (es'.map size).sum + size x ∧ (es.reverse.flatMap slotsOf).foldl addNew acc = reads e, fun σ' H'' hN => ?_, ?_⟩
      · obtain ⟨z3, vs2, es2, acc2, h1, h2, h3, h4, h5, h6, h7, h8⟩ := hN
        exact ⟨_, h7, z3, vs2, es2, acc2, h1, h2, h3, h4, h5, rfl, h6, h8⟩
      -- node = waiting.pop()
      refine ⟨.ref wt, rfl, .inl ⟨rfl, _, SqL.of ewt⟩, wt, _, y, rfl, rfl, ewt, by simp, ?_⟩
      rw [List.dropLast_concat]
      have nsw : sl ≠ wt := nws.symm
      have hb : But wt H' (upd H' wt (.lst vs')) := but_upd
      have sm2 : Same H (upd H' wt (.lst vs')) := fun b o eb => by
        have nb : b ≠ wt := fun z => by
          have := ne_of_none (s1 _ _ eb) nwt
          exact this z
        rw [upd_ne nb]; exact sm _ _ eb
      have esl2 : (upd H' wt (.lst vs')) sl = some (.lst (acc.map V.str)) := by rw [upd_ne nsw]; exact esl
      have hy2 := hy.but ewt hb
      have hP2 : Paired (Rep K (upd H' wt (.lst vs'))) vs' es' := Paired.mapP hP' fun _ _ z => z.but ewt hb
      obtain ⟨p, tag, sec, ks, rfl, hp, hk, htag⟩ := hy2.opened
      have hsz2 := size_kids x
      have hso := slots_own x
      have hkl := hk.length
      have hk2 := kids_two x
      rw [List.reverse_concat, List.flatMap_cons, hso, List.append_assoc, List.foldl_append] at hf
      -- from here on: the parts
      have rest : ∀ (acc' : List Str) (H2 : Hp), acc' = (own x).foldl addNew acc → acc'.length ≤ acc.length + (own x).length → (own x).length ≤ 1 → Same H H2 → H2 sl = some (.lst (acc'.map V.str)) → H2 wt = some (.lst vs') → SqT K H2 p (.str tag :: sec :: ks) →
          Paired (Rep K H2) ks (kids x) → Paired (Rep K H2) vs' es' →
          tDrop (tBM K "list" rExtend (tVar 2) (tCons (tRevL K (tCB (fun xs H Q => ∃ p ys, xs = [.ref p] ∧ (SqL K H p ys ∨ SqT K H p ys) ∧ ∀ l, H l = none → Q (.ref l) (upd H l (.lst ys))) (tCons (tSl (rSlS K) (tVar 3) (tPart (tC (.int 2))) tNoPart) tNil))) tNil))
            { nx := fun σ' H'' => ∃ (y3 : Option V) (vs : List V) (es : List (Ex Str)) (acc : List Str), σ' = [some v, some (.ref sl), some (.ref wt), y3] ∧ Same H H'' ∧ H'' sl = some (.lst (acc.map V.str)) ∧ H'' wt = some (.lst vs) ∧ Paired (Rep K H'') vs es ∧
                (es.map size).sum + acc.length ≤ 1000 ∧ (es.map size).sum < (es'.map size).sum + size x ∧ (es.reverse.flatMap slotsOf).foldl addNew acc = reads e, rt := Q }
            [some v, some (.ref sl), some (.ref wt), some (.ref p)] H2 := by
        intro acc' H2 ea la lo sm3 e1 e2 hp3 hk3 hP3
        refine ⟨.ref wt, rfl, .inl ⟨rfl, _, SqL.of e2⟩, _, rfl, 2, rfl, p, _, rfl, hp3, fun p2 H3 sm4 ht => ?_⟩
        have ec : cutV (.str tag :: sec :: ks) (some 2) none = ks := cut_from _ 2
        rw [ec] at ht
        refine ⟨p2, ks, rfl, .inr ht, fun l nl => ⟨l, ks, rfl, sql_new, fun l2 nl2 => ?_⟩⟩
        have sm5 : Same H2 (upd H3 l (.lst ks)) := sm4.trans (same_new nl)
        have sm6 : Same H2 (upd (upd H3 l (.lst ks)) l2 (.lst ks.reverse)) := sm5.trans (same_new nl2)
        have e2' := sm6 _ _ e2
        have nl2w : l2 ≠ wt := fun z => by rw [z, sm5 _ _ e2] at nl2; cases nl2
        refine ⟨wt, l2, vs', ks.reverse, rfl, rfl, e2', upd_same, ?_, ?_⟩
        · have := hP3.length
          have hbig : es'.length ≤ (es'.map size).sum := by
            clear hP3 hP2 hP' hP hf hsum this hm
            induction es' with
            | nil => simp
            | cons a r ih =>
              have := size_kids a
              rw [List.map_cons, List.sum_cons, List.length_cons]
              omega
          rw [List.length_reverse]
          exact sl_small (by omega)
        · have hb2 : But wt (upd (upd H3 l (.lst ks)) l2 (.lst ks.reverse)) (upd (upd (upd H3 l (.lst ks)) l2 (.lst ks.reverse)) wt (.lst (vs' ++ ks.reverse))) := but_upd
          refine ⟨_, vs' ++ ks.reverse, es' ++ (kids x).reverse, acc', rfl, fun b o eb => ?_, ?_, upd_same, ?_, ?_, ?_, ?_⟩
          · exact hb2 b o (fun z => ne_of_none (s1 _ _ eb) nwt z) (sm6 _ _ (sm3 _ _ eb))
          · exact hb2 _ _ nsw (sm6 _ _ e1)
          · exact pr_app (Paired.mapP hP3 fun _ _ z => (z.same sm6).but e2' hb2) (pr_rev (Paired.mapP hk3 fun _ _ z => (z.same sm6).but e2' hb2))
          · rw [List.map_append, List.sum_append, List.map_reverse, List.sum_reverse]; omega
          · rw [List.map_append, List.sum_append, List.map_reverse, List.sum_reverse]; omega
          · rw [List.reverse_append, List.reverse_reverse, List.flatMap_append, ea]; exact hf
      rcases htag with ⟨rfl, sl', rfl, ho⟩ | ⟨htag, ho⟩
      · refine ⟨_, rfl, p, _, _, _, rfl, rfl, hp, atI_nat (j := 0) rfl, rfl, _, rfl, iteT ?_⟩
        refine ⟨_, rfl, p, _, _, _, rfl, rfl, hp, atI_nat (j := 1) rfl, _, rfl, sl, _, rfl, .inl (SqL.of esl2), rfl, flat_strs acc, _, rfl, ?_⟩
        rw [inV_str]
        by_cases hin : sl' ∈ acc
        · rw [decide_eq_true hin]
          refine iteF ?_
          exact rest acc _ (by rw [ho]; show acc = addNew acc sl'; unfold addNew; rw [if_pos hin]) (by omega) (by rw [ho]; exact Nat.le_refl _) sm2 esl2 upd_same hp hk hP2
        · rw [decide_eq_false hin]
          refine iteT ?_
          refine ⟨.ref sl, rfl, .inl ⟨rfl, _, SqL.of esl2⟩, _, rfl, p, _, _, _, rfl, rfl, hp, atI_nat (j := 1) rfl, sl, _, _, rfl, rfl, esl2, ?_, ?_⟩
          · rw [List.length_map]; exact sl_less (by omega)
          · have hb3 : But sl (upd H' wt (.lst vs')) (upd (upd H' wt (.lst vs')) sl (.lst (acc.map V.str ++ [.str sl']))) := but_upd
            refine rest (acc ++ [sl']) _ (by rw [ho]; show _ = addNew acc sl'; unfold addNew; rw [if_neg hin]) (by rw [ho]; simp) (by rw [ho]; exact Nat.le_refl _) (fun b o eb => ?_) ?_ (hb3 _ _ nws upd_same) (sqt_but esl2 hb3 hp) (Paired.mapP hk fun _ _ z => z.but esl2 hb3) (Paired.mapP hP2 fun _ _ z => z.but esl2 hb3)
            · exact hb3 b o (ne_of_none eb nsl) (sm2 _ _ eb)
            · rw [upd_same, List.map_append]; rfl
      · have hd : decide (V.str tag = V.str "slot") = false := decide_eq_false fun z => htag (V.str.inj z)
        refine ⟨_, rfl, p, _, _, _, rfl, rfl, hp, atI_nat (j := 0) rfl, rfl, _, rfl, ?_⟩
        rw [hd]
        refine iteF (iteF ?_)
        exact rest acc _ (by rw [ho]; rfl) (by omega) (by rw [ho]; exact Nat.zero_le _) sm2 esl2 upd_same hp hk hP2
end
end Ka

namespace Ka
open L2 PySem PySem.Spec PyProof.Rows

/-! ### a comprehension of two clauses, by words for each -/
/-- the second clause's loop, from which Nx is reached -/
def Inner (Nx : Hp → Prop) (g1 : TG) (tt1 : TT) (te : TE) (vs1 : List Nat) (D : Addr) (σ2 : L2.St) (J1 : It) (H4 : Hp) : Prop :=
  ∃ Wd : Nat → Nat → Hp → Prop, (∃ m, Wd 0 m H4) ∧ ∀ j m Z, Wd j m Z →
      (J1.stop j Z ∧ Nx Z) ∨ (J1.go j Z ∧ ∃ To : Hp → Prop, (∀ Y, To Y → ∃ m', m' < m ∧ Wd (j + 1) m' Y) ∧ ∀ x Y, J1.yld j Z x Y → g1 x (wipe σ2 vs1) Y fun τ U => wipe τ vs1 = wipe σ2 vs1 ∧
        tt1 τ U fun ok V1 => if ok = true then te τ V1 fun y V2 => ∃ got, V2 D = some (.lst got) ∧ got.length < sizeLine ∧ To (upd V2 D (.lst (got ++ [y]))) else To V1)
theorem inner_it {J1 : It} {n : Nat} {G : Hp → Prop} {Y : Nat → Hp → V → Hp → Prop} (wk : Walk J1 n G Y) {Nx : Hp → Prop} {g1 : TG} {tt1 : TT} {te : TE} {vs1 : List Nat} {D : Addr} {σ2 : L2.St} {H4 : Hp} (Pw : Nat → Hp → Prop) (h0 : Pw 0 H4) (hG : ∀ j H, j ≤ n → Pw j H → G H)
    (hs : ∀ j x H H', j < n → Pw j H → Y j H x H' → g1 x (wipe σ2 vs1) H' fun σ3 H5 => wipe σ3 vs1 = wipe σ2 vs1 ∧ tt1 σ3 H5 fun b H6 =>
      if b = true then te σ3 H6 fun y H7 => ∃ acc, H7 D = some (.lst acc) ∧ acc.length < sizeLine ∧ Pw (j + 1) (upd H7 D (.lst (acc ++ [y]))) else Pw (j + 1) H6) (hd : ∀ H, Pw n H → Nx H) : Inner Nx g1 tt1 te vs1 D σ2 J1 H4 := by
  refine ⟨fun j k H => k = n - j ∧ j ≤ n ∧ Pw j H, ⟨n, rfl, Nat.zero_le _, h0⟩, ?_⟩
  rintro j k H ⟨rfl, hj, p⟩
  by_cases hlt : j < n
  · refine .inr ⟨wk.goes j H hlt (hG j H hj p), Pw (j + 1), fun H' p' => ⟨n - (j + 1), by omega, rfl, hlt, p'⟩, fun x H' hy => hs j x H H' hlt p (wk.yields j H x H' hlt (hG j H hj p) hy)⟩
  · have e : j = n := by omega
    subst e
    exact .inl ⟨wk.stops H (hG j H hj p), hd H p⟩
theorem lc2_it {J : It} {n : Nat} {G : Hp → Prop} {Y : Nat → Hp → V → Hp → Prop} (wk : Walk J n G Y) {g g1 : TG} {tt tt1 : TT} {wi1 : TI} {te : TE} {vs vs1 : List Nat} {σ : L2.St} {H1 : Hp} {D : Addr} {Qd : Hp → Prop} (Pv : Nat → Hp → Prop) (h0 : Pv 0 (upd H1 D (.lst []))) (hG : ∀ i H, i ≤ n → Pv i H → G H)
    (hs : ∀ i x H H', i < n → Pv i H → Y i H x H' → g x (wipe σ vs) H' fun σ2 H2 => wipe σ2 vs = wipe σ vs ∧ tt σ2 H2 fun b H3 => if b = true then wi1 σ2 H3 fun J1 H4 => Inner (Pv (i + 1)) g1 tt1 te vs1 D σ2 J1 H4 else Pv (i + 1) H3) (hd : ∀ H, Pv n H → Qd H) :
    ∃ Wd : Nat → Nat → Hp → Prop, (∃ m, Wd 0 m (upd H1 D (.lst []))) ∧ ∀ i m Z, Wd i m Z →
      (J.stop i Z ∧ Qd Z) ∨ (J.go i Z ∧ ∃ To : Hp → Prop, (∀ Y, To Y → ∃ m', m' < m ∧ Wd (i + 1) m' Y) ∧ ∀ x Y, J.yld i Z x Y → g x (wipe σ vs) Y fun τ U => wipe τ vs = wipe σ vs ∧
        tt τ U fun ok V1 => if ok = true then wi1 τ V1 fun J1 V2 => Inner To g1 tt1 te vs1 D τ J1 V2 else To V1) := by
  refine ⟨fun i m H => m = n - i ∧ i ≤ n ∧ Pv i H, ⟨n, rfl, Nat.zero_le _, h0⟩, ?_⟩
  rintro i m H ⟨rfl, hi, p⟩
  by_cases hlt : i < n
  · refine .inr ⟨wk.goes i H hlt (hG i H hi p), Pv (i + 1), fun H' p' => ⟨n - (i + 1), by omega, rfl, hlt, p'⟩, fun x H' hy => hs i x H H' hlt p (wk.yields i H x H' hlt (hG i H hi p) hy)⟩
  · have e : i = n := by omega
    subst e
    exact .inl ⟨wk.stops H (hG i H hi p), hd H p⟩
theorem rows_take {ws slots : List Str} {i : Nat} {s : Str} (h : slots[i]? = some s) : allRows ws (slots.take (i + 1)) = (allRows ws (slots.take i)).flatMap fun row => ws.map fun w => row ++ [(s, w)] := by
  rw [List.take_add_one, h]
  exact allRows_snoc ws _ s
theorem gv_snoc {K : PySem.W.Frag} {H : Hp} {q r : Addr} {ps : List Addr} {g : List (Str × Str)} {s u : Str} (hp : Paired (fun p (x : Str × Str) => SqT K H p [.str x.1, .str x.2]) ps g) (hr : SqT K H r [.str s, .str u]) (hq : SqT K H q (ps.map V.ref ++ [.ref r])) : Gv K H q (g ++ [(s, u)]) :=
  ⟨ps ++ [r], by rw [List.map_append]; exact hq, pr_app hp (.cons hr .nil)⟩
theorem pow_small {ws slots : List Str} {n : Nat} (hw : ws.length ≤ 3) (hn : n ≤ 7) : ws.length ^ n ≤ 2187 :=
  Nat.le_trans (Nat.pow_le_pow_left hw n) (Nat.le_trans (Nat.pow_le_pow_right (by decide) hn) (by decide))
section
variable {mg : Str → Option Value} {base : Heap} {P : Program} {w : World} {K : PySem.W.Frag}

/-! ### all_given -/
abbrev n4 : List Str := ["words", "slots", "rows", "slot", "row", "word"]
theorem sc4 : FnScope n4 ["words", "slots"] (defScope (stK 4)) := ⟨rfl, rfl, rfl, by decide +kernel, rfl, by decide +kernel, by decide +kernel⟩
def spAll (K : PySem.W.Frag) : Sp := fun vs H Q _ => ∃ (a b : Addr) (ws slots : List Str), vs = [.ref a, .ref b] ∧ SqT K H a (ws.map V.str) ∧ SqT K H b (slots.map V.str) ∧ ws.length ≤ 3 ∧ slots.length ≤ 7 ∧
  ∀ l H' rs, Same H H' → H l = none → H' l = some (.lst (rs.map V.ref)) → Paired (Gv K H') rs (allRows ws slots) → Q (.ref l) H'
theorem ok_all {f : Addr} {fd : FuncData} {k : Nat} (F : Fun K "all_given" "all_given" (stK 4) f fd) : FnOk P w K mg base CX0 (k + 1) f fd ["words", "slots"] (spAll K) := by
  refine F.ok sc4 (fun vs H Q E h => ?_) (fun cdv A outer s H vs Q E hr h => ?_)
  · obtain ⟨a, b, ws, slots, rfl, _⟩ := h
    rfl
  · obtain ⟨a, b, ws, slots, rfl, hW, hS, lw, ls, q⟩ := h
    refine ⟨_, pss_cons (ps_set (i := 2) sc4.nd rfl (.inl rfl) (pe_lst (pa_cons (pe_tup pa_nil) pa_nil)))
      (pss_cons (ps_for PassesOwn.never rfl (pi_tup (pv 1)) (pg_name (i := 3) sc4.nd rfl (.inr rfl))
        (pss_one (ps_setLc2 (i := 2) (own := [("row", 4), ("word", 5)]) (vs1 := [5]) (g := gName 4) (g1 := gName 5) (tt := tYes) (tt1 := tYes) (wi1 := iTup K (tVar 0)) (te := tOp (rCatS K) (tVar 4) (tTup (tCons (tTup (tCons (tVar 3) (tCons (tVar 5) tNil))) tNil))) rfl sc4.nd rfl rfl (sw_true rfl rfl rfl (by decide +kernel)) (pi_list (pv 2)) (blkOk_by (N := n4) (sc := defScope (stK 4)) (by decide +kernel)) (by decide)
          (fun _ _ _ _ _ => pg_name (i := 4) sc4.nd rfl (.inl rfl)) (fun _ _ _ _ _ => pts_nil) (fun _ _ _ _ _ => pi_tup (pv 0)) (fun _ _ _ _ _ => pg_name (i := 5) sc4.nd rfl (.inl rfl)) (fun _ _ _ _ _ => pts_nil)
          (fun _ _ _ _ _ => pe_op op_catS (pv 4) (pe_tup (pa_cons (pe_tup (pa_cons (pv 3) (pa_cons (pv 5) pa_nil))) pa_nil))))))
      (pss_one (ps_ret (pv 2)))), ?_⟩
    -- rows = [()]
    refine ⟨Nat.zero_le _, fun t0 nt0 => ⟨sl_small (by show 1 ≤ 10000000; decide), fun l0 nl0 => ?_⟩⟩
    have s1 : Same H (upd H t0 (.tup [])) := same_new nt0
    have s2 : Same H (upd (upd H t0 (.tup [])) l0 (.lst [.ref t0])) := s1.trans (same_new nl0)
    have nl0H : H l0 = none := s1.free nl0
    -- for slot in slots
    refine ⟨_, rfl, b, rfl, ⟨_, same_sqt s2 hS⟩, for_tup (xs := slots.map V.str) (fun i σ H' => ∃ y3 l rs, σ = [some (.ref a), some (.ref b), some (.ref l), y3, none, none] ∧ Same H H' ∧ H l = none ∧ H' l = some (.lst (rs.map V.ref)) ∧ Paired (Gv K H') rs (allRows ws (slots.take i)))
      ⟨none, l0, [t0], rfl, s2, nl0H, upd_same, .cons ⟨[], same_sqt (same_new nl0) sqt_new, .nil⟩ .nil⟩ (fun i σ H' _ z => ?_) (fun i x σ H' hx z => ?_) (fun σ H' z => ?_)⟩
    · obtain ⟨_, _, _, _, sm, _⟩ := z
      exact same_sqt sm hS
    · obtain ⟨y3, l, rs, rfl, sm, nlH, el, hP⟩ := z
      rw [List.getElem?_map] at hx
      obtain ⟨sl, hsl, rfl⟩ := Option.map_eq_some_iff.mp hx
      have hi : i < slots.length := (List.getElem?_eq_some_iff.mp hsl).1
      have hlen := hP.length
      rw [allRows_length, List.length_take, Nat.min_eq_left (Nat.le_of_lt hi)] at hlen
      have hbig : ws.length ^ (i + 1) ≤ 2187 := pow_small (slots := slots) lw (by omega)
      -- rows = [row + ((slot, word),) for row in rows for word in words]
      refine ⟨_, rfl, l, rfl, ⟨_, SqL.of el⟩, fun D nD => ?_⟩
      have sD : Same H' (upd H' D (.lst [])) := same_new nD
      have nDH : H D = none := sm.free nD
      refine lc2_it (walk_list (xs := rs.map V.ref)) (vs := [4, 5]) (vs1 := [5]) (fun m H2 => ∃ qs, Same H' H2 ∧ H2 D = some (.lst (qs.map V.ref)) ∧ Paired (Gv K H2) qs (((allRows ws (slots.take i)).take m).flatMap fun row => ws.map fun w => row ++ [(sl, w)]))
        ⟨[], sD, upd_same, .nil⟩ (fun m H2 _ z => ?_) (fun m x H2 H3 hm z hy => ?_) (fun H2 z => ?_)
      · obtain ⟨_, sm2, _⟩ := z
        exact sm2.seq (SqL.of el)
      · obtain ⟨qs, sm2, eD, hQ⟩ := z
        obtain ⟨rfl, hx⟩ := hy
        rw [List.getElem?_map] at hx
        obtain ⟨r, hr', rfl⟩ := Option.map_eq_some_iff.mp hx
        obtain ⟨row, hrow, hGv⟩ := pr_getL hP hr'
        have et : (allRows ws (slots.take i)).take (m + 1) = (allRows ws (slots.take i)).take m ++ [row] := by rw [List.take_add_one, hrow]; rfl
        refine ⟨rfl, _, rfl, a, rfl, ⟨_, same_sqt sm2 (same_sqt sm hW)⟩, ?_⟩
        refine inner_it (walk_tup (xs := ws.map V.str)) (fun j H4 => ∃ qs, Same H' H4 ∧ H4 D = some (.lst (qs.map V.ref)) ∧ Paired (Gv K H4) qs ((((allRows ws (slots.take i)).take m).flatMap fun row => ws.map fun w => row ++ [(sl, w)]) ++ (ws.take j).map fun w => row ++ [(sl, w)]))
          ⟨qs, sm2, eD, by simpa using hQ⟩ (fun j H4 _ z => ?_) (fun j x H4 H5 hj z hy => ?_) (fun H4 z => ?_)
        · obtain ⟨_, sm4, _⟩ := z
          exact same_sqt sm4 (same_sqt sm hW)
        · obtain ⟨qs', sm4, eD4, hQ4⟩ := z
          obtain ⟨rfl, hx⟩ := hy
          rw [List.getElem?_map] at hx
          obtain ⟨u, hu, rfl⟩ := Option.map_eq_some_iff.mp hx
          obtain ⟨ps, hg, hps⟩ := hGv
          have hl4 := hQ4.length
          have hrl := row_len (List.mem_of_getElem? hrow)
          have hpl := hps.length
          rw [List.length_take] at hrl
          refine ⟨rfl, _, rfl, _, rfl, _, rfl, sl_small (by show 2 ≤ 10000000; decide), fun p1 np1 => ⟨sl_small (by show 1 ≤ 10000000; decide), fun p2 np2 => ?_⟩⟩
          have s5 : Same H5 (upd H5 p1 (.tup [.str sl, .str u])) := same_new np1
          have s6 : Same (upd H5 p1 (.tup [.str sl, .str u])) (upd (upd H5 p1 (.tup [.str sl, .str u])) p2 (.tup [.ref p1])) := same_new np2
          refine ⟨r, p2, ps.map V.ref, [.ref p1], rfl, rfl, same_sqt s6 (same_sqt s5 (same_sqt sm4 hg)), sqt_new, by rw [List.length_map]; exact sl_small (by simp only [List.length_singleton]; omega), fun p3 H6 s7 hc => ?_⟩
          have sm6 : Same H5 H6 := (s5.trans s6).trans s7
          have eD6 := sm6 _ _ eD4
          refine ⟨qs'.map V.ref, eD6, ?_, qs' ++ [p3], fun b' o eb => ?_, by rw [upd_same, List.map_append]; rfl, ?_⟩
          · rw [List.length_map, hl4, List.length_append, List.length_flatMap, List.length_map, List.length_take]
            have : ∀ L : List (List (Str × Str)), (L.map fun row => (ws.map fun w => row ++ [(sl, w)]).length).sum = L.length * ws.length := by
              intro L
              induction L with
              | nil => simp
              | cons a L ih => rw [List.map_cons, List.sum_cons, ih, List.length_map, List.length_cons, Nat.add_mul, Nat.one_mul]; omega
            rw [this, List.length_take, allRows_length, List.length_take]
            have h1 : min m (ws.length ^ min i slots.length) * ws.length ≤ 2187 * 3 := Nat.mul_le_mul (Nat.le_trans (Nat.min_le_right _ _) (pow_small (slots := slots) lw (by omega))) lw
            exact sl_less (by omega)
          · have hb : But D H6 (upd H6 D (.lst (qs'.map V.ref ++ [.ref p3]))) := but_upd
            exact hb b' o (ne_of_none eb nD) (sm6 _ _ (sm4 _ _ eb))
          · have hb : But D H6 (upd H6 D (.lst (qs'.map V.ref ++ [.ref p3]))) := but_upd
            have ew : ws.take (j + 1) = ws.take j ++ [u] := by rw [List.take_add_one, hu]; rfl
            rw [ew, List.map_append, ← List.append_assoc]
            refine pr_app (Paired.mapP hQ4 fun _ _ z => (z.same sm6).but eD6 hb) (.cons ?_ .nil)
            refine (gv_snoc (Paired.mapP hps fun _ _ z => same_sqt sm6 (same_sqt sm4 z)) (same_sqt s7 (same_sqt s6 sqt_new)) hc).but eD6 hb
        · obtain ⟨qs', sm4, eD4, hQ4⟩ := z
          rw [et, List.flatMap_append]
          rw [List.length_map, List.take_length] at hQ4
          exact ⟨qs', sm4, eD4, by simpa using hQ4⟩
      · obtain ⟨qs, sm2, eD, hQ⟩ := z
        refine ⟨_, D, qs, rfl, sm.trans sm2, nDH, eD, ?_⟩
        rw [rows_take hsl]
        rw [List.length_map, hP.length, List.take_length] at hQ
        exact hQ
    · obtain ⟨y3, l, rs, rfl, sm, nlH, el, hP⟩ := z
      rw [List.length_map, List.take_length] at hP
      exact ⟨_, rfl, q l H' rs sm nlH el hP⟩
end
end Ka

namespace Ka
open L2 PySem PySem.Spec PyProof.Rows

/-! ### a def that may be called -/
structure Cal (P : Program) (w : World) (K : PySem.W.Frag) (mg : Str → Option Value) (base : Heap) (x : Str) (k : Nat) (f : Addr) (fd : FuncData) (ps : List Str) (sp : Sp) : Prop where
  ok : FnOk P w K mg base CX0 k f fd ps sp
  kp : PySem.W.keepIn K
    (.ref f) = true
  b : Binds K fd ps []
  g : mg x = some (.ref f)
theorem pe_cal {X : Cx} {x : Str} {k : Nat} {f : Addr} {fd : FuncData} {ps : List Str} {sp : Sp} {p pos : Pos} {e : Expr} {es : List Expr} {t : TA} (C : Cal X.prog X.w X.K X.mg X.base x k f fd ps sp) (hr : Room k X.A) (ha : PA X (e :: es) t)
    (hg : Gl X x := by rfl) (hdb : (x == ("__debug__" : Str)) = false := by decide) (he : starEach (e :: es) X.env = (false, eval e X.env) :: starEach es X.env := by rfl) (hpl : (backTo pos (starEach es X.env)).any (·.1) = false := by rfl) :
    PE X (.Call (.Name x p) (e :: es) [] pos) (tCall sp [] E0 t) := pe_call C.ok hr hg C.g C.kp C.b .nil pass0 ha hdb he hpl

/-- the words and the slots of the law -/
structure Setup (ws S : List Str) : Prop where
  lo : 2 ≤ ws.length
  hi : ws.length ≤ 3
  sl : S.length ≤ 7
theorem Setup.first {ws S : List Str} (h : Setup ws S) : ∃ w0, ws[0]? = some w0 := ⟨_, List.getElem?_eq_getElem (show 0 < ws.length by have := h.lo; omega)⟩
theorem size_depth : ∀ e : Ex Str, size e < 2 ^ (depth e + 1)
  | .word _ => show 1 < 2 ^ (0 + 1) by decide
  | .slot _ => show 1 < 2 ^ (0 + 1) by decide
  | .map _ e => by
    have := size_depth e
    show size e + 1 < 2 ^ (depth e + 1 + 1)
    rw [Nat.pow_succ 2 (depth e + 1)]
    omega
  | .pair _ e f => by
    have h1 := size_depth e
    have h2 := size_depth f
    have m1 : 2 ^ (depth e + 1) ≤ 2 ^ (max (depth e) (depth f) + 1) := Nat.pow_le_pow_right (by decide) (by omega)
    have m2 : 2 ^ (depth f + 1) ≤ 2 ^ (max (depth e) (depth f) + 1) := Nat.pow_le_pow_right (by decide) (by omega)
    show size e + size f + 1 < 2 ^ (max (depth e) (depth f) + 1 + 1)
    rw [Nat.pow_succ 2 (max (depth e) (depth f) + 1)]
    omega
theorem size_small {e : Ex Str} (h : depth e ≤ 6) : size e ≤ 1000 := by
  have h1 := size_depth e
  have h2 : 2 ^ (depth e + 1) ≤ 2 ^ 7 := Nat.pow_le_pow_right (by decide) (by omega)
  have h3 : (2 : Nat) ^ 7 = 128 := by decide
  omega
/-- an expression of the law -/
structure Fine (ws S : List Str) (e : Ex Str) : Prop where
  wf : WF ws S e
  dp : depth e ≤ 6
theorem Fine.len {ws S : List Str} {e : Ex Str} (h : Fine ws S e) (hs : Setup ws S) : (reads e).length ≤ 7 :=
  Nat.le_trans (nodup_len (nodup_reads e) fun x hx => h.wf.slots x (mem_reads.mp hx)) hs.sl
theorem find_at {α : Type} {p : α → Bool} : ∀ {l : List α} {i : Nat} {g : α}, (∀ x ∈ l.take i, p x = false) → l[i]? = some g → p g = true → l.find? p = some g
  | [], _, _, _, hi, _ => by simp at hi
  | a :: r, 0, g, _, h, hp => by
    have e : a = g := by simpa using h
    subst e
    exact List.find?_cons_of_pos hp
  | a :: r, i + 1, g, hn, h, hp => by
    have ha : p a = false := hn a (by simp)
    rw [List.find?_cons_of_neg (by rw [ha]; decide)]
    exact find_at (l := r) (i := i) (fun x hx => hn x (by simp [hx])) (by simpa using h) hp
/-- the answer of first_unlike -/
def Res (K : PySem.W.Frag) (H : Hp) (v : V) : Option (List (Str × Str)) → Prop
  | none => v = .non
  | some g => ∃ p, v = .ref p ∧ Gv K H p g
section
variable {mg : Str → Option Value} {base : Heap} {P : Program} {w : World} {K : PySem.W.Frag}

/-! ### differs_at -/
abbrev n5 : List Str := ["words", "expr", "slots", "at", "given", "first", "word", "changed"]
theorem sc5 : FnScope n5 ["words", "expr", "slots", "at"] (defScope (stK 5)) := ⟨rfl, rfl, rfl, by decide +kernel, rfl, by decide +kernel, by decide +kernel⟩
def spDiffers (K : PySem.W.Frag) : Sp := fun vs H Q _ => ∃ (a b : Addr) (v : V) (i : Nat) (s : Str) (e : Ex Str) (ws S slots : List Str), vs = [.ref a, v, .ref b, .int (i : Nat)] ∧ Wd H a ws ∧ Rep K H v e ∧ SqT K H b (slots.map V.str) ∧
  Setup ws S ∧ Fine ws S e ∧ slots.length ≤ 7 ∧ (∀ t ∈ slotsOf e, t ∈ slots) ∧ slots[i]? = some s ∧ ∀ H', Same H H' → Q (.bl (differs ws e slots i s)) H'
theorem ok_differs {f fA fV : Addr} {fd fdA fdV : FuncData} (F : Fun K "differs_at" "differs_at" (stK 5) f fd) (CA : Cal P w K mg base "all_given" 1 fA fdA ["words", "slots"] (spAll K)) (CV : Cal P w K mg base "value" 8 fV fdV ["words", "expr", "given"] (spValue K 6)) :
    FnOk P w K mg base CX0 9 f fd ["words", "expr", "slots", "at"] (spDiffers K) := by
  refine F.ok sc5 (fun vs H Q E h => ?_) (fun cdv A outer s H vs Q E hr h => ?_)
  · obtain ⟨a, b, v, i, s, e, ws, S, slots, rfl, _⟩ := h
    rfl
  · obtain ⟨a, b, v, i, sl, e, ws, S, slots, rfl, hW, hR, hS, su, fe, ls, hsub, hsl, q⟩ := h
    refine ⟨_, pss_cons (ps_for PassesOwn.never rfl (pi_list (pe_cal CA (hr.mono (by decide)) (pa_cons (pv 0) (pa_cons (pv 2) pa_nil)))) (pg_name (i := 4) sc5.nd rfl (.inl rfl))
        (pss_cons (ps_set (i := 5) sc5.nd rfl (.inl rfl) (pe_cal CV hr (pa_cons (pv 0) (pa_cons (pv 1) (pa_cons (pv 4) pa_nil)))))
        (pss_one (ps_for PassesOwn.never rfl (pi_tup (pv 0)) (pg_name (i := 6) sc5.nd rfl (.inl rfl))
          (pss_cons (ps_set (i := 7) sc5.nd rfl (.inl rfl) (pe_op op_catS (pe_op op_catS (pe_slice sl_tupS (pv 4) po_none (po_some (pv 3)))
              (pe_tup (pa_cons (pe_tup (pa_cons (pe_ix ix_tup (pv 2) (pv 3) (fun _ _ => rfl)) (pa_cons (pv 6) pa_nil))) pa_nil))) (pe_slice sl_tupS (pv 4) (po_some (pe_op op_add (pv 3) pe_int)) po_none)))
          (pss_one (ps_if (pt_cmpR op_ne (pe_cal CV hr (pa_cons (pv 0) (pa_cons (pv 1) (pa_cons (pv 7) pa_nil)))) (pv 5) (nomark _)) (pss_one (ps_ret pe_bl)) pss_nil)))))))
      (pss_one (ps_ret pe_bl)), ?_⟩
    -- for given in all_given(words, slots)
    refine ⟨_, rfl, _, rfl, a, b, ws, slots, rfl, hW.sqt, hS, su.hi, ls, fun l H1 rs s1 nl el hP => ?_⟩
    have done : ∀ g, g ∈ allRows ws slots → (∀ u, u ∈ ws → val ws (setAt g i sl u) e = val ws g e) → (ws.any fun u => decide (val ws (setAt g i sl u) e ≠ val ws g e)) = false := fun g hg h => by
      cases z : (ws.any fun u => decide (val ws (setAt g i sl u) e ≠ val ws g e)) with
      | false => rfl
      | true =>
        obtain ⟨u, hu, hd⟩ := List.any_eq_true.mp z
        exact absurd (h u hu) (of_decide_eq_true hd)
    refine ⟨l, rfl, ⟨_, SqL.of el⟩, for_list (xs := rs.map V.ref) (fun n σ H' => ∃ y4 y5 y6 y7, σ = [some (.ref a), some v, some (.ref b), some (.int (i : Nat)), y4, y5, y6, y7] ∧ Same H1 H' ∧
        ∀ g, g ∈ (allRows ws slots).take n → ∀ u, u ∈ ws → val ws (setAt g i sl u) e = val ws g e)
      ⟨none, none, none, none, rfl, Same.refl _, fun g hg => by simp at hg⟩ (fun n σ H' _ z => ?_) (fun n x σ H' hx z => ?_) (fun σ H' z => ?_)⟩
    · obtain ⟨_, _, _, _, _, sm, _⟩ := z
      exact sm.seq (SqL.of el)
    · obtain ⟨y4, y5, y6, y7, rfl, sm, hall⟩ := z
      rw [List.getElem?_map] at hx
      obtain ⟨r, hr', rfl⟩ := Option.map_eq_some_iff.mp hx
      obtain ⟨g, hg, hGv⟩ := pr_getL hP hr'
      have hgm : g ∈ allRows ws slots := List.mem_of_getElem? hg
      have hcv : Cov ws g (slotsOf e) := (cov_of_row hgm).sub hsub
      have sH : Same H H' := s1.trans sm
      -- first = value(words, expr, given)
      refine ⟨_, rfl, _, rfl, _, rfl, a, r, v, e, ws, S, g, rfl, hW.same sH, hR.same sH, hGv.same sm, fe.wf, hcv, fe.dp, fun x hx hxm => ?_⟩
      -- for word in words
      refine ⟨_, rfl, a, rfl, ⟨_, (hW.same sH).sqt⟩, for_tup (xs := ws.map V.str) (fun j σ H2 => ∃ y6 y7, σ = [some (.ref a), some v, some (.ref b), some (.int (i : Nat)), some (.ref r), some (.str x), y6, y7] ∧ Same H1 H2 ∧
          ∀ u, u ∈ ws.take j → val ws (setAt g i sl u) e = val ws g e)
        ⟨_, _, rfl, sm, fun u hu => by simp at hu⟩ (fun j σ H2 _ z => ?_) (fun j y σ H2 hy z => ?_) (fun σ H2 z => ?_)⟩
      · obtain ⟨_, _, _, sm2, _⟩ := z
        exact (hW.same (s1.trans sm2)).sqt
      · obtain ⟨y6, y7, rfl, sm2, hin⟩ := z
        rw [List.getElem?_map] at hy
        obtain ⟨u, hu, rfl⟩ := Option.map_eq_some_iff.mp hy
        have hum : u ∈ ws := List.mem_of_getElem? hu
        obtain ⟨ps, hps, hpp⟩ := hGv.same sm2
        have hpl := hpp.length
        have hgl := row_len hgm
        -- changed = given[:at] + ((slots[at], word),) + given[at + 1:]
        refine ⟨_, rfl, _, rfl, _, rfl, r, _, rfl, hps, fun p1 H3 s3 h3 => ?_⟩
        rw [cut_to] at h3
        have hsl' : (slots.map V.str)[i]? = some (.str sl) := by rw [List.getElem?_map, hsl]; rfl
        refine ⟨_, rfl, _, rfl, b, _, _, _, rfl, rfl, same_sqt (s1.trans (sm2.trans s3)) hS, atI_nat hsl', _, rfl, sl_small (by show 2 ≤ 10000000; decide), fun p2 np2 => ⟨sl_small (by show 1 ≤ 10000000; decide), fun p3 np3 => ?_⟩⟩
        have s4 := s3.trans (same_new (o := .tup [.str sl, .str u]) np2)
        have s5 : Same H3 (upd (upd H3 p2 (.tup [.str sl, .str u])) p3 (.tup [.ref p2])) := (same_new np2).trans (same_new np3)
        refine ⟨p1, p3, _, [.ref p2], rfl, rfl, same_sqt s5 h3, sqt_new, ?_, fun p4 H4 s6 h4 => ?_⟩
        · rw [List.length_take, List.length_map]; exact sl_small (by simp only [List.length_singleton]; omega)
        have s7 : Same H2 H4 := (s3.trans s5).trans s6
        refine ⟨_, rfl, _, rfl, _, _, rfl, rfl, _, rfl, r, _, rfl, same_sqt s7 hps, fun p5 H5 s8 h5 => ?_⟩
        have e1 : cutV (ps.map V.ref) (some ((i : Int) + 1)) none = (ps.map V.ref).drop (i + 1) := cut_from _ (i + 1)
        rw [e1] at h5
        refine ⟨p4, p5, _, _, rfl, rfl, same_sqt s8 h4, h5, ?_, fun p6 H6 s9 h6 => ?_⟩
        · simp only [List.length_append, List.length_take, List.length_drop, List.length_map, List.length_singleton]
          exact sl_small (by omega)
        have s10 : Same H2 H6 := (s7.trans s8).trans s9
        have sH6 : Same H H6 := s1.trans (sm2.trans s10)
        have hp2 : SqT K H6 p2 [.str sl, .str u] := same_sqt ((s6.trans s8).trans s9) (same_sqt (same_new np3) sqt_new)
        have hGv6 : Gv K H6 p6 (setAt g i sl u) := ⟨ps.take i ++ [p2] ++ ps.drop (i + 1), by rw [List.map_append, List.map_append, List.map_take, List.map_drop]; exact h6,
          pr_app (pr_app (pr_take i (Paired.mapP hpp fun _ _ z => same_sqt s10 z)) (.cons hp2 .nil)) (pr_drop (i + 1) (Paired.mapP hpp fun _ _ z => same_sqt s10 z))⟩
        have hrow := setAt_row hgm hsl hum
        -- if value(words, expr, changed) != first
        refine ⟨_, rfl, _, rfl, _, rfl, a, p6, v, e, ws, S, _, rfl, hW.same sH6, hR.same sH6, hGv6, fe.wf, (cov_of_row hrow).sub hsub, fe.dp, fun y hy hym => ?_⟩
        refine ⟨.str x, rfl, rfl, _, rfl, ?_⟩
        by_cases hyx : y = x
        · subst hyx
          rw [decide_eq_true rfl]
          refine iteF ⟨_, _, rfl, sm2.trans s10, fun t ht => ?_⟩
          have ew : ws.take (j + 1) = ws.take j ++ [u] := by rw [List.take_add_one, hu]; rfl
          rw [ew] at ht
          rcases List.mem_append.mp ht with z | z
          · exact hin t z
          · have et : t = u := by simpa using z
            rw [et, hy, hx]
        · rw [decide_eq_false (fun z => hyx (V.str.inj z))]
          refine iteT ?_
          have hd : differs ws e slots i sl = true := List.any_eq_true.mpr ⟨g, hgm, List.any_eq_true.mpr ⟨u, hum, decide_eq_true fun z => by
            rw [hy, hx] at z
            exact hyx (Option.some.inj z)⟩⟩
          rw [hd] at q
          exact q _ sH6
      · obtain ⟨y6, y7, rfl, sm2, hin⟩ := z
        rw [List.length_map, List.take_length] at hin
        refine ⟨_, _, _, _, rfl, sm2, fun g' hg' => ?_⟩
        have eg : (allRows ws slots).take (n + 1) = (allRows ws slots).take n ++ [g] := by rw [List.take_add_one, hg]; rfl
        rw [eg] at hg'
        rcases List.mem_append.mp hg' with z | z
        · exact hall g' z
        · have et : g' = g := by simpa using z
          rw [et]; exact hin
    · obtain ⟨_, _, _, _, rfl, sm, hall⟩ := z
      rw [List.length_map, hP.length, List.take_length] at hall
      have hd : differs ws e slots i sl = false := by
        unfold differs
        cases z : ((allRows ws slots).any fun g => ws.any fun u => decide (val ws (setAt g i sl u) e ≠ val ws g e)) with
        | false => rfl
        | true =>
          obtain ⟨g, hg, h⟩ := List.any_eq_true.mp z
          rw [done g hg (hall g hg)] at h
          cases h
      rw [hd] at q
      exact q _ (s1.trans sm)

/-! ### matters -/
abbrev n6 : List Str := ["words", "expr", "slots", "at", "slot"]
theorem sc6 : FnScope n6 ["words", "expr"] (defScope (stK 6)) := ⟨rfl, rfl, rfl, by decide +kernel, rfl, by decide +kernel, by decide +kernel⟩
def spMatters (K : PySem.W.Frag) : Sp := fun vs H Q _ => ∃ (a : Addr) (v : V) (e : Ex Str) (ws S : List Str), vs = [.ref a, v] ∧ Wd H a ws ∧ Rep K H v e ∧ Setup ws S ∧ Fine ws S e ∧ ∀ p H', Same H H' → SqT K H' p ((mattersL ws e).map V.str) → Q (.ref p) H'
theorem ok_matters {f fR fD : Addr} {fd fdR fdD : FuncData} (F : Fun K "matters" "matters" (stK 6) f fd) (CR : Cal P w K mg base "reads" 1 fR fdR ["expr"] (spReads K)) (CD : Cal P w K mg base "differs_at" 9 fD fdD ["words", "expr", "slots", "at"] (spDiffers K))
    (mt : mg "tuple" = none) (me : mg "enumerate" = none) : FnOk P w K mg base CX0 10 f fd ["words", "expr"] (spMatters K) := by
  refine F.ok sc6 (fun vs H Q E h => ?_) (fun cdv A outer s H vs Q E hr h => ?_)
  · obtain ⟨a, v, e, ws, S, rfl, _⟩ := h
    rfl
  · obtain ⟨a, v, e, ws, S, rfl, hW, hR, su, fe, q⟩ := h
    refine ⟨_, pss_cons (ps_set (i := 2) sc6.nd rfl (.inr rfl) (pe_cal CR (hr.mono (by decide)) (pa_cons (pv 1) pa_nil)))
      (pss_one (ps_ret (pe_callTy call_tuple_of (by rfl) mt (by decide +kernel) (pa_cons (pe_lc (own := [("at", 3), ("slot", 4)]) (g := gTup K 2 (gCons (gName 3) (gCons (gName 4) gNil)))
        (tt := tB (tCall (spDiffers K) [] E0 (tCons (tVar 0) (tCons (tVar 1) (tCons (tVar 2) (tCons (tVar 3) tNil)))))) (te := tVar 4) rfl sc6.nd (pi_enT (by rfl) me (pa_cons (pv 2) pa_nil)) (blkOk_by (N := n6) (sc := defScope (stK 6)) (by decide +kernel))
        (fun _ _ _ _ _ => pg_tup rfl (pgs_cons (pg_name (i := 3) sc6.nd rfl (.inl rfl)) (pgs_cons (pg_name (i := 4) sc6.nd rfl (.inl rfl)) pgs_nil)))
        (fun _ _ _ _ _ => pts_one (pt_val (pe_cal CD hr (pa_cons (pv 0) (pa_cons (pv 1) (pa_cons (pv 2) (pa_cons (pv 3) pa_nil))))))) (fun _ _ _ _ _ => pv 4)) pa_nil)))), ?_⟩
    refine ⟨_, rfl, v, e, rfl, hR, size_small fe.dp, fun b H1 s1 hb => ?_⟩
    have ls := fe.len su
    refine ⟨_, rfl, b, _, rfl, hb, fun D nD => ?_⟩
    have sD : Same H1 (upd H1 D (.lst [])) := same_new nD
    refine lc_it (walk_en (xs := (reads e).map V.str)) (vs := [3, 4]) (fun i H2 => Same H1 H2 ∧ H2 D = some (.lst ((keepIx (fun i s => differs ws e (reads e) i s) ((reads e).take i)).map V.str)))
      ⟨sD, upd_same⟩ (fun i H2 _ z => ?_) (fun i x H2 H3 hi z hy => ?_) (fun H2 z => ?_)
    · exact same_sqt z.1 hb
    · obtain ⟨sm, eD⟩ := z
      obtain ⟨T, x0, y, rfl, nT, rfl, ex, ey⟩ := hy
      have ex' : V.int (i : Nat) = x0 := Option.some.inj ex
      subst ex'
      replace ey : ((reads e).map V.str)[i]? = some y := ey
      rw [List.getElem?_map] at ey
      obtain ⟨sl, hsl, rfl⟩ := Option.map_eq_some_iff.mp ey
      have sT : Same H2 (upd H2 T (.tup [.int (i : Nat), .str sl])) := same_new nT
      have sm2 := sm.trans sT
      refine ⟨T, _, rfl, sqt_new, rfl, _, _, rfl, _, _, rfl, rfl, rfl, ?_⟩
      refine ⟨_, rfl, _, rfl, _, rfl, _, rfl, a, b, v, i, sl, e, ws, S, reads e, rfl, hW.same (s1.trans sm2), hR.same (s1.trans sm2), same_sqt sm2 hb, su, fe, ls, fun t ht => mem_reads.mpr ht, hsl, fun H4 s4 => ⟨_, rfl, ?_⟩⟩
      have eD4 := s4 _ _ (sT _ _ eD)
      have hk := keepIx_take (fun i s => differs ws e (reads e) i s) hsl
      cases hd : differs ws e (reads e) i sl with
      | true =>
        rw [hd] at hk
        refine iteT ⟨_, rfl, _, eD4, ?_, fun b' o eb => ?_, ?_⟩
        · have h1 := keepIx_len (fun i s => differs ws e (reads e) i s) ((reads e).take i)
          rw [List.length_take] at h1
          rw [List.length_map]; exact sl_less (by omega)
        · have hb2 : But D H4 (upd H4 D (.lst ((keepIx (fun i s => differs ws e (reads e) i s) ((reads e).take i)).map V.str ++ [.str sl]))) := but_upd
          exact hb2 b' o (ne_of_none eb nD) (s4 _ _ (sm2 _ _ eb))
        · rw [upd_same, hk, if_pos rfl, List.map_append]; rfl
      | false =>
        rw [hd] at hk
        refine iteF ⟨sm2.trans s4, ?_⟩
        rw [hk, if_neg (by decide)]
        exact eD4
    · obtain ⟨sm, eD⟩ := z
      rw [List.length_map, List.take_length] at eD
      exact ⟨D, _, rfl, .inl ⟨SqL.of eD, fun p np => q p _ ((s1.trans sm).trans (same_new np)) sqt_new⟩⟩

/-! ### first_unlike -/
abbrev n7 : List Str := ["words", "expr", "other", "slots", "further", "given", "slot"]
theorem sc7 : FnScope n7 ["words", "expr", "other"] (defScope (stK 7)) := ⟨rfl, rfl, rfl, by decide +kernel, rfl, by decide +kernel, by decide +kernel⟩
def spUnlike (K : PySem.W.Frag) : Sp := fun vs H Q _ => ∃ (a : Addr) (v u : V) (e o : Ex Str) (ws S : List Str), vs = [.ref a, v, u] ∧ Wd H a ws ∧ Rep K H v e ∧ Rep K H u o ∧ Setup ws S ∧ Fine ws S e ∧ Fine ws S o ∧
  ∀ z H', Same H H' → Res K H' z (firstUnlike ws e o) → Q z H'
theorem all_len {ws S : List Str} {e o : Ex Str} (su : Setup ws S) (fe : Fine ws S e) (fo : Fine ws S o) : (allSlots e o).length ≤ 7 :=
  Nat.le_trans (nodup_len (nodup_allSlots e o) fun x hx => by
    rcases mem_allSlots.mp hx with z | z
    · exact fe.wf.slots x z
    · exact fo.wf.slots x z) su.sl
theorem filter_take {α : Type} (p : α → Bool) {l : List α} {i : Nat} {x : α} (h : l[i]? = some x) : (l.take (i + 1)).filter p = if p x = true then (l.take i).filter p ++ [x] else (l.take i).filter p := by
  have e : l.take (i + 1) = l.take i ++ [x] := by rw [List.take_add_one, h]; rfl
  rw [e, List.filter_append]
  by_cases hp : p x = true
  · simp [hp]
  · simp [hp]
theorem ok_unlike {f fR fA fV : Addr} {fd fdR fdA fdV : FuncData} (F : Fun K "first_unlike" "first_unlike" (stK 7) f fd) (CR : Cal P w K mg base "reads" 1 fR fdR ["expr"] (spReads K)) (CA : Cal P w K mg base "all_given" 1 fA fdA ["words", "slots"] (spAll K))
    (CV : Cal P w K mg base "value" 8 fV fdV ["words", "expr", "given"] (spValue K 6)) (mt : mg "tuple" = none) : FnOk P w K mg base CX0 9 f fd ["words", "expr", "other"] (spUnlike K) := by
  refine F.ok sc7 (fun vs H Q E h => ?_) (fun cdv A outer s H vs Q E hr h => ?_)
  · obtain ⟨a, v, u, e, o, ws, S, rfl, _⟩ := h
    rfl
  · obtain ⟨a, v, u, e, o, ws, S, rfl, hW, hR, hR2, su, fe, fo, q⟩ := h
    refine ⟨_, pss_cons (ps_set (i := 3) sc7.nd rfl (.inr rfl) (pe_cal CR (hr.mono (by decide)) (pa_cons (pv 1) pa_nil)))
      (pss_cons (ps_set (i := 4) sc7.nd rfl (.inl rfl) (pe_callTy call_tuple_of (by rfl) mt (by decide +kernel) (pa_cons (pe_lc (own := [("slot", 6)]) (g := gName 6) (tt := tTest (tOp (rIn K true) (tVar 6) (tVar 3))) (te := tVar 6) rfl sc7.nd
        (pi_tup (pe_cal CR (hr.mono (by decide)) (pa_cons (pv 2) pa_nil))) (blkOk_by (N := n7) (sc := defScope (stK 7)) (by decide +kernel)) (fun _ _ _ _ _ => pg_name (i := 6) sc7.nd rfl (.inl rfl))
        (fun _ _ _ _ _ => pts_one (pt_cmpR op_notIn_seq (pv 6) (pv 3) (by rfl))) (fun _ _ _ _ _ => pv 6)) pa_nil)))
      (pss_cons (ps_for PassesOwn.never rfl (pi_list (pe_cal CA (hr.mono (by decide)) (pa_cons (pv 0) (pa_cons (pe_op op_catS (pv 3) (pv 4)) pa_nil)))) (pg_name (i := 5) sc7.nd rfl (.inl rfl))
        (pss_one (ps_if (pt_cmpR op_ne (pe_cal CV hr (pa_cons (pv 0) (pa_cons (pv 1) (pa_cons (pv 5) pa_nil)))) (pe_cal CV hr (pa_cons (pv 0) (pa_cons (pv 2) (pa_cons (pv 5) pa_nil)))) (nomark _)) (pss_one (ps_ret (pv 5))) pss_nil)))
      (pss_one (ps_ret pe_non)))), ?_⟩
    -- slots = reads(expr)
    refine ⟨_, rfl, v, e, rfl, hR, size_small fe.dp, fun b H1 s1 hb => ?_⟩
    have ls := fe.len su
    have lo := fo.len su
    -- further
    refine ⟨_, rfl, u, o, rfl, hR2.same s1, size_small fo.dp, fun c H2 s2 hc => ?_⟩
    refine ⟨c, rfl, ⟨_, hc⟩, fun D nD => ?_⟩
    have sD : Same H2 (upd H2 D (.lst [])) := same_new nD
    refine lc_it (walk_tup (xs := (reads o).map V.str)) (vs := [6]) (fun i H3 => Same H2 H3 ∧ H3 D = some (.lst ((((reads o).take i).filter fun s => decide (s ∉ reads e)).map V.str)))
      ⟨sD, upd_same⟩ (fun i H3 _ z => same_sqt z.1 hc) (fun i x H3 H4 hi z hy => ?_) (fun H3 z => ?_)
    · obtain ⟨sm, eD⟩ := z
      obtain ⟨rfl, ex⟩ := hy
      rw [List.getElem?_map] at ex
      obtain ⟨sl, hsl, rfl⟩ := Option.map_eq_some_iff.mp ex
      have hk := filter_take (fun s => decide (s ∉ reads e)) hsl
      refine ⟨rfl, _, rfl, _, rfl, b, _, rfl, .inr (same_sqt (s2.trans sm) hb), rfl, flat_strs _, _, rfl, ?_⟩
      rw [inV_str]
      by_cases hin : sl ∈ reads e
      · rw [decide_eq_true hin]
        rw [if_neg (by simp [hin])] at hk
        refine iteF ⟨sm, ?_⟩
        rw [hk]; exact eD
      · rw [decide_eq_false hin]
        rw [if_pos (by simp [hin])] at hk
        refine iteT ⟨_, rfl, _, eD, ?_, fun b' o eb => ?_, ?_⟩
        · have h1 := List.length_filter_le (fun s => decide (s ∉ reads e)) ((reads o).take i)
          rw [List.length_take] at h1
          rw [List.length_map]; exact sl_less (by omega)
        · rw [upd_ne (ne_of_none eb nD)]; exact sm _ _ eb
        · rw [upd_same, hk, List.map_append]; rfl
    · obtain ⟨sm, eD⟩ := z
      rw [List.length_map, List.take_length] at eD
      refine ⟨D, _, rfl, .inl ⟨SqL.of eD, fun p np => ?_⟩⟩
      have s3 : Same H2 (upd H3 p (.tup (((reads o).filter fun s => decide (s ∉ reads e)).map V.str))) := sm.trans (same_new np)
      have s4 := s1.trans (s2.trans s3)
      have hfl := List.length_filter_le (fun s => decide (s ∉ reads e)) (reads o)
      -- for given in all_given(words, slots + further)
      refine ⟨_, rfl, _, rfl, _, rfl, b, p, _, _, rfl, rfl, same_sqt (s2.trans s3) hb, sqt_new, ?_, fun p2 H4 s5 hp2 => ?_⟩
      · rw [List.length_map, List.length_map]; exact sl_small (by omega)
      have sH4 := s4.trans s5
      rw [← List.map_append] at hp2
      refine ⟨a, p2, ws, allSlots e o, rfl, (hW.same sH4).sqt, hp2, su.hi, all_len su fe fo, fun l H5 rs s6 nl el hP => ?_⟩
      have sH5 := sH4.trans s6
      refine ⟨l, rfl, ⟨_, SqL.of el⟩, for_list (xs := rs.map V.ref) (fun n σ H' => ∃ y5, σ = [some (.ref a), some v, some u, some (.ref b), some (.ref p), y5, none] ∧ Same H5 H' ∧
          ∀ g, g ∈ (allRows ws (allSlots e o)).take n → val ws g e = val ws g o)
        ⟨none, rfl, Same.refl _, fun g hg => by simp at hg⟩ (fun n σ H' _ z => ?_) (fun n x σ H' hx z => ?_) (fun σ H' z => ?_)⟩
      · obtain ⟨_, _, sm, _⟩ := z
        exact sm.seq (SqL.of el)
      · obtain ⟨y5, rfl, sm, hall⟩ := z
        rw [List.getElem?_map] at hx
        obtain ⟨r, hr', rfl⟩ := Option.map_eq_some_iff.mp hx
        obtain ⟨g, hg, hGv⟩ := pr_getL hP hr'
        have hgm : g ∈ allRows ws (allSlots e o) := List.mem_of_getElem? hg
        have hcv := cov_of_row hgm
        have sH : Same H H' := sH5.trans sm
        refine ⟨_, rfl, _, rfl, _, rfl, a, r, v, e, ws, S, g, rfl, hW.same sH, hR.same sH, hGv.same sm, fe.wf, hcv.sub (fun t ht => mem_allSlots.mpr (.inl ht)), fe.dp, fun x hx hxm => ?_⟩
        refine ⟨_, rfl, _, rfl, _, rfl, a, r, u, o, ws, S, g, rfl, hW.same sH, hR2.same sH, hGv.same sm, fo.wf, hcv.sub (fun t ht => mem_allSlots.mpr (.inr ht)), fo.dp, fun y hy hym => ?_⟩
        refine ⟨rfl, _, rfl, ?_⟩
        by_cases hxy : x = y
        · subst hxy
          rw [decide_eq_true rfl]
          refine iteF ⟨_, rfl, sm, fun g' hg' => ?_⟩
          have eg : (allRows ws (allSlots e o)).take (n + 1) = (allRows ws (allSlots e o)).take n ++ [g] := by rw [List.take_add_one, hg]; rfl
          rw [eg] at hg'
          rcases List.mem_append.mp hg' with z | z
          · exact hall g' z
          · have et : g' = g := by simpa using z
            rw [et, hx, hy]
        · rw [decide_eq_false (fun z => hxy (V.str.inj z))]
          refine iteT ⟨_, rfl, q _ H' sH ?_⟩
          have hf : firstUnlike ws e o = some g := find_at (i := n) (fun g' hg' => by simp [hall g' hg']) hg (by rw [hx, hy]; exact decide_eq_true fun z => hxy (Option.some.inj z))
          rw [hf]
          exact ⟨r, rfl, hGv.same sm⟩
      · obtain ⟨y5, rfl, sm, hall⟩ := z
        rw [List.length_map, hP.length, List.take_length] at hall
        refine q _ H' (sH5.trans sm) ?_
        have hf : firstUnlike ws e o = none := List.find?_eq_none.mpr fun g hg => by simp [hall g hg]
        rw [hf]
        exact rfl
end
end Ka

namespace Ka
open L2 PySem PySem.Spec PyProof.Rows

/-! ### the pool of numbers -/
def Pool (H : Hp) (p : Addr) : Prop := ∃ (g s : Addr) (gs ss : List Int) (cur cnt : Int), H p = some (.lst [.ref g, .ref s, .int cur, .int cnt]) ∧ H g = some (.lst (gs.map V.int)) ∧ H s = some (.lst (ss.map V.int))
theorem pool_ne {a b c d : V} {r : List Int} {g : Addr} (ha : a = .ref g) : HO.lst [a, b, c, d] ≠ HO.lst (r.map V.int) := by
  intro z
  have z' := HO.lst.inj z
  cases r with
  | nil => cases z'
  | cons x r =>
    rw [List.map_cons] at z'
    have := (List.cons.inj z').1
    rw [ha] at this
    cases this
theorem Pool.same {H H' : Hp} {p : Addr} (e : Same H H') (h : Pool H p) : Pool H' p := by
  obtain ⟨g, s, gs, ss, cur, cnt, h1, h2, h3⟩ := h
  exact ⟨g, s, gs, ss, cur, cnt, e _ _ h1, e _ _ h2, e _ _ h3⟩
/-- no list of the pool's own -/
def Off (H : Hp) (p l : Addr) : Prop := ∀ g s c n, H p = some (.lst [.ref g, .ref s, c, n]) → l ≠ g ∧ l ≠ s
/-- what a draw may change -/
structure Step (p : Addr) (H H' : Hp) : Prop where
  but : But p H H'
  off : ∀ l o, l ≠ p → H l = some o → Off H p l → Off H' p l
theorem Step.refl (p : Addr) (H : Hp) : Step p H H := ⟨But.refl p H, fun _ _ _ _ h => h⟩
theorem Step.trans {p : Addr} {H H1 H2 : Hp} (a : Step p H H1) (b : Step p H1 H2) : Step p H H2 := ⟨a.but.trans b.but, fun l o n e h => b.off l o n (a.but _ _ n e) (a.off l o n e h)⟩
theorem Step.of {p : Addr} {H H' : Hp} {o : HO} (h : H p = some o) (e : Same H H') : Step p H H' := ⟨But.of e, fun l x n el hl g s c k q => hl g s c k (by
  rw [h, ← q]
  exact (e _ _ h).symm)⟩
theorem step_put {p g s : Addr} {H : Hp} {c n c' n' : V} (h : H p = some (.lst [.ref g, .ref s, c, n])) : Step p H (upd H p (.lst [.ref g, .ref s, c', n'])) := ⟨but_upd, fun l o nl e hl g' s' x y q => by
  rw [upd_same] at q
  have q' := HO.lst.inj (Option.some.inj q)
  injection q' with q1 q2
  injection q2 with q2 q3
  have e1 : g = g' := V.ref.inj q1
  have e2 : s = s' := V.ref.inj q2
  rw [← e1, ← e2]
  exact hl g s c n h⟩
theorem Step.fresh {p l : Addr} {H H' : Hp} {o : HO} (nl : H l = none) (np : l ≠ p) (h : Step p H H') : Step p H (upd H' l o) := ⟨fun b x nb eb => by
  rw [upd_ne (ne_of_none eb nl)]; exact h.but b x nb eb, fun b x nb eb ob g s c k e => by
  rw [upd_ne np.symm] at e; exact h.off b x nb eb ob g s c k e⟩
theorem Pool.put {p l : Addr} {H : Hp} {o : HO} (h : Pool H p) (np : l ≠ p) (ol : Off H p l) : Pool (upd H l o) p := by
  obtain ⟨g, s, gs, ss, cur, cnt, h1, h2, h3⟩ := h
  obtain ⟨n1, n2⟩ := ol g s _ _ h1
  exact ⟨g, s, gs, ss, cur, cnt, by rw [upd_ne np.symm]; exact h1, by rw [upd_ne n1.symm]; exact h2, by rw [upd_ne n2.symm]; exact h3⟩
theorem Off.put {p l m : Addr} {H : Hp} {o : HO} (h : Off H p l) (np : m ≠ p) : Off (upd H m o) p l := fun g s c k e => by
  rw [upd_ne np.symm] at e; exact h g s c k e
theorem Pool.off_new {p l : Addr} {H : Hp} (h : Pool H p) (nl : H l = none) : Off H p l := fun g s c k e => by
  obtain ⟨g', s', gs, ss, cur, cnt, h1, h2, h3⟩ := h
  rw [h1] at e
  have q := HO.lst.inj (Option.some.inj e)
  injection q with q1 q2
  injection q2 with q2 q3
  have e1 : g' = g := V.ref.inj q1
  have e2 : s' = s := V.ref.inj q2
  rw [← e1, ← e2]
  exact ⟨(ne_of_none h2 nl).symm, (ne_of_none h3 nl).symm⟩
theorem Pool.lst {H : Hp} {p : Addr} (h : Pool H p) : ∃ ys, H p = some (.lst ys) := by
  obtain ⟨g, s, gs, ss, cur, cnt, h1, _⟩ := h
  exact ⟨_, h1⟩
section
variable {mg : Str → Option Value} {base : Heap} {P : Program} {w : World} {K : PySem.W.Frag}

/-! ### _law_pool -/
abbrev n9 : List Str := ["_law_script", "_law_cells", "_law_great", "_law_small", "_law_cell"]
theorem sc9 : FnScope n9 ["_law_script"] (defScope (stK 9)) := ⟨rfl, rfl, rfl, by decide +kernel, rfl, by decide +kernel, by decide +kernel⟩
def spPool (K : PySem.W.Frag) : Sp := fun vs H Q _ => ∃ (a : Addr) (ns : List Int), vs = [.ref a] ∧ SqL K H a (ns.map V.int) ∧ ns.length ≤ 63 ∧ ∀ p H', Same H H' → Pool H' p → Q (.ref p) H'
theorem ok_pool {f : Addr} {fd : FuncData} (F : Fun K "_law_pool" "_law_pool" (stK 9) f fd) (mi : mg "int" = none) (ma : mg "abs" = none) : FnOk P w K mg base CX0 1 f fd ["_law_script"] (spPool K) := by
  refine F.ok sc9 (fun vs H Q E h => ?_) (fun cdv A outer s H vs Q E hr h => ?_)
  · obtain ⟨a, ns, rfl, _⟩ := h
    rfl
  · obtain ⟨a, ns, rfl, hS, hn, q⟩ := h
    refine ⟨_, pss_cons (ps_setLc (i := 1) (own := [("_law_cell", 4)]) (g := gName 4) (tt := tYes) rfl sc9.nd rfl rfl (sw_true rfl rfl rfl (by decide +kernel)) (pi_list (pe_slice sl_list (pv 0) po_none (po_some pe_int))) (blkOk_by (N := n9) (sc := defScope (stK 9)) (by decide +kernel))
        (fun _ _ _ _ _ => pg_name (i := 4) sc9.nd rfl (.inl rfl)) (fun _ _ _ _ _ => pts_nil) (fun _ _ _ _ _ => pe_callTy call_int1 (by rfl) mi (by decide +kernel) (pa_cons (pv 4) pa_nil)))
      (pss_cons (ps_setLc (i := 2) (own := [("_law_cell", 4)]) (g := gName 4) rfl sc9.nd rfl rfl (sw_true rfl rfl rfl (by decide +kernel)) (pi_list (pv 1)) (blkOk_by (N := n9) (sc := defScope (stK 9)) (by decide +kernel))
        (fun _ _ _ _ _ => pg_name (i := 4) sc9.nd rfl (.inl rfl)) (fun _ _ _ _ _ => pts_one (pt_cmpR op_ge (pe_callB call_abs (by rfl) ma (by decide +kernel) (pa_cons (pv 4) pa_nil)) (pe_op op_pow pe_int pe_int) (nomark _)))
        (fun _ _ _ _ _ => pe_callB call_abs (by rfl) ma (by decide +kernel) (pa_cons (pv 4) pa_nil)))
      (pss_cons (ps_setLc (i := 3) (own := [("_law_cell", 4)]) (g := gName 4) rfl sc9.nd rfl rfl (sw_true rfl rfl rfl (by decide +kernel)) (pi_list (pv 1)) (blkOk_by (N := n9) (sc := defScope (stK 9)) (by decide +kernel))
        (fun _ _ _ _ _ => pg_name (i := 4) sc9.nd rfl (.inl rfl)) (fun _ _ _ _ _ => pts_one (pt_cmpR op_lt (pe_callB call_abs (by rfl) ma (by decide +kernel) (pa_cons (pv 4) pa_nil)) (pe_op op_pow pe_int pe_int) (nomark _)))
        (fun _ _ _ _ _ => pe_op op_mod (pe_callTy call_int1 (by rfl) mi (by decide +kernel) (pa_cons (pv 4) pa_nil)) pe_int))
      (pss_one (ps_ret (pe_lst (pa_cons (pv 2) (pa_cons (pv 3) (pa_cons pe_int (pa_cons pe_int pa_nil))))))))), ?_⟩
    have grow : ∀ {H0 H1 : Hp} {D : Addr} {o : HO}, H0 D = none → Same H0 H1 → Same H0 (upd H1 D o) := fun n0 e b x eb => by
      rw [upd_ne (ne_of_none eb n0)]; exact e _ _ eb
    -- the cells
    refine ⟨_, rfl, 63, rfl, a, _, rfl, hS, fun c nc => ?_⟩
    have s1 : Same H (upd H c (.lst (cutV (ns.map V.int) none (some 63)))) := same_new nc
    have ec : cutV (ns.map V.int) none (some 63) = (ns.take 63).map V.int := by
      rw [List.map_take]; exact cut_to _ 63
    rw [ec] at s1 ⊢
    refine ⟨c, rfl, ⟨_, sql_new⟩, fun D nD => ?_⟩
    refine lc_list (xs := (ns.take 63).map V.int) (vs := [4]) (fun i H2 => ∃ ms : List Int, ms.length ≤ i ∧ Same (upd H c (.lst ((ns.take 63).map V.int))) H2 ∧ H2 D = some (.lst (ms.map V.int)))
      ⟨[], Nat.le_refl _, same_new nD, upd_same⟩ (fun i H2 _ z => ?_) (fun i x H2 hx z => ?_) (fun H2 z => ?_)
    · obtain ⟨_, _, sm, _⟩ := z
      exact sm.seq sql_new
    · obtain ⟨ms, hm, sm, eD⟩ := z
      rw [List.getElem?_map] at hx
      obtain ⟨n, hn, rfl⟩ := Option.map_eq_some_iff.mp hx
      have hi : i < (ns.take 63).length := (List.getElem?_eq_some_iff.mp hn).1
      rw [List.length_take] at hi
      refine ⟨rfl, _, rfl, .inl ⟨n, rfl, _, eD, ?_, ms ++ [n], ?_, grow nD sm, ?_⟩⟩
      · rw [List.length_map]; exact sl_less (by omega)
      · rw [List.length_append]; simp only [List.length_singleton]; omega
      · rw [upd_same, List.map_append]; rfl
    obtain ⟨cs, hcs, sm, eD⟩ := z
    have hcl : cs.length ≤ 63 := by
      rw [List.length_map, List.length_take] at hcs
      omega
    have s2 : Same H H2 := s1.trans sm
    -- the great ones
    refine ⟨_, rfl, D, rfl, ⟨_, SqL.of eD⟩, fun D2 nD2 => ?_⟩
    refine lc_list (xs := cs.map V.int) (vs := [4]) (fun i H3 => ∃ ms : List Int, ms.length ≤ i ∧ Same H2 H3 ∧ H3 D2 = some (.lst (ms.map V.int)))
      ⟨[], Nat.le_refl _, same_new nD2, upd_same⟩ (fun i H3 _ z => ?_) (fun i x H3 hx z => ?_) (fun H3 z => ?_)
    · obtain ⟨_, _, sm, _⟩ := z
      exact sm.seq (SqL.of eD)
    · obtain ⟨ms, hm, sm, eD2⟩ := z
      rw [List.getElem?_map] at hx
      obtain ⟨n, hn, rfl⟩ := Option.map_eq_some_iff.mp hx
      have hi : i < cs.length := (List.getElem?_eq_some_iff.mp hn).1
      refine ⟨rfl, _, rfl, n, rfl, _, _, rfl, rfl, ⟨by decide, by decide, by decide⟩, _, _, rfl, rfl, _, rfl, ite2 (fun _ => ?_) (fun _ => ?_)⟩
      · refine ⟨_, rfl, n, rfl, _, eD2, ?_, ms ++ [if n < 0 then -n else n], ?_, grow nD2 sm, ?_⟩
        · rw [List.length_map]; exact sl_less (by omega)
        · rw [List.length_append]; simp only [List.length_singleton]; omega
        · rw [upd_same, List.map_append]; rfl
      · exact ⟨ms, by omega, sm, eD2⟩
    obtain ⟨gs, _, sm2, eD2⟩ := z
    -- the small ones
    refine ⟨_, rfl, D, rfl, ⟨_, SqL.of (sm2 _ _ eD)⟩, fun D3 nD3 => ?_⟩
    refine lc_list (xs := cs.map V.int) (vs := [4]) (fun i H4 => ∃ ms : List Int, ms.length ≤ i ∧ Same H3 H4 ∧ H4 D3 = some (.lst (ms.map V.int)))
      ⟨[], Nat.le_refl _, same_new nD3, upd_same⟩ (fun i H4 _ z => ?_) (fun i x H4 hx z => ?_) (fun H4 z => ?_)
    · obtain ⟨_, _, sm, _⟩ := z
      exact sm.seq (SqL.of (sm2 _ _ eD))
    · obtain ⟨ms, hm, sm, eD3⟩ := z
      rw [List.getElem?_map] at hx
      obtain ⟨n, hn, rfl⟩ := Option.map_eq_some_iff.mp hx
      have hi : i < cs.length := (List.getElem?_eq_some_iff.mp hn).1
      refine ⟨rfl, _, rfl, n, rfl, _, _, rfl, rfl, ⟨by decide, by decide, by decide⟩, _, _, rfl, rfl, _, rfl, ite2 (fun _ => ?_) (fun _ => ?_)⟩
      · refine ⟨_, rfl, .inl ⟨n, rfl, _, _, rfl, rfl, (by show (0 : Int) < 1000003; decide), _, eD3, ?_, ms ++ [n % 1000003], ?_, grow nD3 sm, ?_⟩⟩
        · rw [List.length_map]; exact sl_less (by omega)
        · rw [List.length_append]; simp only [List.length_singleton]; omega
        · rw [upd_same, List.map_append]; rfl
      · exact ⟨ms, by omega, sm, eD3⟩
    obtain ⟨ss, _, sm3, eD3⟩ := z
    refine ⟨_, rfl, _, rfl, sl_small (by show 4 ≤ 10000000; decide), fun p np => ?_⟩
    have s5 : Same H4 (upd H4 p (.lst [.ref D2, .ref D3, .int 0, .int 0])) := same_new np
    exact q p _ ((s2.trans sm2).trans (sm3.trans s5)) ⟨D2, D3, gs, ss, 0, 0, upd_same, s5 _ _ (sm3 _ _ eD2), s5 _ _ eD3⟩
end
end Ka

namespace Ka
open L2 PySem PySem.Spec PyProof.Rows
section
variable {mg : Str → Option Value} {base : Heap} {P : Program} {w : World} {K : PySem.W.Frag}

/-! ### _law_draw -/
theorem sc10 : FnScope ["_law_pool_here", "_law_many", "_law_great", "_law_digit", "_law_seed", "_law_number"] ["_law_pool_here", "_law_many"] (defScope (stK 10)) := ⟨rfl, rfl, rfl, by decide +kernel, rfl, by decide +kernel, by decide +kernel⟩
def spDraw : Sp := fun vs H Q _ => ∃ (p : Addr) (m : Nat), vs = [.ref p, .int (m : Nat)] ∧ Pool H p ∧ 0 < m ∧ m ≤ 1000000 ∧ ∀ (r : Nat) H', r < m → Step p H H' → Pool H' p → Q (.int (r : Nat)) H'
theorem mod_in (x : Int) {m : Int} (h : 0 < m) : 0 ≤ x % m ∧ x % m < m := ⟨Int.emod_nonneg x (by omega), Int.emod_lt_of_pos x h⟩
theorem ok_draw {f : Addr} {fd : FuncData} (F : Fun K "_law_draw" "_law_draw" (stK 10) f fd) (mi : mg "int" = none) (ml : mg "len" = none) : FnOk P w K mg base CX0 1 f fd ["_law_pool_here", "_law_many"] spDraw := by
  refine F.ok sc10 (fun vs H Q E h => ?_) (fun cdv A outer s H vs Q E hr h => ?_)
  · obtain ⟨p, m, rfl, _⟩ := h
    rfl
  · obtain ⟨p, m, rfl, hpool, hm0, hm1, q⟩ := h
    have hmI : (0 : Int) < (m : Int) := by omega
    have give : ∀ (x : Int) (H' : Hp), Step p H H' → Pool H' p → Q (.int (x % (m : Int))) H' := fun x H' b h => by
      obtain ⟨h0, h1⟩ := mod_in x hmI
      have := q (x % (m : Int)).toNat H' (by omega) b h
      rwa [Int.toNat_of_nonneg h0] at this
    refine ⟨_, C8.pss_cut (ps_if (PW.pt (pw_and (pt_cmpR op_eq (pe_ix ix_list (pv 0) pe_int (fun _ _ => rfl)) pe_int (nomark _))
          (pw_and1 (pt_cmpR op_gt (pe_callB call_len_seq (by rfl) ml PySem.boot_len (pa_cons (pe_ix ix_list (pv 0) pe_int (fun _ _ => rfl)) pa_nil)) pe_int (nomark _)))))
        (pss_cons (ps_set (i := 2) sc10.nd rfl (.inl rfl) (pe_ix ix_list (pv 0) pe_int (fun _ _ => rfl)))
        (pss_cons (ps_asg (pe_ix ix_list (pv 2) pe_int (fun _ _ => rfl)) (pg_sub (pv 0) pe_int set_list))
        (pss_one (ps_asg (pe_slice sl_list (pv 2) (po_some pe_int) po_none) (pg_sub (pv 0) pe_int set_list))))) pss_nil)
      (pss_cons (ps_if (pt_cmpR op_gt (pe_ix ix_list (pv 0) pe_int (fun _ _ => rfl)) pe_int (nomark _))
        (pss_cons (ps_set (i := 3) sc10.nd rfl (.inl rfl) (pe_op op_mod (pe_callTy call_int1 (by rfl) mi (by decide +kernel) (pa_cons (pe_ix ix_list (pv 0) pe_int (fun _ _ => rfl)) pa_nil)) (pv 1)))
        (pss_cons (ps_asg (pe_op op_fdiv (pe_ix ix_list (pv 0) pe_int (fun _ _ => rfl)) (pv 1)) (pg_sub (pv 0) pe_int set_list))
        (pss_one (ps_ret (pv 3))))) pss_nil)
      (pss_cons (ps_asg (pe_op op_add (pe_ix ix_list (pv 0) pe_int (fun _ _ => rfl)) pe_int) (pg_sub (pv 0) pe_int set_list))
      (pss_cons (ps_set (i := 4) sc10.nd rfl (.inl rfl) pe_int)
      (C8.pss_cut (ps_if (pt_cmpR op_gt (pe_callB call_len_seq (by rfl) ml PySem.boot_len (pa_cons (pe_ix ix_list (pv 0) pe_int (fun _ _ => rfl)) pa_nil)) pe_int (nomark _))
        (pss_one (ps_set (i := 4) sc10.nd rfl (.inl rfl) (pe_ix ix_list (pe_ix ix_list (pv 0) pe_int (fun _ _ => rfl)) (pe_op op_mod (pe_callTy call_int1 (by rfl) mi (by decide +kernel) (pa_cons (pe_ix ix_list (pv 0) pe_int (fun _ _ => rfl)) pa_nil))
          (pe_callB call_len_seq (by rfl) ml PySem.boot_len (pa_cons (pe_ix ix_list (pv 0) pe_int (fun _ _ => rfl)) pa_nil))) (fun _ _ => rfl)))) pss_nil)
      (pss_cons (ps_set (i := 5) sc10.nd rfl (.inl rfl) (pe_op op_mod (pe_callTy call_int1 (by rfl) mi (by decide +kernel) (pa_cons (pe_op op_mul (pe_op op_add (pe_op op_add (pv 4) (pe_op op_mul pe_int (pe_ix ix_list (pv 0) pe_int (fun _ _ => rfl)))) pe_int) pe_int) pa_nil)) pe_int))
      (pss_cons (ps_set (i := 5) sc10.nd rfl (.inl rfl) (pe_op op_mod (pe_callTy call_int1 (by rfl) mi (by decide +kernel) (pa_cons (pe_op op_mul (pv 5) (pe_op op_add (pe_op op_fdiv (pv 5) pe_int) pe_int)) pa_nil)) pe_int))
      (pss_cons (ps_set (i := 5) sc10.nd rfl (.inl rfl) (pe_op op_mod (pe_callTy call_int1 (by rfl) mi (by decide +kernel) (pa_cons (pe_op op_mul (pv 5) (pe_op op_add (pe_op op_fdiv (pv 5) pe_int) pe_int)) pa_nil)) pe_int))
      (pss_one (ps_ret (pe_op op_mod (pe_callTy call_int1 (by rfl) mi (by decide +kernel) (pa_cons (pe_op op_fdiv (pv 5) pe_int) pa_nil)) (pv 1))))))))))), ?_⟩
    -- behind the first if
    refine ⟨fun σ H' => ∃ y2, σ = [some (.ref p), some (.int (m : Nat)), y2, none, none, none] ∧ Step p H H' ∧ Pool H' p, ?_, fun σ H1 z => ?_⟩
    · obtain ⟨g, sm, gs, ss, cur, cnt, hp, hg, hs⟩ := hpool
      refine ⟨_, rfl, p, _, _, _, rfl, rfl, SqL.of hp, atI_nat (j := 2) rfl, rfl, _, rfl, ite2 (fun _ => ?_) (fun _ => ?_)⟩
      · refine ⟨_, rfl, p, _, _, _, rfl, rfl, SqL.of hp, atI_nat (j := 0) rfl, g, _, rfl, .inl (SqL.of hg), _, _, rfl, rfl, _, rfl, ite2 (fun hz => ?_) (fun _ => ?_)⟩
        · have hz' := of_decide_eq_true hz
          obtain ⟨x, r, rfl⟩ : ∃ x r, gs = x :: r := by
            cases gs with
            | nil => simp at hz'
            | cons y t => exact ⟨y, t, rfl⟩
          have npg : g ≠ p := fun z => by rw [z, hp] at hg; exact pool_ne rfl (Option.some.inj hg)
          have nps : sm ≠ p := fun z => by rw [z, hp] at hs; exact pool_ne rfl (Option.some.inj hs)
          refine ⟨_, rfl, p, _, _, _, rfl, rfl, SqL.of hp, atI_nat (j := 0) rfl, ?_⟩
          refine ⟨_, rfl, g, _, _, _, rfl, rfl, SqL.of hg, atI_nat (j := 0) rfl, _, rfl, p, _, _, 2, rfl, rfl, hp, rfl, ?_⟩
          have hg1 : (upd H p (.lst [.ref g, .ref sm, .int x, .int cnt])) g = some (.lst ((x :: r).map V.int)) := by rw [upd_ne npg]; exact hg
          refine ⟨_, rfl, 1, rfl, g, _, rfl, SqL.of hg1, fun c nc => ?_⟩
          have ec : cutV ((x :: r).map V.int) (some 1) none = r.map V.int := cut_from _ 1
          rw [ec]
          have npc : c ≠ p := fun z => by
            have e1 : (upd H p (.lst [.ref g, .ref sm, .int x, .int cnt])) c = some (.lst [.ref g, .ref sm, .int x, .int cnt]) := by rw [z]; exact upd_same
            have nc' : (upd H p (.lst [.ref g, .ref sm, .int x, .int cnt])) c = none := nc
            rw [e1] at nc'; cases nc'
          have ep : (upd (upd H p (.lst [.ref g, .ref sm, .int x, .int cnt])) c (.lst (r.map V.int))) p = some (.lst [.ref g, .ref sm, .int x, .int cnt]) := by rw [upd_ne (Ne.symm npc)]; exact upd_same
          refine ⟨_, rfl, p, _, _, 0, rfl, rfl, ep, rfl, _, rfl, ⟨fun b o nb eb => ?_, fun l o nlp el hl g' s' x' y' e' => ?_⟩, c, sm, r, ss, x, cnt, upd_same, ?_, ?_⟩
          · have nc' : (upd H p (.lst [.ref g, .ref sm, .int x, .int cnt])) c = none := nc
            have nbc : b ≠ c := fun z => by
              rw [← z, upd_ne nb, eb] at nc'; cases nc'
            rw [upd_ne nb, upd_ne nbc, upd_ne nb]; exact eb
          · rw [upd_same] at e'
            have q' := HO.lst.inj (Option.some.inj e')
            injection q' with q1 q2
            injection q2 with q2 q3
            have e1 : c = g' := V.ref.inj q1
            have e2 : sm = s' := V.ref.inj q2
            rw [← e1, ← e2]
            refine ⟨fun z => ?_, (hl g sm _ _ hp).2⟩
            have nc' : (upd H p (.lst [.ref g, .ref sm, .int x, .int cnt])) c = none := nc
            rw [← z, upd_ne nlp, el] at nc'; cases nc'
          · rw [upd_ne npc]; exact upd_same
          · have nc' : (upd H p (.lst [.ref g, .ref sm, .int x, .int cnt])) c = none := nc
            have nsc : sm ≠ c := fun z => by
              rw [← z, upd_ne nps, hs] at nc'; cases nc'
            rw [upd_ne nps, upd_ne nsc, upd_ne nps]; exact hs
        · exact ⟨_, rfl, Step.refl p H, g, sm, gs, ss, cur, cnt, hp, hg, hs⟩
      · exact iteF ⟨_, rfl, Step.refl p H, g, sm, gs, ss, cur, cnt, hp, hg, hs⟩
    obtain ⟨y2, rfl, hb, g, sm, gs, ss, cur, cnt, hp, hg, hs⟩ := z
    have npg : g ≠ p := fun z => by rw [z, hp] at hg; exact pool_ne rfl (Option.some.inj hg)
    have nps : sm ≠ p := fun z => by rw [z, hp] at hs; exact pool_ne rfl (Option.some.inj hs)
    have put : ∀ (c1 c2 : Int), Pool (upd H1 p (.lst [.ref g, .ref sm, .int c1, .int c2])) p := fun c1 c2 => ⟨g, sm, gs, ss, c1, c2, upd_same, by rw [upd_ne npg]; exact hg, by rw [upd_ne nps]; exact hs⟩
    -- if _law_pool_here[2] > 0
    refine ⟨_, rfl, p, _, _, _, rfl, rfl, SqL.of hp, atI_nat (j := 2) rfl, cur, 0, rfl, rfl, _, rfl, ite2 (fun _ => ?_) (fun _ => ?_)⟩
    · refine ⟨_, rfl, p, _, _, _, rfl, rfl, SqL.of hp, atI_nat (j := 2) rfl, .inl ⟨cur, rfl, _, rfl, cur, (m : Int), rfl, rfl, hmI, ?_⟩⟩
      refine ⟨_, rfl, p, _, _, _, rfl, rfl, SqL.of hp, atI_nat (j := 2) rfl, _, rfl, cur, (m : Int), rfl, rfl, ⟨hmI, by omega⟩, _, rfl, p, _, _, 2, rfl, rfl, hp, rfl, ?_⟩
      exact ⟨_, rfl, give cur _ (hb.trans (step_put hp)) (put _ _)⟩
    -- the count
    refine ⟨_, rfl, p, _, _, _, rfl, rfl, SqL.of hp, atI_nat (j := 3) rfl, cnt, 1, rfl, rfl, _, rfl, p, _, _, 3, rfl, rfl, hp, rfl, ?_⟩
    have hb2 : Step p H (upd H1 p (.lst [.ref g, .ref sm, .int cur, .int (cnt + 1)])) := hb.trans (step_put hp)
    have hs2 : (upd H1 p (.lst [.ref g, .ref sm, .int cur, .int (cnt + 1)])) sm = some (.lst (ss.map V.int)) := by rw [upd_ne nps]; exact hs
    have hp2 : (upd H1 p (.lst [.ref g, .ref sm, .int cur, .int (cnt + 1)])) p = some (.lst [.ref g, .ref sm, .int cur, .int (cnt + 1)]) := upd_same
    have hP2 := put cur (cnt + 1)
    refine ⟨fun σ H' => ∃ sd : Int, σ = [some (.ref p), some (.int (m : Nat)), y2, none, some (.int sd), none] ∧ H' = upd H1 p (.lst [.ref g, .ref sm, .int cur, .int (cnt + 1)]), ?_, fun σ H3 z => ?_⟩
    · refine ⟨_, rfl, p, _, _, _, rfl, rfl, SqL.of hp2, atI_nat (j := 1) rfl, sm, _, rfl, .inl (SqL.of hs2), _, _, rfl, rfl, _, rfl, ite2 (fun hz => ?_) (fun _ => ?_)⟩
      · have hz' : (0 : Int) < (((ss.map V.int).length : Nat) : Int) := of_decide_eq_true hz
        obtain ⟨h0, h1⟩ := mod_in (cnt + 1) hz'
        have hlt : ((cnt + 1) % (((ss.map V.int).length : Nat) : Int)).toNat < ss.length := by
          rw [List.length_map] at h0 h1 ⊢
          omega
        have hix : (ss.map V.int)[((cnt + 1) % (((ss.map V.int).length : Nat) : Int)).toNat]? = some (.int ss[((cnt + 1) % (((ss.map V.int).length : Nat) : Int)).toNat]) := by
          rw [List.getElem?_map, List.getElem?_eq_getElem hlt]; rfl
        refine ⟨_, rfl, p, _, _, _, rfl, rfl, SqL.of hp2, atI_nat (j := 1) rfl, _, rfl, p, _, _, _, rfl, rfl, SqL.of hp2, atI_nat (j := 3) rfl, .inl ⟨cnt + 1, rfl, ?_⟩⟩
        refine ⟨_, rfl, p, _, _, _, rfl, rfl, SqL.of hp2, atI_nat (j := 1) rfl, sm, _, rfl, .inl (SqL.of hs2), _, _, rfl, rfl, hz', sm, _, _, _, rfl, rfl, SqL.of hs2, at_of (Int.toNat_of_nonneg h0).symm hix, ?_⟩
        exact ⟨_, rfl, rfl⟩
      · exact ⟨0, rfl, rfl⟩
    obtain ⟨sd, rfl, rfl⟩ := z
    -- number, three times
    refine ⟨_, rfl, _, rfl, p, _, _, _, rfl, rfl, SqL.of hp2, atI_nat (j := 3) rfl, 8191, cnt + 1, rfl, rfl, .inl ⟨by decide, by decide⟩, sd, 8191 * (cnt + 1), rfl, rfl, sd + 8191 * (cnt + 1), 1, rfl, rfl, _, 48271, rfl, rfl, .inr ⟨by decide, by decide⟩, .inl ⟨_, rfl, _, 2147483647, rfl, rfl, (by show (0 : Int) < 2147483647; decide), ?_⟩⟩
    obtain ⟨a0, a1⟩ := mod_in ((sd + 8191 * (cnt + 1) + 1) * 48271) (m := 2147483647) (by decide)
    refine ⟨_, rfl, _, rfl, _, 1013, rfl, rfl, ⟨by decide, by decide⟩, _, 69621, rfl, rfl, _, _, rfl, rfl, .inl ⟨Int.lt_of_lt_of_le (by decide) a0, Int.lt_trans a1 (by decide)⟩, .inl ⟨_, rfl, _, 2147483647, rfl, rfl, (by show (0 : Int) < 2147483647; decide), ?_⟩⟩
    obtain ⟨b0, b1⟩ := mod_in ((sd + 8191 * (cnt + 1) + 1) * 48271 % 2147483647 * ((sd + 8191 * (cnt + 1) + 1) * 48271 % 2147483647 / 1013 + 69621)) (m := 2147483647) (by decide)
    refine ⟨_, rfl, _, rfl, _, 2011, rfl, rfl, ⟨by decide, by decide⟩, _, 40692, rfl, rfl, _, _, rfl, rfl, .inl ⟨Int.lt_of_lt_of_le (by decide) b0, Int.lt_trans b1 (by decide)⟩, .inl ⟨_, rfl, _, 2147483399, rfl, rfl, (by show (0 : Int) < 2147483399; decide), ?_⟩⟩
    refine ⟨_, rfl, _, 16, rfl, rfl, ⟨by decide, by decide⟩, .inl ⟨_, rfl, _, rfl, _, (m : Int), rfl, rfl, hmI, ?_⟩⟩
    exact give _ _ hb2 hP2

/-! ### _law_pick -/
theorem sc11 : FnScope ["_law_pool_here", "_law_items"] ["_law_pool_here", "_law_items"] (defScope (stK 11)) := ⟨rfl, rfl, rfl, by decide +kernel, rfl, by decide +kernel, by decide +kernel⟩
/-- one of the items, a list or a tuple of texts -/
def spPick (K : PySem.W.Frag) : Sp := fun vs H Q _ => ∃ (p a : Addr) (xs : List Str), vs = [.ref p, .ref a] ∧ Pool H p ∧ a ≠ p ∧ (SqL K H a (xs.map V.str) ∨ SqT K H a (xs.map V.str)) ∧ 0 < xs.length ∧ xs.length ≤ 1000 ∧
  ∀ x H', x ∈ xs → Step p H H' → Pool H' p → Q (.str x) H'
theorem sql_but {p a : Addr} {xs : List V} {H H' : Hp} (hn : a ≠ p) (e : But p H H') (h : SqL K H a xs) : SqL K H' a xs := by
  rcases h with (z | ⟨o, z⟩) | z
  · exact .inl (.inl (e _ _ hn z))
  · exact .inl (.inr ⟨o, e _ _ hn z⟩)
  · exact .inr z
theorem ok_pick {f fD : Addr} {fd fdD : FuncData} (F : Fun K "_law_pick" "_law_pick" (stK 11) f fd) (CD : Cal P w K mg base "_law_draw" 1 fD fdD ["_law_pool_here", "_law_many"] spDraw) (ml : mg "len" = none) : FnOk P w K mg base CX0 2 f fd ["_law_pool_here", "_law_items"] (spPick K) := by
  refine F.ok sc11 (fun vs H Q E h => ?_) (fun cdv A outer s H vs Q E hr h => ?_)
  · obtain ⟨p, a, xs, rfl, _⟩ := h
    rfl
  · obtain ⟨p, a, xs, rfl, hpool, hn, hS, h0, h1, q⟩ := h
    refine ⟨_, pss_one (ps_ret (pe_ix ix_seq (pv 1) (pe_cal CD hr (pa_cons (pv 0) (pa_cons (pe_callB call_len_seq (by rfl) ml PySem.boot_len (pa_cons (pv 1) pa_nil)) pa_nil))) (fun _ _ => rfl))), ?_⟩
    refine ⟨_, rfl, _, rfl, _, rfl, a, _, rfl, hS, p, (xs.map V.str).length, rfl, hpool, by rw [List.length_map]; exact h0, by rw [List.length_map]; omega, fun r H' hr' hb hP => ?_⟩
    rw [List.length_map] at hr'
    have hx : (xs.map V.str)[r]? = some (.str xs[r]) := by rw [List.getElem?_map, List.getElem?_eq_getElem hr']; rfl
    obtain ⟨ys, hys⟩ := hpool.lst
    rcases hS with hS | hS
    · exact .inl ⟨a, _, _, _, rfl, rfl, sql_but hn hb.but hS, atI_nat hx, q _ H' (List.getElem_mem hr') hb hP⟩
    · exact .inr (.inl ⟨a, _, _, _, rfl, rfl, sqt_but hys hb.but hS, atI_nat hx, q _ H' (List.getElem_mem hr') hb hP⟩)
end
end Ka

namespace Ka
open L2 PySem PySem.Spec PyProof.Rows

/-! ### names that are unlike -/
abbrev abc : Str := "abcdefghijklmnopqrstuvwxyz"
theorem abc_at : ∀ r : Nat, r < 26 → abc.cps.toList[r]? = some (97 + r) := by decide +kernel
abbrev z7 : Str := "zzzzzzz"
theorem z7_is : z7 = ⟨#[122, 122, 122, 122, 122, 122, 122]⟩ := by decide +kernel
def zw (j : Nat) : Str := z7 ++ (⟨#[97 + j]⟩ : Str)
theorem zw_cps (j : Nat) : (zw j).cps = #[122, 122, 122, 122, 122, 122, 122, 97 + j] := by
  unfold zw
  rw [z7_is]
  rfl
theorem zw_inj {i j : Nat} (h : zw i = zw j) : i = j := by
  have e := congrArg Str.cps h
  rw [zw_cps, zw_cps] at e
  have := congrArg (fun a => a.toList) e
  simp at this
  exact this
/-- names that the law gives: unlike, short -/
structure Good (xs : List Str) : Prop where
  nd : xs.Nodup
  ok : ∀ x ∈ xs, (∀ j, x ≠ zw j) ∨ ∃ j, j < xs.length ∧ x = zw j
theorem good_nil : Good [] := ⟨List.nodup_nil, fun x h => by simp at h⟩
theorem good_app {xs : List Str} {x : Str} (h : Good xs) (hn : x ∉ xs) (ho : (∀ j, x ≠ zw j) ∨ x = zw xs.length) : Good (xs ++ [x]) := by
  refine ⟨List.nodup_append.mpr ⟨h.nd, by simp, fun a ha b hb e => ?_⟩, fun y hy => ?_⟩
  · have eb : b = x := by simpa using hb
    rw [e, eb] at ha
    exact hn ha
  · simp only [List.length_append, List.length_singleton]
    rcases List.mem_append.mp hy with q | q
    · rcases h.ok y q with z | ⟨j, hj, z⟩
      · exact .inl z
      · exact .inr ⟨j, by omega, z⟩
    · have ey : y = x := by simpa using q
      rw [ey]
      rcases ho with z | z
      · exact .inl z
      · exact .inr ⟨_, Nat.lt_succ_self _, z⟩
theorem zw_new {xs : List Str} (h : Good xs) : zw xs.length ∉ xs := fun hm => by
  rcases h.ok _ hm with z | ⟨j, hj, z⟩
  · exact z _ rfl
  · have := zw_inj z
    omega
/-- a drawn word is none of the others' kind -/
theorem drawn_plain {x : Str} {n c : Nat} (h1 : x.cps.size = n) (h2 : x.cps[0]? = some c) (h3 : n ≠ 8 ∨ c ≠ 122) : ∀ j, x ≠ zw j := fun j e => by
  rw [e, zw_cps] at h1 h2
  rcases h3 with q | q
  · exact q h1.symm
  · exact q (Option.some.inj h2).symm
theorem str_app_size (x : Str) (c : Nat) : (x ++ (⟨#[c]⟩ : Str)).cps.size = x.cps.size + 1 := by
  show (x.cps ++ #[c]).size = _
  simp
theorem str_app_first (x : Str) (c d : Nat) (h : x.cps[0]? = some d) : (x ++ (⟨#[c]⟩ : Str)).cps[0]? = some d := by
  show (x.cps ++ #[c])[0]? = _
  have : 0 < x.cps.size := (Array.getElem?_eq_some_iff.mp h).1
  rw [Array.getElem?_append_left this]; exact h
section
variable {mg : Str → Option Value} {base : Heap} {P : Program} {w : World} {K : PySem.W.Frag}

/-! ### _law_name -/
theorem sc12 : FnScope ["_law_pool_here", "_law_taken", "_law_letters", "_law_size", "_law_word", "_law_k"] ["_law_pool_here", "_law_taken"] (defScope (stK 12)) := ⟨rfl, rfl, rfl, by decide +kernel, rfl, by decide +kernel, by decide +kernel⟩
def spName (K : PySem.W.Frag) : Sp := fun vs H Q _ => ∃ (p t : Addr) (xs : List Str), vs = [.ref p, .ref t] ∧ Pool H p ∧ t ≠ p ∧ H t = some (.lst (xs.map V.str)) ∧ xs.length ≤ 20 ∧ Good xs ∧
  ∀ x H', Good (xs ++ [x]) → Step p H H' → Pool H' p → Q (.str x) H'
theorem sizes_at {r : Nat} (h : r < 6) : ∃ sz : Nat, ([.int 1, .int 1, .int 2, .int 2, .int 3, .int 8] : List V)[r]? = some (.int (sz : Nat)) ∧ 0 < sz ∧ sz ≤ 8 := by
  match r, h with
  | 0, _ => exact ⟨1, rfl, by decide, by decide⟩
  | 1, _ => exact ⟨1, rfl, by decide, by decide⟩
  | 2, _ => exact ⟨2, rfl, by decide, by decide⟩
  | 3, _ => exact ⟨2, rfl, by decide, by decide⟩
  | 4, _ => exact ⟨3, rfl, by decide, by decide⟩
  | 5, _ => exact ⟨8, rfl, by decide, by decide⟩
theorem ok_name {f fD : Addr} {fd fdD : FuncData} (F : Fun K "_law_name" "_law_name" (stK 12) f fd) (CD : Cal P w K mg base "_law_draw" 1 fD fdD ["_law_pool_here", "_law_many"] spDraw) (mi : mg "int" = none) (ml : mg "len" = none) (mr : mg "range" = none) :
    FnOk P w K mg base CX0 2 f fd ["_law_pool_here", "_law_taken"] (spName K) := by
  refine F.ok sc12 (fun vs H Q E h => ?_) (fun cdv A outer s H vs Q E hr h => ?_)
  · obtain ⟨p, t, xs, rfl, _⟩ := h
    rfl
  · obtain ⟨p, t, xs, rfl, hpool, ntp, ht, hx, hgood, q⟩ := h
    refine ⟨_, pss_cons (ps_set (i := 2) sc12.nd rfl (.inl rfl) pe_str)
      (pss_cons (ps_set (i := 3) sc12.nd rfl (.inl rfl) (pe_ix ix_tup (pe_tup (pa_cons pe_int (pa_cons pe_int (pa_cons pe_int (pa_cons pe_int (pa_cons pe_int (pa_cons pe_int pa_nil))))))) (pe_cal CD hr (pa_cons (pv 0) (pa_cons pe_int pa_nil))) (fun _ _ => rfl)))
      (pss_cons (ps_set (i := 4) sc12.nd rfl (.inl rfl) (pe_ix ix_str (pv 2) (pe_cal CD hr (pa_cons (pv 0) (pa_cons (pe_op op_sub pe_int (pe_callTy call_int1 (by rfl) mi (by decide +kernel) (pa_cons (pe_cmpR op_eq (pv 3) pe_int (nomark _)) pa_nil))) pa_nil))) (fun _ _ => rfl)))
      (pss_cons (ps_for PassesOwn.never rfl (pi_range1 rfl mr (pa_cons (pe_op op_sub (pv 3) pe_int) pa_nil)) (pg_name (i := 5) sc12.nd rfl (.inl rfl))
        (pss_one (ps_set (i := 4) sc12.nd rfl (.inl rfl) (pe_op op_add_str (pv 4) (pe_ix ix_str (pv 2) (pe_cal CD hr (pa_cons (pv 0) (pa_cons pe_int pa_nil))) (fun _ _ => rfl))))))
      (pss_cons (ps_if (pt_cmpR op_in_seq (pv 4) (pv 1) (by rfl)) (pss_one (ps_ret (pe_op op_add_str pe_str (pe_ix ix_str (pv 2) (pe_callB call_len_seq (by rfl) ml PySem.boot_len (pa_cons (pv 1) pa_nil)) (fun _ _ => rfl))))) pss_nil)
      (pss_one (ps_ret (pv 4))))))), ?_⟩
    obtain ⟨ys, hys⟩ := hpool.lst
    -- the size
    refine ⟨sl_small (by show 6 ≤ 10000000; decide), fun T nT => ?_⟩
    have sT : Same H (upd H T (.tup [.int 1, .int 1, .int 2, .int 2, .int 3, .int 8])) := same_new nT
    refine ⟨_, rfl, p, 6, rfl, hpool.same sT, by decide, by decide, fun r H1 hr1 b1 P1 => ?_⟩
    obtain ⟨sz, hsz, sz0, sz8⟩ := sizes_at hr1
    refine ⟨T, _, _, _, rfl, rfl, sqt_but (sT _ _ hys) b1.but sqt_new, atI_nat hsz, ?_⟩
    have b1' : Step p H H1 := (Step.of hys sT).trans b1
    -- the first letter
    have hm : ∃ m : Nat, (26 : Int) - (if decide (V.int (sz : Nat) = V.int 8) = true then 1 else 0) = (m : Nat) ∧ 0 < m ∧ m ≤ 26 ∧ (sz ≠ 8 ∨ m ≤ 25) := by
      by_cases e : sz = 8
      · subst e; exact ⟨25, rfl, by decide, by decide, .inr (by decide)⟩
      · have e' : ¬ V.int (sz : Nat) = V.int 8 := fun z => e (by have := V.int.inj z; omega)
        rw [decide_eq_false e']
        exact ⟨26, rfl, by decide, by decide, .inl e⟩
    obtain ⟨m, em, m0, m26, m25⟩ := hm
    refine ⟨_, rfl, _, rfl, _, rfl, rfl, .inr ⟨_, rfl, 26, _, rfl, rfl, p, m, congrArg (fun z => [V.ref p, V.int z]) em, P1, m0, by omega, fun r2 H2 hr2 b2 P2 => ?_⟩⟩
    refine ⟨abc, _, 97 + r2, rfl, rfl, sl_small (by decide +kernel), atI_nat (abc_at r2 (by omega)), ?_⟩
    -- the others
    have hn : ((sz : Int) - 1).toNat = sz - 1 := by omega
    refine ⟨_, rfl, _, 1, rfl, rfl, (sz : Int) - 1, rfl, by omega, by omega, for_range (lo := 0) (n := ((sz : Int) - 1).toNat) (fun k σ H3 => ∃ (x : Str) (y5 : Option V), σ = [some (.ref p), some (.ref t), some (.str abc), some (.int (sz : Nat)), some (.str x), y5] ∧
        Step p H H3 ∧ Pool H3 p ∧ x.cps.size = k + 1 ∧ x.cps[0]? = some (97 + r2))
      ⟨_, none, rfl, b1'.trans b2, P2, rfl, rfl⟩ (fun k σ H3 hk z => ?_) (fun σ H3 z => ?_)⟩
    · obtain ⟨x, y5, rfl, b3, P3, h1, h2⟩ := z
      refine ⟨_, rfl, _, rfl, _, rfl, p, 26, rfl, P3, by decide, by decide, fun r3 H4 hr3 b4 P4 => ?_⟩
      refine ⟨abc, _, 97 + r3, rfl, rfl, sl_small (by decide +kernel), atI_nat (abc_at r3 hr3), x, _, rfl, rfl, sl_small ?_, ?_⟩
      · show x.cps.size + 1 ≤ 10000000
        omega
      · exact ⟨_, _, rfl, b3.trans b4, P4, by rw [str_app_size, h1], str_app_first x _ _ h2⟩
    · obtain ⟨x, y5, rfl, b3, P3, h1, h2⟩ := z
      have hplain : ∀ j, x ≠ zw j := drawn_plain h1 h2 (by omega)
      have ht3 := b3.but _ _ ntp ht
      refine ⟨_, rfl, _, rfl, t, _, rfl, .inl (SqL.of ht3), rfl, flat_strs xs, _, rfl, ?_⟩
      rw [if_neg (by decide), inV_str]
      by_cases hin : x ∈ xs
      · rw [decide_eq_true hin]
        have hl := abc_at xs.length (by omega)
        refine iteT ⟨_, rfl, _, rfl, t, _, rfl, .inl (SqL.of ht3), abc, _, 97 + xs.length, rfl, rfl, sl_small (by decide +kernel), ?_, z7, _, rfl, rfl, sl_small ?_, ?_⟩
        · rw [List.length_map]; exact atI_nat hl
        · show z7.length + 1 ≤ 10000000
          decide +kernel
        · exact q (zw xs.length) H3 (good_app hgood (zw_new hgood) (.inr rfl)) b3 P3
      · rw [decide_eq_false hin]
        exact iteF ⟨_, rfl, q x H3 (good_app hgood hin (.inl hplain)) b3 P3⟩

/-! ### _law_names -/
theorem sc13 : FnScope ["_law_pool_here", "_law_count", "_law_names_here", "_law_k"] ["_law_pool_here", "_law_count"] (defScope (stK 13)) := ⟨rfl, rfl, rfl, by decide +kernel, rfl, by decide +kernel, by decide +kernel⟩
def spNames (K : PySem.W.Frag) : Sp := fun vs H Q _ => ∃ (p : Addr) (n : Nat), vs = [.ref p, .int (n : Nat)] ∧ Pool H p ∧ n ≤ 20 ∧
  ∀ l H' xs, xs.length = n → Good xs → Step p H H' → Pool H' p → l ≠ p → H' l = some (.lst (xs.map V.str)) → Q (.ref l) H'
theorem ok_names {f fN : Addr} {fd fdN : FuncData} (F : Fun K "_law_names" "_law_names" (stK 13) f fd) (CN : Cal P w K mg base "_law_name" 2 fN fdN ["_law_pool_here", "_law_taken"] (spName K)) (mr : mg "range" = none) :
    FnOk P w K mg base CX0 3 f fd ["_law_pool_here", "_law_count"] (spNames K) := by
  refine F.ok sc13 (fun vs H Q E h => ?_) (fun cdv A outer s H vs Q E hr h => ?_)
  · obtain ⟨p, n, rfl, _⟩ := h
    rfl
  · obtain ⟨p, n, rfl, hpool, hn, q⟩ := h
    refine ⟨_, pss_cons (ps_set (i := 2) sc13.nd rfl (.inl rfl) (pe_lst pa_nil))
      (pss_cons (ps_for PassesOwn.never rfl (pi_range1 rfl mr (pa_cons (pv 1) pa_nil)) (pg_name (i := 3) sc13.nd rfl (.inl rfl))
        (pss_one (ps_expr (pe_bm PySem.F.plainAttrs_list PySem.F.slot_list_append PySem.F.type_list_append mt_append (pv 2) (pa_cons (pe_cal CN hr (pa_cons (pv 0) (pa_cons (pv 2) pa_nil))) pa_nil)))))
      (pss_one (ps_ret (pv 2)))), ?_⟩
    obtain ⟨ys, hys⟩ := hpool.lst
    refine ⟨Nat.zero_le _, fun l nl => ?_⟩
    have nlp : l ≠ p := (ne_of_none hys nl).symm
    have s1 : Same H (upd H l (.lst [])) := same_new nl
    have off1 : Off (upd H l (.lst [])) p l := (hpool.off_new nl).put nlp
    refine ⟨_, rfl, (n : Int), rfl, by omega, by omega, for_range (lo := 0) (n := (n : Int).toNat) (fun k σ H2 => ∃ (xs : List Str) (y3 : Option V), σ = [some (.ref p), some (.int (n : Nat)), some (.ref l), y3] ∧ xs.length = k ∧ Good xs ∧ Step p H H2 ∧ Pool H2 p ∧ H2 l = some (.lst (xs.map V.str)) ∧ Off H2 p l)
      ⟨[], none, rfl, rfl, good_nil, Step.of hys s1, hpool.same s1, upd_same, off1⟩ (fun k σ H2 hk z => ?_) (fun σ H2 z => ?_)⟩
    · obtain ⟨xs, y3, rfl, hl, hg, b2, P2, e2, o2⟩ := z
      refine ⟨_, rfl, .inl ⟨rfl, _, SqL.of e2⟩, _, rfl, _, rfl, p, l, xs, rfl, P2, nlp, e2, by omega, hg, fun x H3 hg3 b3 P3 => ?_⟩
      have e3 := b3.but _ _ nlp e2
      have o3 := b3.off _ _ nlp e2 o2
      refine ⟨l, _, _, rfl, rfl, e3, ?_, xs ++ [x], _, rfl, by rw [List.length_append, hl]; rfl, hg3, (b2.trans b3).fresh nl nlp, P3.put nlp o3, ?_, o3.put nlp⟩
      · rw [List.length_map]; exact sl_less (by omega)
      · rw [upd_same, List.map_append]; rfl
    · obtain ⟨xs, y3, rfl, hl, hg, b2, P2, e2, o2⟩ := z
      exact ⟨_, rfl, q l H2 xs (by omega) hg b2 P2 nlp e2⟩

/-! ### _law_row_of -/
abbrev n14 : List Str := ["_law_pool_here", "_law_words", "_law_word"]
theorem sc14 : FnScope n14 ["_law_pool_here", "_law_words"] (defScope (stK 14)) := ⟨rfl, rfl, rfl, by decide +kernel, rfl, by decide +kernel, by decide +kernel⟩
def spRowOf (K : PySem.W.Frag) : Sp := fun vs H Q _ => ∃ (p a : Addr) (ws : List Str), vs = [.ref p, .ref a] ∧ Pool H p ∧ Wd H a ws ∧ 0 < ws.length ∧ ws.length ≤ 3 ∧
  ∀ q H' row, RowOk ws row → Step p H H' → Pool H' p → SqT K H' q (row.map V.str) → Q (.ref q) H'
theorem Wd.ne {H : Hp} {a p : Addr} {ws : List Str} {ys : List V} (h : Wd H a ws) (hp : H p = some (.lst ys)) : a ≠ p := by
  obtain ⟨o, h1, _⟩ := h
  exact ne_of h1 hp (by intro z; cases z)
theorem ok_row_of {f fP : Addr} {fd fdP : FuncData} (F : Fun K "_law_row_of" "_law_row_of" (stK 14) f fd) (CP : Cal P w K mg base "_law_pick" 2 fP fdP ["_law_pool_here", "_law_items"] (spPick K)) (mt : mg "tuple" = none) :
    FnOk P w K mg base CX0 3 f fd ["_law_pool_here", "_law_words"] (spRowOf K) := by
  refine F.ok sc14 (fun vs H Q E h => ?_) (fun cdv A outer s H vs Q E hr h => ?_)
  · obtain ⟨p, a, ws, rfl, _⟩ := h
    rfl
  · obtain ⟨p, a, ws, rfl, hpool, hW, h0, h3, q⟩ := h
    refine ⟨_, pss_one (ps_ret (pe_callTy call_tuple_of (by rfl) mt (by decide +kernel) (pa_cons (pe_lc (own := [("_law_word", 2)]) (g := gName 2) (tt := tYes) (te := tCall (spPick K) [] E0 (tCons (tVar 0) (tCons (tVar 1) tNil))) rfl sc14.nd (pi_tup (pv 1))
        (blkOk_by (N := n14) (sc := defScope (stK 14)) (by decide +kernel)) (fun _ _ _ _ _ => pg_name (i := 2) sc14.nd rfl (.inl rfl)) (fun _ _ _ _ _ => pts_nil) (fun _ _ _ _ _ => pe_cal CP hr (pa_cons (pv 0) (pa_cons (pv 1) pa_nil)))) pa_nil))), ?_⟩
    obtain ⟨ys, hys⟩ := hpool.lst
    refine ⟨_, rfl, a, rfl, ⟨_, hW.sqt⟩, fun D nD => ?_⟩
    have nDp : D ≠ p := (ne_of_none hys nD).symm
    have sD : Same H (upd H D (.lst [])) := same_new nD
    refine lc_tup (xs := ws.map V.str) (vs := [2]) (fun i H2 => ∃ row : List Str, row.length = i ∧ (∀ x ∈ row, x ∈ ws) ∧ Step p H H2 ∧ Pool H2 p ∧ H2 D = some (.lst (row.map V.str)) ∧ Off H2 p D)
      ⟨[], rfl, fun x hx => by simp at hx, Step.of hys sD, hpool.same sD, upd_same, (hpool.off_new nD).put nDp⟩ (fun i H2 _ z => ?_) (fun i x H2 hx z => ?_) (fun H2 z => ?_)
    · obtain ⟨row, _, _, st, _⟩ := z
      exact sqt_but hys st.but hW.sqt
    · obtain ⟨row, hl, hm, st, P2, eD, oD⟩ := z
      have hi : i < ws.length := by
        have := (List.getElem?_eq_some_iff.mp hx).1
        rwa [List.length_map] at this
      have hW2 := hW.but hys st.but
      obtain ⟨ys2, hys2⟩ := P2.lst
      refine ⟨rfl, _, rfl, _, rfl, p, a, ws, rfl, P2, hW.ne hys, .inr hW2.sqt, h0, by omega, fun y H3 hy st3 P3 => ?_⟩
      have eD3 := st3.but _ _ nDp eD
      have oD3 := st3.off _ _ nDp eD oD
      refine ⟨_, eD3, ?_, row ++ [y], by rw [List.length_append, hl]; rfl, fun z hz => ?_, (st.trans st3).fresh nD nDp, P3.put nDp oD3, ?_, oD3.put nDp⟩
      · rw [List.length_map]; exact sl_less (by omega)
      · rcases List.mem_append.mp hz with z' | z'
        · exact hm z z'
        · have ez : z = y := by simpa using z'
          rw [ez]; exact hy
      · rw [upd_same, List.map_append]; rfl
    · obtain ⟨row, hl, hm, st, P2, eD, oD⟩ := z
      rw [List.length_map] at hl
      refine ⟨D, _, rfl, .inl ⟨SqL.of eD, fun T nT => ?_⟩⟩
      have sT : Same H2 (upd H2 T (.tup (row.map V.str))) := same_new nT
      obtain ⟨ys2, hys2⟩ := P2.lst
      exact q T _ row ⟨hl, hm⟩ (st.trans (Step.of hys2 sT)) (P2.same sT) sqt_new
end
end Ka

namespace Ka
open L2 PySem PySem.Spec PyProof.Rows

/-! ### the same data, to some depth -/
def FlatSame (a b : V) : Prop := a = b ∧ (a = .non ∨ (∃ k, a = .bl k) ∨ ∃ s, a = .str s)
def SameD (K : PySem.W.Frag) (H : Hp) : Nat → V → V → Prop
  | 0 => FlatSame
  | n + 1 => fun a b => FlatSame a b ∨ ∃ (p q : Addr) (xs ys : List V), a = .ref p ∧ b = .ref q ∧ SqT K H p xs ∧ SqT K H q ys ∧ xs.length ≤ 1000 ∧ Paired (SameD K H n) xs ys
theorem SameD.same {K : PySem.W.Frag} {H H' : Hp} (e : Same H H') : ∀ {n : Nat} {a b : V}, SameD K H n a b → SameD K H' n a b
  | 0, _, _, h => h
  | n + 1, _, _, h => by
    rcases h with h | ⟨p, q, xs, ys, h1, h2, h3, h4, h5, h6⟩
    · exact .inl h
    · exact .inr ⟨p, q, xs, ys, h1, h2, same_sqt e h3, same_sqt e h4, h5, Paired.mapP h6 fun _ _ z => SameD.same e z⟩
theorem tyx_tuple {K : PySem.W.Frag} {H : Hp} {p : Addr} {xs : List V} (h : SqT K H p xs) : TyX K H (.ref p) (.type "tuple") := by
  rcases h with (h | ⟨o, h⟩) | ⟨o, its, n, h, hc, _⟩
  · exact .base (.tup h)
  · exact .fTuple h
  · exact .kTuple h hc
/-- a test, what follows shown once -/
def tJoin (t : TT) : TT := fun σ H Q => ∃ R : Bool → Hp → Prop, t σ H R ∧ ∀ b H', R b H' → Q b H'
theorem pt_join {X : Cx} {e : Expr} {t : TT} (h : PT X e t) : PT X e (tJoin t) := ⟨fun pins s σ H Q I ⟨R, h1, h2⟩ => thn (h.run pins s σ H R I h1) fun b s' ⟨H', I', q⟩ => ⟨H', I', h2 b H' q⟩⟩
section
variable {mg : Str → Option Value} {base : Heap} {P : Program} {w : World} {K : PySem.W.Frag}

/-! ### _law_same -/
abbrev n15 : List Str := ["_law_a", "_law_b", "_law_x", "_law_y"]
theorem sc15 : FnScope n15 ["_law_a", "_law_b"] (defScope (stK 15)) := ⟨rfl, rfl, rfl, by decide +kernel, rfl, by decide +kernel, by decide +kernel⟩
def spSame (K : PySem.W.Frag) (n : Nat) : Sp := fun vs H Q _ => ∃ (a b : V), vs = [a, b] ∧ SameD K H n a b ∧ ∀ H', Same H H' → Q (.bl true) H'
/-- the built-in names that it asks for -/
structure Blt (mg : Str → Option Value) : Prop where
  isinstance : mg "isinstance" = none
  tuple : mg "tuple" = none
  list : mg "list" = none
  bool : mg "bool" = none
  int : mg "int" = none
  str : mg "str" = none
  len : mg "len" = none
  all : mg "all" = none
  zip : mg "zip" = none
theorem k1 : kitB "NoneType" "tuple" = some false := by decide +kernel
theorem k2 : kitB "NoneType" "list" = some false := by decide +kernel
theorem k3 : kitB "bool" "tuple" = some false := by decide +kernel
theorem k4 : kitB "bool" "list" = some false := by decide +kernel
theorem k5 : kitB "bool" "bool" = some true := by decide +kernel
theorem k6 : kitB "str" "tuple" = some false := by decide +kernel
theorem k7 : kitB "str" "list" = some false := by decide +kernel
theorem k8 : kitB "str" "bool" = some false := by decide +kernel
theorem k9 : kitB "str" "int" = some false := by decide +kernel
theorem k10 : kitB "str" "str" = some true := by decide +kernel
theorem k11 : kitB "tuple" "tuple" = some true := by decide +kernel
theorem ok_same {f : Addr} {fd : FuncData} (F : Fun K "_law_same" "_law_same" (stK 15) f fd) (b : Binds K fd ["_law_a", "_law_b"] []) (g : mg "_law_same" = some (.ref f)) (B : Blt mg) : ∀ n : Nat, FnOk P w K mg base CX0 (n + 1) f fd ["_law_a", "_law_b"] (spSame K n) := by
  intro n
  induction n with
  | zero =>
    refine F.ok sc15 (fun vs H Q E h => ?_) (fun cdv A outer s H vs Q E hr h => ?_)
    · obtain ⟨a, b, rfl, _⟩ := h
      rfl
    · obtain ⟨a, b', rfl, hS, q⟩ := h
      refine ⟨_, pss_cons (ps_if (pt_val (pe_callB call_isi (by rfl) B.isinstance (by decide +kernel) (pa_cons (pv 1) (pa_cons (pe_bltn (v := .ty "tuple") (by rfl) B.tuple (by decide +kernel) rfl) pa_nil)))) pss_never pss_nil)
        (pss_cons (ps_if (pt_val (pe_callB call_isi (by rfl) B.isinstance (by decide +kernel) (pa_cons (pv 1) (pa_cons (pe_bltn (v := .ty "list") (by rfl) B.list (by decide +kernel) rfl) pa_nil)))) pss_never pss_nil)
        (pss_cons (ps_if (pt_cmpR op_isN (pv 1) pe_non (nomark _)) (pss_one (ps_ret (pe_cmpR op_isN (pv 0) pe_non (nomark _)))) pss_nil)
        (pss_cons (ps_if (pt_val (pe_callB call_isi (by rfl) B.isinstance (by decide +kernel) (pa_cons (pv 1) (pa_cons (pe_bltn (v := .ty "bool") (by rfl) B.bool (by decide +kernel) rfl) pa_nil))))
          (pss_one (ps_ret (pe_and (pe_callB call_isi (by rfl) B.isinstance (by decide +kernel) (pa_cons (pv 0) (pa_cons (pe_bltn (v := .ty "bool") (by rfl) B.bool (by decide +kernel) rfl) pa_nil))) (pe_one (pe_cmpR op_eq (pv 0) (pv 1) (nomark _)))))) pss_nil)
        (pss_cons (ps_if (pt_val (pe_callB call_isi (by rfl) B.isinstance (by decide +kernel) (pa_cons (pv 1) (pa_cons (pe_bltn (v := .ty "int") (by rfl) B.int (by decide +kernel) rfl) pa_nil)))) pss_never pss_nil)
        (pss_one (ps_ret (pe_and (pe_callB call_isi (by rfl) B.isinstance (by decide +kernel) (pa_cons (pv 0) (pa_cons (pe_bltn (v := .ty "str") (by rfl) B.str (by decide +kernel) rfl) pa_nil))) (pe_one (pe_cmpR op_eq (pv 0) (pv 1) (nomark _)))))))))), ?_⟩
      obtain ⟨rfl, rfl | ⟨k, rfl⟩ | ⟨x, rfl⟩⟩ := hS
      · refine ⟨_, rfl, _, _, _, _, _, rfl, .ty _, .base .non, kit_ty k1, _, rfl, iteF ?_⟩
        refine ⟨_, rfl, _, _, _, _, _, rfl, .ty _, .base .non, kit_ty k2, _, rfl, iteF ?_⟩
        exact ⟨_, rfl, rfl, _, rfl, iteT ⟨_, rfl, rfl, q H (Same.refl H)⟩⟩
      · refine ⟨_, rfl, _, _, _, _, _, rfl, .ty _, .base (.bl k), kit_ty k3, _, rfl, iteF ?_⟩
        refine ⟨_, rfl, _, _, _, _, _, rfl, .ty _, .base (.bl k), kit_ty k4, _, rfl, iteF ?_⟩
        refine ⟨_, rfl, rfl, _, rfl, iteF ?_⟩
        refine ⟨_, rfl, _, _, _, _, _, rfl, .ty _, .base (.bl k), kit_ty k5, _, rfl, iteT ?_⟩
        refine ⟨_, rfl, _, _, _, _, _, rfl, .ty _, .base (.bl k), kit_ty k5, _, rfl, iteT ⟨_, rfl, _, rfl, by cases k <;> rfl, ?_⟩⟩
        rw [decide_eq_true rfl]
        exact q H (Same.refl H)
      · refine ⟨_, rfl, _, _, _, _, _, rfl, .ty _, .base (.str x), kit_ty k6, _, rfl, iteF ?_⟩
        refine ⟨_, rfl, _, _, _, _, _, rfl, .ty _, .base (.str x), kit_ty k7, _, rfl, iteF ?_⟩
        refine ⟨_, rfl, rfl, _, rfl, iteF ?_⟩
        refine ⟨_, rfl, _, _, _, _, _, rfl, .ty _, .base (.str x), kit_ty k8, _, rfl, iteF ?_⟩
        refine ⟨_, rfl, _, _, _, _, _, rfl, .ty _, .base (.str x), kit_ty k9, _, rfl, iteF ?_⟩
        refine ⟨_, rfl, _, _, _, _, _, rfl, .ty _, .base (.str x), kit_ty k10, _, rfl, iteT ⟨_, rfl, _, rfl, rfl, ?_⟩⟩
        rw [decide_eq_true rfl]
        exact q H (Same.refl H)
  | succ n ih =>
    have C : Cal P w K mg base "_law_same" (n + 1) f fd ["_law_a", "_law_b"] (spSame K n) := ⟨ih, F.kp, b, g⟩
    refine F.ok sc15 (fun vs H Q E h => ?_) (fun cdv A outer s H vs Q E hr h => ?_)
    · obtain ⟨a, b, rfl, _⟩ := h
      rfl
    · obtain ⟨a, b', rfl, hS, q⟩ := h
      refine ⟨_, pss_cons (ps_if (pt_val (pe_callB call_isi (by rfl) B.isinstance (by decide +kernel) (pa_cons (pv 1) (pa_cons (pe_bltn (v := .ty "tuple") (by rfl) B.tuple (by decide +kernel) rfl) pa_nil))))
          (pss_cons (ps_if (PW.pt (pw_or (pt_not (pt_val (pe_callB call_isi (by rfl) B.isinstance (by decide +kernel) (pa_cons (pv 0) (pa_cons (pe_bltn (v := .ty "tuple") (by rfl) B.tuple (by decide +kernel) rfl) pa_nil)))))
            (pw_or1 (pt_cmpR op_ne (pe_callB call_len_seq (by rfl) B.len PySem.boot_len (pa_cons (pv 0) pa_nil)) (pe_callB call_len_seq (by rfl) B.len PySem.boot_len (pa_cons (pv 1) pa_nil)) (nomark _))))) pss_never pss_nil)
          (pss_one (ps_ret (pe_callB (cr_all rfl) (by rfl) B.all (by decide +kernel) (pa_cons (pe_lc (own := [("_law_x", 2), ("_law_y", 3)]) (g := gTup K 2 (gCons (gName 2) (gCons (gName 3) gNil))) (tt := tYes) (te := tCall (spSame K n) [] E0 (tCons (tVar 2) (tCons (tVar 3) tNil))) rfl sc15.nd
            (RZ.pi_zipA (by rfl) B.zip (pa_cons (pv 0) (pa_cons (pv 1) pa_nil))) (blkOk_by (N := n15) (sc := defScope (stK 15)) (by decide +kernel))
            (fun _ _ _ _ _ => pg_tup rfl (pgs_cons (pg_name (i := 2) sc15.nd rfl (.inl rfl)) (pgs_cons (pg_name (i := 3) sc15.nd rfl (.inl rfl)) pgs_nil))) (fun _ _ _ _ _ => pts_nil) (fun _ _ _ _ _ => pe_cal C hr (pa_cons (pv 2) (pa_cons (pv 3) pa_nil)))) pa_nil))))) pss_nil)
        (pss_cons (ps_if (pt_val (pe_callB call_isi (by rfl) B.isinstance (by decide +kernel) (pa_cons (pv 1) (pa_cons (pe_bltn (v := .ty "list") (by rfl) B.list (by decide +kernel) rfl) pa_nil)))) pss_never pss_nil)
        (pss_cons (ps_if (pt_cmpR op_isN (pv 1) pe_non (nomark _)) (pss_one (ps_ret (pe_cmpR op_isN (pv 0) pe_non (nomark _)))) pss_nil)
        (pss_cons (ps_if (pt_val (pe_callB call_isi (by rfl) B.isinstance (by decide +kernel) (pa_cons (pv 1) (pa_cons (pe_bltn (v := .ty "bool") (by rfl) B.bool (by decide +kernel) rfl) pa_nil))))
          (pss_one (ps_ret (pe_and (pe_callB call_isi (by rfl) B.isinstance (by decide +kernel) (pa_cons (pv 0) (pa_cons (pe_bltn (v := .ty "bool") (by rfl) B.bool (by decide +kernel) rfl) pa_nil))) (pe_one (pe_cmpR op_eq (pv 0) (pv 1) (nomark _)))))) pss_nil)
        (pss_cons (ps_if (pt_val (pe_callB call_isi (by rfl) B.isinstance (by decide +kernel) (pa_cons (pv 1) (pa_cons (pe_bltn (v := .ty "int") (by rfl) B.int (by decide +kernel) rfl) pa_nil)))) pss_never pss_nil)
        (pss_one (ps_ret (pe_and (pe_callB call_isi (by rfl) B.isinstance (by decide +kernel) (pa_cons (pv 0) (pa_cons (pe_bltn (v := .ty "str") (by rfl) B.str (by decide +kernel) rfl) pa_nil))) (pe_one (pe_cmpR op_eq (pv 0) (pv 1) (nomark _)))))))))), ?_⟩
      rcases hS with ⟨rfl, rfl | ⟨k, rfl⟩ | ⟨x, rfl⟩⟩ | ⟨p, p2, xs, ys, rfl, rfl, hx, hy, hl, hP⟩
      · refine ⟨_, rfl, _, _, _, _, _, rfl, .ty _, .base .non, kit_ty k1, _, rfl, iteF ?_⟩
        refine ⟨_, rfl, _, _, _, _, _, rfl, .ty _, .base .non, kit_ty k2, _, rfl, iteF ?_⟩
        exact ⟨_, rfl, rfl, _, rfl, iteT ⟨_, rfl, rfl, q H (Same.refl H)⟩⟩
      · refine ⟨_, rfl, _, _, _, _, _, rfl, .ty _, .base (.bl k), kit_ty k3, _, rfl, iteF ?_⟩
        refine ⟨_, rfl, _, _, _, _, _, rfl, .ty _, .base (.bl k), kit_ty k4, _, rfl, iteF ?_⟩
        refine ⟨_, rfl, rfl, _, rfl, iteF ?_⟩
        refine ⟨_, rfl, _, _, _, _, _, rfl, .ty _, .base (.bl k), kit_ty k5, _, rfl, iteT ?_⟩
        refine ⟨_, rfl, _, _, _, _, _, rfl, .ty _, .base (.bl k), kit_ty k5, _, rfl, iteT ⟨_, rfl, _, rfl, by cases k <;> rfl, ?_⟩⟩
        rw [decide_eq_true rfl]
        exact q H (Same.refl H)
      · refine ⟨_, rfl, _, _, _, _, _, rfl, .ty _, .base (.str x), kit_ty k6, _, rfl, iteF ?_⟩
        refine ⟨_, rfl, _, _, _, _, _, rfl, .ty _, .base (.str x), kit_ty k7, _, rfl, iteF ?_⟩
        refine ⟨_, rfl, rfl, _, rfl, iteF ?_⟩
        refine ⟨_, rfl, _, _, _, _, _, rfl, .ty _, .base (.str x), kit_ty k8, _, rfl, iteF ?_⟩
        refine ⟨_, rfl, _, _, _, _, _, rfl, .ty _, .base (.str x), kit_ty k9, _, rfl, iteF ?_⟩
        refine ⟨_, rfl, _, _, _, _, _, rfl, .ty _, .base (.str x), kit_ty k10, _, rfl, iteT ⟨_, rfl, _, rfl, rfl, ?_⟩⟩
        rw [decide_eq_true rfl]
        exact q H (Same.refl H)
      · have hlen := hP.length
        refine ⟨_, rfl, _, _, _, _, _, rfl, .ty _, tyx_tuple hy, kit_ty k11, _, rfl, iteT ?_⟩
        refine ⟨_, rfl, _, _, _, _, _, rfl, .ty _, tyx_tuple hx, kit_ty k11, _, rfl, iteF ?_⟩
        refine ⟨_, rfl, p, xs, rfl, .inr hx, _, rfl, p2, ys, rfl, .inr hy, rfl, _, rfl, ?_⟩
        rw [hlen, decide_eq_true rfl]
        refine iteF ?_
        refine ⟨_, rfl, _, rfl, p, p2, xs, ys, rfl, .inr ⟨hx, hy, fun D nD => ?_⟩⟩
        have sD : Same H (upd H D (.lst [])) := same_new nD
        refine lc_it (walk_zipT hlen) (vs := [2, 3]) (fun i H2 => Same H H2 ∧ H2 D = some (.lst ((List.replicate i true).map V.bl)))
          ⟨sD, upd_same⟩ (fun i H2 _ z => ⟨same_sqt z.1 hx, same_sqt z.1 hy⟩) (fun i v H2 H3 hi z hv => ?_) (fun H2 z => ?_)
        · obtain ⟨sm, eD⟩ := z
          obtain ⟨T, x, y, rfl, nT, rfl, ex, ey⟩ := hv
          have sT : Same H2 (upd H2 T (.tup [x, y])) := same_new nT
          obtain ⟨y', ey', hxy⟩ := pr_getL hP ex
          have eyy : y' = y := Option.some.inj (ey'.symm.trans ey)
          subst eyy
          refine ⟨T, _, rfl, sqt_new, rfl, x, _, rfl, y', _, rfl, rfl, rfl, ?_⟩
          refine ⟨_, rfl, _, rfl, x, y', rfl, SameD.same (sm.trans sT) hxy, fun H4 s4 => ?_⟩
          have eD4 := s4 _ _ (sT _ _ eD)
          refine ⟨_, eD4, ?_, fun b' o eb => ?_, ?_⟩
          · rw [List.length_map, List.length_replicate]; exact sl_less (by omega)
          · rw [upd_ne (ne_of_none eb nD)]; exact s4 _ _ (sT _ _ (sm _ _ eb))
          · rw [upd_same, List.replicate_succ', List.map_append]; rfl
        · obtain ⟨sm, eD⟩ := z
          refine ⟨D, _, rfl, SqL.of eD, ?_⟩
          have ea : (List.replicate xs.length true).all id = true := by
            rw [List.all_eq_true]
            intro x hx'
            exact (List.mem_replicate.mp hx').2
          rw [ea]
          exact q H2 sm
end
end Ka

namespace Ka
open L2 PySem PySem.Spec PyProof.Rows
section
variable {mg : Str → Option Value} {base : Heap} {P : Program} {w : World} {K : PySem.W.Frag}

/-! ### _law_tree -/
abbrev n16 : List Str := ["_law_pool_here", "_law_words", "_law_slots", "_law_deep", "_law_room", "_law_kind", "_law_table", "_law_half", "_law_first_here", "_law_word"]
theorem sc16 : FnScope n16 ["_law_pool_here", "_law_words", "_law_slots", "_law_deep", "_law_room"] (defScope (stK 16)) := ⟨rfl, rfl, rfl, by decide +kernel, rfl, by decide +kernel, by decide +kernel⟩
def spTree (K : PySem.W.Frag) (d : Nat) : Sp := fun vs H Q _ => ∃ (p a b : Addr) (ws S : List Str) (dp room : Int), vs = [.ref p, .ref a, .ref b, .int dp, .int room] ∧ Pool H p ∧ Wd H a ws ∧ H b = some (.lst (S.map V.str)) ∧ b ≠ p ∧
  0 < ws.length ∧ ws.length ≤ 3 ∧ 0 < S.length ∧ S.length ≤ 7 ∧ 0 ≤ dp ∧ dp ≤ (d : Nat) ∧ ∀ v H' e, WF ws S e → depth e ≤ dp.toNat → Step p H H' → Pool H' p → Rep K H' v e → Q v H'
theorem ok_tree {f fD fP fR : Addr} {fd fdD fdP fdR : FuncData} (F : Fun K "_law_tree" "_law_tree" (stK 16) f fd) (b : Binds K fd ["_law_pool_here", "_law_words", "_law_slots", "_law_deep", "_law_room"] []) (g : mg "_law_tree" = some (.ref f))
    (CD : Cal P w K mg base "_law_draw" 1 fD fdD ["_law_pool_here", "_law_many"] spDraw) (CP : Cal P w K mg base "_law_pick" 2 fP fdP ["_law_pool_here", "_law_items"] (spPick K)) (CR : Cal P w K mg base "_law_row_of" 3 fR fdR ["_law_pool_here", "_law_words"] (spRowOf K)) (mt : mg "tuple" = none) :
    ∀ d : Nat, FnOk P w K mg base CX0 (d + 4) f fd ["_law_pool_here", "_law_words", "_law_slots", "_law_deep", "_law_room"] (spTree K d) := by
  intro d
  induction d with
  | zero =>
    refine F.ok sc16 (fun vs H Q E h => ?_) (fun cdv A outer s H vs Q E hr h => ?_)
    · obtain ⟨p, a, b, ws, S, dp, room, rfl, _⟩ := h
      rfl
    · obtain ⟨p, a, b', ws, S, dp, room, rfl, hpool, hW, hb, nbp, w0, w3, s0, s7, dp0, dpd, q⟩ := h
      refine ⟨_, pss_cons (ps_set (i := 5) sc16.nd rfl (.inl rfl) (pe_cal CD (hr.mono (by decide)) (pa_cons (pv 0) (pa_cons pe_int pa_nil))))
        (pss_cons (ps_if (PW.pt (pw_or (pt_cmpR op_eq (pv 3) pe_int (nomark _)) (pw_or (pt_cmpR op_lt (pv 4) pe_int (nomark _)) (pw_or1 (pt_cmpR op_eq (pv 5) pe_int (nomark _))))))
          (pss_cons (ps_if (pt_cmpR op_eq (pe_cal CD (hr.mono (by decide)) (pa_cons (pv 0) (pa_cons pe_int pa_nil))) pe_int (nomark _))
            (pss_one (ps_ret (pe_tup (pa_cons pe_str (pa_cons (pe_cal CP (hr.mono (by decide)) (pa_cons (pv 0) (pa_cons (pv 1) pa_nil))) pa_nil))))) pss_nil)
          (pss_one (ps_ret (pe_tup (pa_cons pe_str (pa_cons (pe_cal CP (hr.mono (by decide)) (pa_cons (pv 0) (pa_cons (pv 2) pa_nil))) pa_nil)))))) pss_nil) pss_never), ?_⟩
      obtain ⟨ys, hys⟩ := hpool.lst
      have hdp : dp = 0 := by omega
      subst hdp
      refine ⟨_, rfl, p, 6, rfl, hpool, by decide, by decide, fun r H1 _ st1 P1 => ?_⟩
      refine ⟨_, rfl, rfl, _, rfl, iteT (iteT ?_)⟩
      refine ⟨_, rfl, p, 4, rfl, P1, by decide, by decide, fun r2 H2 _ st2 P2 => ?_⟩
      have st12 := st1.trans st2
      obtain ⟨ys2, hys2⟩ := P2.lst
      refine ⟨rfl, _, rfl, ite2 (fun _ => ?_) (fun _ => ?_)⟩
      · refine ⟨_, rfl, _, rfl, p, a, ws, rfl, P2, hW.ne hys, .inr (hW.but hys st12.but).sqt, w0, by omega, fun x H3 hx st3 P3 => ?_⟩
        refine ⟨sl_small (by show 2 ≤ 10000000; decide), fun T nT => ?_⟩
        obtain ⟨ys3, hys3⟩ := P3.lst
        have sT : Same H3 (upd H3 T (.tup [.str "word", .str x])) := same_new nT
        exact q (.ref T) _ (.word x) hx (Nat.zero_le _) ((st12.trans st3).trans (Step.of hys3 sT)) (P3.same sT) (.word sqt_new)
      · refine ⟨_, rfl, _, rfl, p, b', S, rfl, P2, nbp, .inl (SqL.of (st12.but _ _ nbp hb)), s0, by omega, fun x H3 hx st3 P3 => ?_⟩
        refine ⟨sl_small (by show 2 ≤ 10000000; decide), fun T nT => ?_⟩
        obtain ⟨ys3, hys3⟩ := P3.lst
        have sT : Same H3 (upd H3 T (.tup [.str "slot", .str x])) := same_new nT
        exact q (.ref T) _ (.slot x) hx (Nat.zero_le _) ((st12.trans st3).trans (Step.of hys3 sT)) (P3.same sT) (.slot sqt_new)
  | succ d ih =>
    have C : Cal P w K mg base "_law_tree" (d + 4) f fd ["_law_pool_here", "_law_words", "_law_slots", "_law_deep", "_law_room"] (spTree K d) := ⟨ih, F.kp, b, g⟩
    refine F.ok sc16 (fun vs H Q E h => ?_) (fun cdv A outer s H vs Q E hr h => ?_)
    · obtain ⟨p, a, b, ws, S, dp, room, rfl, _⟩ := h
      rfl
    · obtain ⟨p, a, b', ws, S, dp, room, rfl, hpool, hW, hb, nbp, w0, w3, s0, s7, dp0, dpd, q⟩ := h
      refine ⟨_, pss_cons (ps_set (i := 5) sc16.nd rfl (.inl rfl) (pe_cal CD (hr.mono (by omega)) (pa_cons (pv 0) (pa_cons pe_int pa_nil))))
        (pss_cons (ps_if (pt_join (PW.pt (pw_or (pt_cmpR op_eq (pv 3) pe_int (nomark _)) (pw_or (pt_cmpR op_lt (pv 4) pe_int (nomark _)) (pw_or1 (pt_cmpR op_eq (pv 5) pe_int (nomark _)))))))
          (pss_cons (ps_if (pt_cmpR op_eq (pe_cal CD (hr.mono (by omega)) (pa_cons (pv 0) (pa_cons pe_int pa_nil))) pe_int (nomark _))
            (pss_one (ps_ret (pe_tup (pa_cons pe_str (pa_cons (pe_cal CP (hr.mono (by omega)) (pa_cons (pv 0) (pa_cons (pv 1) pa_nil))) pa_nil))))) pss_nil)
          (pss_one (ps_ret (pe_tup (pa_cons pe_str (pa_cons (pe_cal CP (hr.mono (by omega)) (pa_cons (pv 0) (pa_cons (pv 2) pa_nil))) pa_nil)))))) pss_nil)
        (pss_cons (ps_if (pt_cmpR op_lt (pv 5) pe_int (nomark _))
          (pss_one (ps_ret (pe_tup (pa_cons pe_str (pa_cons (pe_cal CR (hr.mono (by omega)) (pa_cons (pv 0) (pa_cons (pv 1) pa_nil)))
            (pa_cons (pe_cal C hr (pa_cons (pv 0) (pa_cons (pv 1) (pa_cons (pv 2) (pa_cons (pe_op op_sub (pv 3) pe_int) (pa_cons (pe_op op_sub (pv 4) pe_int) pa_nil)))))) pa_nil)))))) pss_nil)
        (pss_cons (ps_set (i := 6) sc16.nd rfl (.inl rfl) (pe_callTy call_tuple_of (by rfl) mt (by decide +kernel) (pa_cons (pe_lc (own := [("_law_word", 9)]) (g := gName 9) (tt := tYes) (te := tCall (spRowOf K) [] E0 (tCons (tVar 0) (tCons (tVar 1) tNil))) rfl sc16.nd (pi_tup (pv 1))
          (blkOk_by (N := n16) (sc := defScope (stK 16)) (by decide +kernel)) (fun _ _ _ _ _ => pg_name (i := 9) sc16.nd rfl (.inl rfl)) (fun _ _ _ _ _ => pts_nil) (fun _ _ _ _ _ => pe_cal CR (hr.mono (by omega)) (pa_cons (pv 0) (pa_cons (pv 1) pa_nil)))) pa_nil)))
        (pss_cons (ps_set (i := 7) sc16.nd rfl (.inl rfl) (pe_op op_fdiv (pe_op op_sub (pv 4) pe_int) pe_int))
        (pss_cons (ps_set (i := 8) sc16.nd rfl (.inl rfl) (pe_cal C hr (pa_cons (pv 0) (pa_cons (pv 1) (pa_cons (pv 2) (pa_cons (pe_op op_sub (pv 3) pe_int) (pa_cons (pv 7) pa_nil)))))))
        (pss_one (ps_ret (pe_tup (pa_cons pe_str (pa_cons (pv 6) (pa_cons (pv 8) (pa_cons (pe_cal C hr (pa_cons (pv 0) (pa_cons (pv 1) (pa_cons (pv 2) (pa_cons (pe_op op_sub (pv 3) pe_int)
          (pa_cons (pe_op op_sub (pe_op op_sub (pv 4) pe_int) (pv 7)) pa_nil)))))) pa_nil)))))))))))), ?_⟩
      obtain ⟨ys, hys⟩ := hpool.lst
      refine ⟨_, rfl, p, 6, rfl, hpool, by decide, by decide, fun r H1 _ st1 P1 => ?_⟩
      refine ⟨fun k H' => H' = H1 ∧ (k = false → dp ≠ 0), ?_, fun k H' hk => ?_⟩
      · refine ⟨_, rfl, rfl, _, rfl, ite2 (fun _ => ⟨rfl, fun z => by cases z⟩) (fun h1 => ?_)⟩
        have hne : dp ≠ 0 := fun z => h1 (by rw [z]; exact decide_eq_true rfl)
        refine ⟨_, rfl, room, 3, rfl, rfl, _, rfl, ite2 (fun _ => ⟨rfl, fun z => by cases z⟩) (fun _ => ?_)⟩
        exact ⟨_, rfl, rfl, _, rfl, rfl, fun _ => hne⟩
      obtain ⟨rfl, hne⟩ := hk
      have hW1 := hW.but hys st1.but
      have hb1 := st1.but _ _ nbp hb
      obtain ⟨ys1, hys1⟩ := P1.lst
      refine ite2 (fun _ => ?_) (fun hkf => ?_)
      · refine ⟨_, rfl, p, 4, rfl, P1, by decide, by decide, fun r2 H2 _ st2 P2 => ?_⟩
        have st12 := st1.trans st2
        obtain ⟨ys2, hys2⟩ := P2.lst
        refine ⟨rfl, _, rfl, ite2 (fun _ => ?_) (fun _ => ?_)⟩
        · refine ⟨_, rfl, _, rfl, p, a, ws, rfl, P2, hW.ne hys, .inr (hW.but hys st12.but).sqt, w0, by omega, fun x H3 hx st3 P3 => ?_⟩
          refine ⟨sl_small (by show 2 ≤ 10000000; decide), fun T nT => ?_⟩
          obtain ⟨ys3, hys3⟩ := P3.lst
          have sT : Same H3 (upd H3 T (.tup [.str "word", .str x])) := same_new nT
          exact q (.ref T) _ (.word x) hx (Nat.zero_le _) ((st12.trans st3).trans (Step.of hys3 sT)) (P3.same sT) (.word sqt_new)
        · refine ⟨_, rfl, _, rfl, p, b', S, rfl, P2, nbp, .inl (SqL.of (st12.but _ _ nbp hb)), s0, by omega, fun x H3 hx st3 P3 => ?_⟩
          refine ⟨sl_small (by show 2 ≤ 10000000; decide), fun T nT => ?_⟩
          obtain ⟨ys3, hys3⟩ := P3.lst
          have sT : Same H3 (upd H3 T (.tup [.str "slot", .str x])) := same_new nT
          exact q (.ref T) _ (.slot x) hx (Nat.zero_le _) ((st12.trans st3).trans (Step.of hys3 sT)) (P3.same sT) (.slot sqt_new)
      have hne' : dp ≠ 0 := hne (by cases k with | true => exact absurd rfl hkf | false => rfl)
      refine ⟨_, rfl, _, 4, rfl, rfl, _, rfl, ite2 (fun _ => ?_) (fun _ => ?_)⟩
      · -- a map
        refine ⟨_, rfl, _, rfl, p, a, ws, rfl, P1, hW1, w0, w3, fun R H2 row hrow st2 P2 hR => ?_⟩
        obtain ⟨ys2, hys2⟩ := P2.lst
        refine ⟨_, rfl, _, rfl, _, rfl, _, rfl, dp, 1, rfl, rfl, _, rfl, room, 1, rfl, rfl, ?_⟩
        refine ⟨p, a, b', ws, S, dp - 1, room - 1, rfl, P2, hW1.but hys1 st2.but, st2.but _ _ nbp hb1, nbp, w0, w3, s0, s7, by omega, by omega, fun v H3 e wf hde st3 P3 hrep => ?_⟩
        refine ⟨sl_small (by show 3 ≤ 10000000; decide), fun T nT => ?_⟩
        obtain ⟨ys3, hys3⟩ := P3.lst
        have sT : Same H3 (upd H3 T (.tup [.str "map", .ref R, v])) := same_new nT
        exact q (.ref T) _ (.map row e) ⟨hrow, wf⟩ (by show depth e + 1 ≤ _; omega) ((st1.trans (st2.trans st3)).trans (Step.of hys3 sT)) (P3.same sT) (.map sqt_new (same_sqt sT (sqt_but hys2 st3.but hR)) (hrep.same sT))
      · -- a pair
        refine ⟨_, rfl, a, rfl, ⟨_, hW1.sqt⟩, fun D nD => ?_⟩
        have nDp : D ≠ p := (ne_of_none hys1 nD).symm
        have sD : Same H' (upd H' D (.lst [])) := same_new nD
        refine lc_tup (xs := ws.map V.str) (vs := [9]) (fun i H2 => ∃ (rs : List Addr) (tab : List (List Str)), tab.length = i ∧ (∀ r ∈ tab, RowOk ws r) ∧ Rows K H2 rs tab ∧ Step p H' H2 ∧ Pool H2 p ∧ H2 D = some (.lst (rs.map V.ref)) ∧ Off H2 p D)
          ⟨[], [], rfl, fun x hx => by simp at hx, .nil, Step.of hys1 sD, P1.same sD, upd_same, (P1.off_new nD).put nDp⟩ (fun i H2 _ z => ?_) (fun i x H2 hx z => ?_) (fun H2 z => ?_)
        · obtain ⟨_, _, _, _, _, st, _⟩ := z
          exact sqt_but hys1 st.but hW1.sqt
        · obtain ⟨rs, tab, hl, hm, hrows, st, P2, eD, oD⟩ := z
          have hi : i < ws.length := by
            have := (List.getElem?_eq_some_iff.mp hx).1
            rwa [List.length_map] at this
          obtain ⟨ys2, hys2⟩ := P2.lst
          refine ⟨rfl, _, rfl, _, rfl, p, a, ws, rfl, P2, hW1.but hys1 st.but, w0, w3, fun R H3 row hrow st3 P3 hR => ?_⟩
          have eD3 := st3.but _ _ nDp eD
          have oD3 := st3.off _ _ nDp eD oD
          have hrl := hrows.length
          have hbD : But D H3 (upd H3 D (.lst (rs.map V.ref ++ [.ref R]))) := but_upd
          refine ⟨_, eD3, ?_, rs ++ [R], tab ++ [row], by rw [List.length_append, hl]; rfl, fun z hz => ?_, ?_, (st.trans st3).fresh nD nDp, P3.put nDp oD3, ?_, oD3.put nDp⟩
          · rw [List.length_map]; exact sl_less (by omega)
          · rcases List.mem_append.mp hz with z' | z'
            · exact hm z z'
            · have ez : z = row := by simpa using z'
              rw [ez]; exact hrow
          · exact pr_app (rows_but eD3 hbD (rows_but hys2 st3.but hrows)) (.cons (sqt_but eD3 hbD hR) .nil)
          · rw [upd_same, List.map_append]; rfl
        obtain ⟨rs, tab, hl, hm, hrows, st, P2, eD, oD⟩ := z
        rw [List.length_map] at hl
        refine ⟨D, _, rfl, .inl ⟨SqL.of eD, fun T nT => ?_⟩⟩
        have sT : Same H2 (upd H2 T (.tup (rs.map V.ref))) := same_new nT
        obtain ⟨ys2, hys2⟩ := P2.lst
        have hT : SqT K (upd H2 T (.tup (rs.map V.ref))) T (rs.map V.ref) := sqt_new
        have P2' := P2.same sT
        have st' := st.trans (Step.of hys2 sT)
        have hrows' := rows_same sT hrows
        -- half, the first part
        refine ⟨_, rfl, room, 1, rfl, rfl, _, 2, rfl, rfl, ⟨by decide, by decide⟩, ?_⟩
        obtain ⟨ys3, hys3⟩ := P2'.lst
        refine ⟨_, rfl, _, rfl, _, rfl, _, rfl, dp, 1, rfl, rfl, _, rfl, ?_⟩
        refine ⟨p, a, b', ws, S, dp - 1, _, rfl, P2', hW1.but hys1 st'.but, st'.but _ _ nbp hb1, nbp, w0, w3, s0, s7, by omega, by omega, fun v H3 e wf hde st3 P3 hrep => ?_⟩
        obtain ⟨ys4, hys4⟩ := P3.lst
        -- the second
        refine ⟨_, rfl, _, rfl, _, rfl, _, rfl, _, rfl, _, rfl, dp, 1, rfl, rfl, _, rfl, room, 1, rfl, rfl, _, rfl, _, _, rfl, rfl, ?_⟩
        have st'' := st'.trans st3
        refine ⟨p, a, b', ws, S, dp - 1, _, rfl, P3, hW1.but hys1 st''.but, st''.but _ _ nbp hb1, nbp, w0, w3, s0, s7, by omega, by omega, fun v2 H4 e2 wf2 hde2 st4 P4 hrep2 => ?_⟩
        refine ⟨sl_small (by show 4 ≤ 10000000; decide), fun U nU => ?_⟩
        obtain ⟨ys5, hys5⟩ := P4.lst
        have sU : Same H4 (upd H4 U (.tup [.str "pair", .ref T, v, v2])) := same_new nU
        refine q (.ref U) _ (.pair tab e e2) ⟨⟨hl, hm⟩, wf, wf2⟩ (by show max (depth e) (depth e2) + 1 ≤ _; omega) ((st1.trans (st''.trans st4)).trans (Step.of hys5 sU)) (P4.same sU) ?_
        exact .pair sqt_new (same_sqt sU (sqt_but hys4 st4.but (sqt_but hys3 st3.but hT))) (rows_same sU (rows_but hys4 st4.but (rows_but hys3 st3.but hrows'))) ((hrep.but hys4 st4.but).same sU) (hrep2.same sU)
end
end Ka

namespace Ka
open L2 PySem PySem.Spec PyProof.Rows

/-! ### a list or a tuple that is walked -/
def SqX (K : PySem.W.Frag) (isL : Bool) (H : Hp) (a : Addr) (xs : List V) : Prop := match isL with
  | true => SqL K H a xs
  | false => SqT K H a xs
def ItX (K : PySem.W.Frag) (isL : Bool) (a : Addr) : It := match isL with
  | true => Itl K a
  | false => Itt K a
def iAny (K : PySem.W.Frag) (isL : Bool) (tl : TE) : TI := fun σ H R => tl σ H fun x H1 => ∃ a, x = .ref a ∧ (∃ xs, SqX K isL H1 a xs) ∧ R (ItX K isL a) H1
theorem pi_any {X : Cx} {tg l : Expr} {tl : TE} (isL : Bool) (h : PE X l tl) : PI X tg l (iAny X.K isL tl) := by
  cases isL
  · exact pi_tup h
  · exact pi_list h
theorem walk_any {K : PySem.W.Frag} {isL : Bool} {a : Addr} {xs : List V} : Walk (ItX K isL a) xs.length (fun H => SqX K isL H a xs) (YAt xs) := by
  cases isL
  · exact walk_tup
  · exact walk_list
theorem sqx_same {K : PySem.W.Frag} {isL : Bool} {H H' : Hp} {a : Addr} {xs : List V} (e : Same H H') (h : SqX K isL H a xs) : SqX K isL H' a xs := by
  cases isL
  · exact same_sqt e h
  · exact e.seq h
section
variable {mg : Str → Option Value} {base : Heap} {P : Program} {w : World} {K : PySem.W.Frag}

/-! ### _law_all -/
abbrev n17 : List Str := ["_law_words", "_law_slots", "_law_rows", "_law_slot", "_law_longer", "_law_row", "_law_word"]
theorem sc17 : FnScope n17 ["_law_words", "_law_slots"] (defScope (stK 17)) := ⟨rfl, rfl, rfl, by decide +kernel, rfl, by decide +kernel, by decide +kernel⟩
def spLAll (K : PySem.W.Frag) (isL : Bool) : Sp := fun vs H Q _ => ∃ (a b : Addr) (ws slots : List Str), vs = [.ref a, .ref b] ∧ SqT K H a (ws.map V.str) ∧ SqX K isL H b (slots.map V.str) ∧ ws.length ≤ 3 ∧ slots.length ≤ 7 ∧
  ∀ l H' rs, Same H H' → H l = none → H' l = some (.lst (rs.map V.ref)) → Paired (Gv K H') rs (allRows ws slots) → Q (.ref l) H'
theorem ok_lall (isL : Bool) {f : Addr} {fd : FuncData} (F : Fun K "_law_all" "_law_all" (stK 17) f fd) : FnOk P w K mg base CX0 1 f fd ["_law_words", "_law_slots"] (spLAll K isL) := by
  refine F.ok sc17 (fun vs H Q E h => ?_) (fun cdv A outer s H vs Q E hr h => ?_)
  · obtain ⟨a, b, ws, slots, rfl, _⟩ := h
    rfl
  · obtain ⟨a, b, ws, slots, rfl, hW, hS, lw, ls, q⟩ := h
    refine ⟨_, pss_cons (ps_set (i := 2) sc17.nd rfl (.inl rfl) (pe_lst (pa_cons (pe_tup pa_nil) pa_nil)))
      (pss_cons (ps_for PassesOwn.never rfl (pi_any isL (pv 1)) (pg_name (i := 3) sc17.nd rfl (.inr rfl))
        (pss_cons (ps_set (i := 4) sc17.nd rfl (.inl rfl) (pe_lst pa_nil))
        (pss_cons (ps_for PassesOwn.never rfl (pi_list (pv 2)) (pg_name (i := 5) sc17.nd rfl (.inr rfl))
          (pss_one (ps_expr (pe_bm PySem.F.plainAttrs_list PySem.F.slot_list_extend PySem.F.type_list_extend mt_extend (pv 4)
            (pa_cons (pe_lc (own := [("_law_word", 6)]) (g := gName 6) (tt := tYes) (te := tOp (rCatS K) (tVar 5) (tTup (tCons (tTup (tCons (tVar 3) (tCons (tVar 6) tNil))) tNil))) rfl sc17.nd (pi_tup (pv 0)) (blkOk_by (N := n17) (sc := defScope (stK 17)) (by decide +kernel))
              (fun _ _ _ _ _ => pg_name (i := 6) sc17.nd rfl (.inl rfl)) (fun _ _ _ _ _ => pts_nil) (fun _ _ _ _ _ => pe_op op_catS (pv 5) (pe_tup (pa_cons (pe_tup (pa_cons (pv 3) (pa_cons (pv 6) pa_nil))) pa_nil)))) pa_nil)))))
        (pss_one (ps_set (i := 2) sc17.nd rfl (.inl rfl) (pv 4))))))
      (pss_one (ps_ret (pv 2)))), ?_⟩
    -- rows = [()]
    refine ⟨Nat.zero_le _, fun t0 nt0 => ⟨sl_small (by show 1 ≤ 10000000; decide), fun l0 nl0 => ?_⟩⟩
    have s1 : Same H (upd H t0 (.tup [])) := same_new nt0
    have s2 : Same H (upd (upd H t0 (.tup [])) l0 (.lst [.ref t0])) := s1.trans (same_new nl0)
    have nl0H : H l0 = none := s1.free nl0
    refine ⟨_, rfl, b, rfl, ⟨_, sqx_same s2 hS⟩, for_it (walk_any (xs := slots.map V.str)) (fun i σ H' => ∃ y3 y4 y5 l rs, σ = [some (.ref a), some (.ref b), some (.ref l), y3, y4, y5, none] ∧ Same H H' ∧ H l = none ∧ H' l = some (.lst (rs.map V.ref)) ∧ Paired (Gv K H') rs (allRows ws (slots.take i)))
      ⟨none, none, none, l0, [t0], rfl, s2, nl0H, upd_same, .cons ⟨[], same_sqt (same_new nl0) sqt_new, .nil⟩ .nil⟩ (fun i σ H' _ z => ?_) (fun i x σ H' H0 hi z hy => ?_) (fun σ H' z => ?_)⟩
    · obtain ⟨_, _, _, _, _, _, sm, _⟩ := z
      exact sqx_same sm hS
    · obtain ⟨y3, y4, y5, l, rs, rfl, sm, nlH, el, hP⟩ := z
      obtain ⟨rfl, hx⟩ := hy
      rw [List.getElem?_map] at hx
      obtain ⟨sl, hsl, rfl⟩ := Option.map_eq_some_iff.mp hx
      rw [List.length_map] at hi
      have hlen := hP.length
      rw [allRows_length, List.length_take, Nat.min_eq_left (Nat.le_of_lt hi)] at hlen
      -- longer = []
      refine ⟨Nat.zero_le _, fun L nL => ?_⟩
      have sL : Same H0 (upd H0 L (.lst [])) := same_new nL
      have nLH : H L = none := sm.free nL
      refine ⟨_, rfl, l, rfl, ⟨_, SqL.of (sL _ _ el)⟩, for_list (xs := rs.map V.ref) (fun m σ H2 => ∃ y5 qs, σ = [some (.ref a), some (.ref b), some (.ref l), some (.str sl), some (.ref L), y5, none] ∧ Same H0 H2 ∧ H2 L = some (.lst (qs.map V.ref)) ∧
          Paired (Gv K H2) qs (((allRows ws (slots.take i)).take m).flatMap fun row => ws.map fun w => row ++ [(sl, w)]))
        ⟨_, [], rfl, sL, upd_same, .nil⟩ (fun m σ H2 _ z => ?_) (fun m x σ H2 hx z => ?_) (fun σ H2 z => ?_)⟩
      · obtain ⟨_, _, _, sm2, _⟩ := z
        exact sm2.seq (SqL.of el)
      · obtain ⟨y5, qs, rfl, sm2, eL, hQ⟩ := z
        rw [List.getElem?_map] at hx
        obtain ⟨r, hr', rfl⟩ := Option.map_eq_some_iff.mp hx
        obtain ⟨row, hrow, hGv⟩ := pr_getL hP hr'
        have et : (allRows ws (slots.take i)).take (m + 1) = (allRows ws (slots.take i)).take m ++ [row] := by rw [List.take_add_one, hrow]; rfl
        -- the longer ones of a row
        refine ⟨_, rfl, .inl ⟨rfl, _, SqL.of eL⟩, _, rfl, a, rfl, ⟨_, same_sqt (sm.trans sm2) hW⟩, fun D nD => ?_⟩
        have sD : Same H2 (upd H2 D (.lst [])) := same_new nD
        refine lc_tup (xs := ws.map V.str) (vs := [6]) (fun j H4 => ∃ fs, Same H2 H4 ∧ H4 D = some (.lst (fs.map V.ref)) ∧ Paired (Gv K H4) fs ((ws.take j).map fun w => row ++ [(sl, w)]))
          ⟨[], sD, upd_same, .nil⟩ (fun j H4 _ z => ?_) (fun j x H4 hx4 z => ?_) (fun H4 z => ?_)
        · obtain ⟨_, sm4, _⟩ := z
          exact same_sqt sm4 (same_sqt (sm.trans sm2) hW)
        · obtain ⟨fs, sm4, eD4, hF⟩ := z
          rw [List.getElem?_map] at hx4
          obtain ⟨u, hu, rfl⟩ := Option.map_eq_some_iff.mp hx4
          have hj : j < ws.length := (List.getElem?_eq_some_iff.mp hu).1
          obtain ⟨ps, hg, hps⟩ := hGv
          have hfl := hF.length
          have hrl := row_len (List.mem_of_getElem? hrow)
          have hpl := hps.length
          rw [List.length_take] at hrl
          rw [List.length_map, List.length_take] at hfl
          have smr := sm2.trans sm4
          refine ⟨rfl, _, rfl, _, rfl, _, rfl, sl_small (by show 2 ≤ 10000000; decide), fun p1 np1 => ⟨sl_small (by show 1 ≤ 10000000; decide), fun p2 np2 => ?_⟩⟩
          have s5 : Same H4 (upd H4 p1 (.tup [.str sl, .str u])) := same_new np1
          have s6 : Same (upd H4 p1 (.tup [.str sl, .str u])) (upd (upd H4 p1 (.tup [.str sl, .str u])) p2 (.tup [.ref p1])) := same_new np2
          refine ⟨r, p2, ps.map V.ref, [.ref p1], rfl, rfl, same_sqt s6 (same_sqt s5 (same_sqt smr hg)), sqt_new, by rw [List.length_map]; exact sl_small (by simp only [List.length_singleton]; omega), fun p3 H6 s7 hc => ?_⟩
          have sm6 : Same H4 H6 := (s5.trans s6).trans s7
          have eD6 := sm6 _ _ eD4
          have hb : But D H6 (upd H6 D (.lst (fs.map V.ref ++ [.ref p3]))) := but_upd
          refine ⟨fs.map V.ref, eD6, ?_, fs ++ [p3], fun b' o eb => ?_, by rw [upd_same, List.map_append]; rfl, ?_⟩
          · rw [List.length_map]; exact sl_less (by omega)
          · exact hb b' o (ne_of_none eb nD) (sm6 _ _ (sm4 _ _ eb))
          · have ew : ws.take (j + 1) = ws.take j ++ [u] := by rw [List.take_add_one, hu]; rfl
            rw [ew, List.map_append]
            refine pr_app (Paired.mapP hF fun _ _ z => (z.same sm6).but eD6 hb) (.cons ?_ .nil)
            exact (gv_snoc (Paired.mapP hps fun _ _ z => same_sqt sm6 (same_sqt smr z)) (same_sqt s7 (same_sqt s6 sqt_new)) hc).but eD6 hb
        · obtain ⟨fs, sm4, eD4, hF⟩ := z
          rw [List.length_map, List.take_length] at hF
          have eL4 := sm4 _ _ eL
          have hfl := hF.length
          have hql := hQ.length
          rw [List.length_map] at hfl
          refine ⟨L, D, qs.map V.ref, fs.map V.ref, rfl, rfl, eL4, eD4, ?_, _, qs ++ fs, rfl, fun b' o eb => ?_, by rw [upd_same, List.map_append], ?_⟩
          · rw [List.length_map, List.length_map, hql, List.length_flatMap]
            have : ∀ M : List (List (Str × Str)), (M.map fun row => (ws.map fun w => row ++ [(sl, w)]).length).sum = M.length * ws.length := by
              intro M
              induction M with
              | nil => simp
              | cons c M ih => rw [List.map_cons, List.sum_cons, ih, List.length_map, List.length_cons, Nat.add_mul, Nat.one_mul]; omega
            rw [this, List.length_take, allRows_length, List.length_take]
            have h1 : min m (ws.length ^ min i slots.length) * ws.length ≤ 2187 * 3 := Nat.mul_le_mul (Nat.le_trans (Nat.min_le_right _ _) (pow_small (slots := slots) lw (by omega))) lw
            exact sl_small (by omega)
          · rw [upd_ne (ne_of_none eb nL)]; exact sm4 _ _ (sm2 _ _ eb)
          · have hb : But L H4 (upd H4 L (.lst (qs.map V.ref ++ fs.map V.ref))) := but_upd
            rw [et, List.flatMap_append]
            have e1 : ([row].flatMap fun row => ws.map fun w => row ++ [(sl, w)]) = ws.map fun w => row ++ [(sl, w)] := by simp
            rw [e1]
            exact pr_app (Paired.mapP hQ fun _ _ z => (z.same sm4).but eL4 hb) (Paired.mapP hF fun _ _ z => z.but eL4 hb)
      · obtain ⟨y5, qs, rfl, sm2, eL, hQ⟩ := z
        refine ⟨_, rfl, _, _, _, L, qs, rfl, sm.trans sm2, nLH, eL, ?_⟩
        rw [rows_take hsl]
        rw [List.length_map, hP.length, List.take_length] at hQ
        exact hQ
    · obtain ⟨y3, y4, y5, l, rs, rfl, sm, nlH, el, hP⟩ := z
      rw [List.length_map, List.take_length] at hP
      exact ⟨_, rfl, q l H' rs sm nlH el hP⟩

/-! ### _law_known -/
abbrev n18 : List Str := ["_law_words", "_law_expr", "_law_slots", "_law_row"]
theorem sc18 : FnScope n18 ["_law_words", "_law_expr", "_law_slots"] (defScope (stK 18)) := ⟨rfl, rfl, rfl, by decide +kernel, rfl, by decide +kernel, by decide +kernel⟩
def spKnown (K : PySem.W.Frag) : Sp := fun vs H Q _ => ∃ (a b : Addr) (v : V) (e : Ex Str) (ws S slots : List Str), vs = [.ref a, v, .ref b] ∧ Wd H a ws ∧ Rep K H v e ∧ SqT K H b (slots.map V.str) ∧ Setup ws S ∧ Fine ws S e ∧ slots.length ≤ 7 ∧ (∀ t ∈ slotsOf e, t ∈ slots) ∧
  ∀ l H' (us : List Str), Same H H' → H' l = some (.lst (us.map V.str)) → us.map some = (allRows ws slots).map (val ws · e) → Q (.ref l) H'
theorem ok_known {f fA fV : Addr} {fd fdA fdV : FuncData} (F : Fun K "_law_known" "_law_known" (stK 18) f fd) (CA : Cal P w K mg base "_law_all" 1 fA fdA ["_law_words", "_law_slots"] (spLAll K false)) (CV : Cal P w K mg base "value" 8 fV fdV ["words", "expr", "given"] (spValue K 6)) :
    FnOk P w K mg base CX0 9 f fd ["_law_words", "_law_expr", "_law_slots"] (spKnown K) := by
  refine F.ok sc18 (fun vs H Q E h => ?_) (fun cdv A outer s H vs Q E hr h => ?_)
  · obtain ⟨a, b, v, e, ws, S, slots, rfl, _⟩ := h
    rfl
  · obtain ⟨a, b, v, e, ws, S, slots, rfl, hW, hR, hS, su, fe, ls, hsub, q⟩ := h
    refine ⟨_, pss_one (ps_ret (pe_lc (own := [("_law_row", 3)]) (g := gName 3) (tt := tYes) (te := tCall (spValue K 6) [] E0 (tCons (tVar 0) (tCons (tVar 1) (tCons (tVar 3) tNil)))) rfl sc18.nd (pi_list (pe_cal CA (hr.mono (by decide)) (pa_cons (pv 0) (pa_cons (pv 2) pa_nil))))
      (blkOk_by (N := n18) (sc := defScope (stK 18)) (by decide +kernel)) (fun _ _ _ _ _ => pg_name (i := 3) sc18.nd rfl (.inl rfl)) (fun _ _ _ _ _ => pts_nil) (fun _ _ _ _ _ => pe_cal CV hr (pa_cons (pv 0) (pa_cons (pv 1) (pa_cons (pv 3) pa_nil)))))), ?_⟩
    refine ⟨_, rfl, _, rfl, a, b, ws, slots, rfl, hW.sqt, hS, su.hi, ls, fun l H1 rs s1 nl el hP => ?_⟩
    refine ⟨l, rfl, ⟨_, SqL.of el⟩, fun D nD => ?_⟩
    have sD : Same H1 (upd H1 D (.lst [])) := same_new nD
    refine lc_list (xs := rs.map V.ref) (vs := [3]) (fun i H2 => ∃ us : List Str, Same H1 H2 ∧ H2 D = some (.lst (us.map V.str)) ∧ us.map some = ((allRows ws slots).take i).map (val ws · e))
      ⟨[], sD, upd_same, rfl⟩ (fun i H2 _ z => ?_) (fun i x H2 hx z => ?_) (fun H2 z => ?_)
    · obtain ⟨_, sm, _⟩ := z
      exact sm.seq (SqL.of el)
    · obtain ⟨us, sm, eD, hu⟩ := z
      rw [List.getElem?_map] at hx
      obtain ⟨r, hr', rfl⟩ := Option.map_eq_some_iff.mp hx
      obtain ⟨g, hg, hGv⟩ := pr_getL hP hr'
      have hgm : g ∈ allRows ws slots := List.mem_of_getElem? hg
      have sH := s1.trans sm
      refine ⟨rfl, _, rfl, _, rfl, _, rfl, a, r, v, e, ws, S, g, rfl, hW.same sH, hR.same sH, hGv.same sm, fe.wf, (cov_of_row hgm).sub hsub, fe.dp, fun x hx hxm => ?_⟩
      refine ⟨_, eD, ?_, us ++ [x], fun b' o eb => ?_, by rw [upd_same, List.map_append]; rfl, ?_⟩
      · have h1 := congrArg List.length hu
        rw [List.length_map, List.length_map, List.length_take, allRows_length] at h1
        have h2 : ws.length ^ slots.length ≤ 2187 := pow_small (slots := slots) su.hi ls
        rw [List.length_map]; exact sl_less (by omega)
      · rw [upd_ne (ne_of_none eb nD)]; exact sm _ _ eb
      · have eg : (allRows ws slots).take (i + 1) = (allRows ws slots).take i ++ [g] := by rw [List.take_add_one, hg]; rfl
        rw [eg, List.map_append, List.map_append, hu]
        show _ ++ [some x] = _ ++ [val ws g e]
        rw [hx]
    · obtain ⟨us, sm, eD, hu⟩ := z
      rw [List.length_map, hP.length, List.take_length] at hu
      exact q D H2 us (s1.trans sm) eD hu

/-! ### _law_matters -/
abbrev n19 : List Str := ["_law_words", "_law_expr", "_law_slots", "_law_found", "_law_results", "_law_size", "_law_slot", "_law_block", "_law_unlike", "_law_k"]
theorem sc19 : FnScope n19 ["_law_words", "_law_expr", "_law_slots"] (defScope (stK 19)) := ⟨rfl, rfl, rfl, by decide +kernel, rfl, by decide +kernel, by decide +kernel⟩
def spLMatters (K : PySem.W.Frag) : Sp := fun vs H Q _ => ∃ (a b : Addr) (v : V) (e : Ex Str) (ws S : List Str), vs = [.ref a, v, .ref b] ∧ Wd H a ws ∧ Rep K H v e ∧ SqT K H b ((reads e).map V.str) ∧ Setup ws S ∧ Fine ws S e ∧
  ∀ l H', Same H H' → H' l = some (.lst ((mattersL ws e).map V.str)) → Q (.ref l) H'
/-- the place k's result is unlike the one with the digit put to nought -/
def unl (ws : List Str) (e : Ex Str) (slots : List Str) (i k : Nat) : Bool := decide (((allRows ws slots).map (val ws · e))[k]? ≠ ((allRows ws slots).map (val ws · e))[zero (ws.length ^ (slots.length - i)) (ws.length ^ (slots.length - (i + 1))) k]?)
theorem unl_any (ws : List Str) (e : Ex Str) (slots : List Str) (i : Nat) : (List.range (allRows ws slots).length).any (unl ws e slots i) = unlikeAt ws e slots i := rfl
theorem any_snoc (p : Nat → Bool) (k : Nat) : (List.range (k + 1)).any p = ((List.range k).any p || p k) := by
  rw [List.range_succ, List.any_append, List.any_cons, List.any_nil, Bool.or_false]
theorem pow_div {b L i : Nat} (hb : 0 < b) (hi : i < L) : b ^ (L - i) / b = b ^ (L - (i + 1)) := by
  have e : L - i = (L - (i + 1)) + 1 := by omega
  rw [e, Nat.pow_succ]
  exact Nat.mul_div_cancel _ hb
theorem zero_int {size block k : Nat} : (k : Int) - (k : Int) % (size : Nat) + (k : Int) % (block : Nat) = ((zero size block k : Nat) : Int) := by
  unfold zero
  have h : k % size ≤ k := Nat.mod_le _ _
  rw [← Int.natCast_emod, ← Int.natCast_emod]
  omega
theorem ok_lmatters {f fK : Addr} {fd fdK : FuncData} (F : Fun K "_law_matters" "_law_matters" (stK 19) f fd) (CK : Cal P w K mg base "_law_known" 9 fK fdK ["_law_words", "_law_expr", "_law_slots"] (spKnown K)) (ml : mg "len" = none) (mr : mg "range" = none) :
    FnOk P w K mg base CX0 10 f fd ["_law_words", "_law_expr", "_law_slots"] (spLMatters K) := by
  refine F.ok sc19 (fun vs H Q E h => ?_) (fun cdv A outer s H vs Q E hr h => ?_)
  · obtain ⟨a, b, v, e, ws, S, rfl, _⟩ := h
    rfl
  · obtain ⟨a, b, v, e, ws, S, rfl, hW, hR, hS, su, fe, q⟩ := h
    refine ⟨_, pss_cons (ps_set (i := 3) sc19.nd rfl (.inl rfl) (pe_lst pa_nil))
      (pss_cons (ps_set (i := 4) sc19.nd rfl (.inl rfl) (pe_cal CK hr (pa_cons (pv 0) (pa_cons (pv 1) (pa_cons (pv 2) pa_nil)))))
      (pss_cons (ps_set (i := 5) sc19.nd rfl (.inl rfl) (pe_callB call_len_seq (by rfl) ml PySem.boot_len (pa_cons (pv 4) pa_nil)))
      (pss_cons (ps_for PassesOwn.never rfl (pi_tup (pv 2)) (pg_name (i := 6) sc19.nd rfl (.inl rfl))
        (pss_cons (ps_set (i := 7) sc19.nd rfl (.inl rfl) (pe_op op_fdiv (pv 5) (pe_callB call_len_seq (by rfl) ml PySem.boot_len (pa_cons (pv 0) pa_nil))))
        (pss_cons (ps_set (i := 8) sc19.nd rfl (.inl rfl) pe_bl)
        (pss_cons (ps_for PassesOwn.never rfl (pi_range1 rfl mr (pa_cons (pe_callB call_len_seq (by rfl) ml PySem.boot_len (pa_cons (pv 4) pa_nil)) pa_nil)) (pg_name (i := 9) sc19.nd rfl (.inl rfl))
          (pss_one (ps_if (pt_cmpR op_ne (pe_ix ix_list (pv 4) (pv 9) (fun _ _ => rfl)) (pe_ix ix_list (pv 4) (pe_op op_add (pe_op op_sub (pv 9) (pe_op op_mod (pv 9) (pv 5))) (pe_op op_mod (pv 9) (pv 7))) (fun _ _ => rfl)) (nomark _))
            (pss_one (ps_set (i := 8) sc19.nd rfl (.inl rfl) pe_bl)) pss_nil)))
        (C8.pss_cut (ps_if (pt_truth (pv 8) (by intro _; rfl)) (pss_one (ps_expr (pe_bm PySem.F.plainAttrs_list PySem.F.slot_list_append PySem.F.type_list_append mt_append (pv 3) (pa_cons (pv 6) pa_nil)))) pss_nil)
        (pss_one (ps_set (i := 5) sc19.nd rfl (.inl rfl) (pv 7))))))))
      (pss_one (ps_ret (pv 3)))))), ?_⟩
    obtain ⟨w0, hw0⟩ := su.first
    have ls := fe.len su
    have b0 : 0 < ws.length := by have := su.lo; omega
    refine ⟨Nat.zero_le _, fun L nL => ?_⟩
    have sL : Same H (upd H L (.lst [])) := same_new nL
    refine ⟨_, rfl, _, rfl, _, rfl, a, b, v, e, ws, S, reads e, rfl, hW.same sL, hR.same sL, same_sqt sL hS, su, fe, ls, fun t ht => mem_reads.mpr ht, fun R H1 us s1 eR hu => ?_⟩
    have sH1 := sL.trans s1
    have eL1 := s1 _ _ (upd_same (H := H) (a := L) (o := .lst []))
    have nRL : R ≠ L ∨ us = [] := by
      by_cases z : R = L
      · rw [z, eL1] at eR
        have := HO.lst.inj (Option.some.inj eR)
        exact .inr (by cases us with | nil => rfl | cons x r => cases this)
      · exact .inl z
    have hul : us.length = ws.length ^ (reads e).length := by
      have := congrArg List.length hu
      rwa [List.length_map, List.length_map, allRows_length] at this
    have hN : ws.length ^ (reads e).length ≤ 2187 := pow_small (slots := reads e) su.hi ls
    have nRL' : R ≠ L := by
      rcases nRL with z | z
      · exact z
      · exfalso
        rw [z] at hul
        have : 0 < ws.length ^ (reads e).length := Nat.pow_pos b0
        simp at hul
        omega
    refine ⟨_, rfl, R, _, rfl, .inl (SqL.of eR), ?_⟩
    refine ⟨_, rfl, b, rfl, ⟨_, same_sqt sH1 hS⟩, for_tup (xs := (reads e).map V.str) (fun i σ H2 => ∃ y6 y7 y8 y9, σ = [some (.ref a), some v, some (.ref b), some (.ref L), some (.ref R), some (.int ((ws.length ^ ((reads e).length - i) : Nat) : Int)), y6, y7, y8, y9] ∧
        H2 = upd H1 L (.lst ((keepIx (fun i _ => unlikeAt ws e (reads e) i) ((reads e).take i)).map V.str)))
      ⟨none, none, none, none, ?_, ?_⟩ (fun i σ H2 _ z => ?_) (fun i x σ H2 hx z => ?_) (fun σ H2 z => ?_)⟩
    · rw [List.length_map, hul, Nat.sub_zero]; rfl
    · funext c
      by_cases z : c = L
      · rw [z, upd_same]; exact eL1
      · rw [upd_ne z]
    · obtain ⟨_, _, _, _, _, rfl⟩ := z
      have hb : But L H1 (upd H1 L (.lst ((keepIx (fun i _ => unlikeAt ws e (reads e) i) ((reads e).take i)).map V.str))) := but_upd
      exact sqt_but eL1 hb (same_sqt sH1 hS)
    · obtain ⟨y6, y7, y8, y9, rfl, rfl⟩ := z
      rw [List.getElem?_map] at hx
      obtain ⟨sl, hsl, rfl⟩ := Option.map_eq_some_iff.mp hx
      have hi : i < (reads e).length := (List.getElem?_eq_some_iff.mp hsl).1
      have hb : But L H1 (upd H1 L (.lst ((keepIx (fun i _ => unlikeAt ws e (reads e) i) ((reads e).take i)).map V.str))) := but_upd
      have eR2 := hb _ _ nRL' eR
      have eL2 : (upd H1 L (.lst ((keepIx (fun i _ => unlikeAt ws e (reads e) i) ((reads e).take i)).map V.str))) L = some (.lst ((keepIx (fun i _ => unlikeAt ws e (reads e) i) ((reads e).take i)).map V.str)) := upd_same
      have hkl := keepIx_len (fun i _ => unlikeAt ws e (reads e) i) ((reads e).take i)
      rw [List.length_take] at hkl
      have hW2 := ((hW.same sH1).but eL1 hb).sqt (K := K)
      have eblk : ((ws.length ^ ((reads e).length - i) : Nat) : Int) / (((ws.map V.str).length : Nat) : Int) = ((ws.length ^ ((reads e).length - (i + 1)) : Nat) : Int) := by
        rw [List.length_map, ← Int.natCast_ediv, pow_div b0 hi]
      have hs0 : 0 < ws.length ^ ((reads e).length - i) := Nat.pow_pos b0
      have hb0 : 0 < ws.length ^ ((reads e).length - (i + 1)) := Nat.pow_pos b0
      refine ⟨_, rfl, _, rfl, a, _, rfl, .inr hW2, _, _, rfl, rfl, ⟨by rw [List.length_map]; omega, by rw [List.length_map]; have := su.hi; omega⟩, ?_⟩
      refine ⟨_, rfl, R, _, rfl, .inl (SqL.of eR2), _, rfl, by omega, by rw [List.length_map]; omega, ?_⟩
      refine for_range (lo := 0) (n := (((us.map V.str).length : Nat) : Int).toNat) (fun k σ H3 => ∃ (y9 : Option V) (bl : Int) (fl : Bool), σ = [some (.ref a), some v, some (.ref b), some (.ref L), some (.ref R), some (.int ((ws.length ^ ((reads e).length - i) : Nat) : Int)), some (.str sl), some (.int bl),
          some (.bl fl), y9] ∧ bl = ((ws.length ^ ((reads e).length - (i + 1)) : Nat) : Int) ∧ fl = (List.range k).any (unl ws e (reads e) i) ∧ H3 = upd H1 L (.lst ((keepIx (fun i _ => unlikeAt ws e (reads e) i) ((reads e).take i)).map V.str)))
        ⟨y9, _, _, rfl, eblk, rfl, rfl⟩ (fun k σ H3 hk z => ?_) (fun σ H3 z => ?_)
      · obtain ⟨y9, bl, fl, rfl, rfl, efl, rfl⟩ := z
        have hk' : k < us.length := by
          rw [List.length_map] at hk
          omega
        have hkr : k < (allRows ws (reads e)).length := by rw [allRows_length]; omega
        have hg : (allRows ws (reads e))[k]? = some (allRows ws (reads e))[k] := List.getElem?_eq_getElem hkr
        have hz := row_zero hw0 hsl hg
        have hzl : zero (ws.length ^ ((reads e).length - i)) (ws.length ^ ((reads e).length - (i + 1))) k < us.length := by
          have := (List.getElem?_eq_some_iff.mp hz).1
          rw [allRows_length] at this
          omega
        have g1 : (us.map V.str)[k]? = some (.str us[k]) := by rw [List.getElem?_map, List.getElem?_eq_getElem hk']; rfl
        have g2 : (us.map V.str)[zero (ws.length ^ ((reads e).length - i)) (ws.length ^ ((reads e).length - (i + 1))) k]? = some (.str us[zero (ws.length ^ ((reads e).length - i)) (ws.length ^ ((reads e).length - (i + 1))) k]) := by rw [List.getElem?_map, List.getElem?_eq_getElem hzl]; rfl
        have c1 : ((allRows ws (reads e)).map (val ws · e))[k]? = some (some us[k]) := by rw [← hu, List.getElem?_map, List.getElem?_eq_getElem hk']; rfl
        have c2 : ((allRows ws (reads e)).map (val ws · e))[zero (ws.length ^ ((reads e).length - i)) (ws.length ^ ((reads e).length - (i + 1))) k]? = some (some us[zero (ws.length ^ ((reads e).length - i)) (ws.length ^ ((reads e).length - (i + 1))) k]) := by rw [← hu, List.getElem?_map, List.getElem?_eq_getElem hzl]; rfl
        have eu : unl ws e (reads e) i k = decide (some (some us[k]) ≠ some (some us[zero (ws.length ^ ((reads e).length - i)) (ws.length ^ ((reads e).length - (i + 1))) k])) := by
          unfold unl
          rw [c1, c2]
        have ek : (0 : Int) + (k : Nat) = ((k : Nat) : Int) := by omega
        have ez : (0 : Int) + (k : Nat) - ((0 : Int) + (k : Nat)) % ((ws.length ^ ((reads e).length - i) : Nat) : Int) + ((0 : Int) + (k : Nat)) % ((ws.length ^ ((reads e).length - (i + 1)) : Nat) : Int) = ((zero (ws.length ^ ((reads e).length - i)) (ws.length ^ ((reads e).length - (i + 1))) k : Nat) : Int) := by
          rw [ek]; exact zero_int
        refine ⟨_, rfl, _, rfl, R, _, _, _, rfl, rfl, SqL.of eR2, at_of ek g1, ?_⟩
        refine ⟨_, rfl, _, rfl, _, rfl, _, rfl, _, _, rfl, rfl, by omega, _, _, rfl, rfl, _, rfl, _, rfl, _, _, rfl, rfl, by omega, _, _, rfl, rfl, R, _, _, _, rfl, rfl, SqL.of eR2, at_of ez g2, rfl, _, rfl, ?_⟩
        by_cases hne : us[k] = us[zero (ws.length ^ ((reads e).length - i)) (ws.length ^ ((reads e).length - (i + 1))) k]
        · rw [decide_eq_true (congrArg V.str hne)]
          refine iteF ⟨_, _, _, rfl, rfl, ?_, rfl⟩
          rw [any_snoc, ← efl, eu, hne]
          simp
        · rw [decide_eq_false (fun z => hne (V.str.inj z))]
          refine iteT ⟨_, _, _, rfl, rfl, ?_, rfl⟩
          have hd : unl ws e (reads e) i k = true := by rw [eu]; exact decide_eq_true fun z => hne (Option.some.inj (Option.some.inj z))
          rw [any_snoc, hd, Bool.or_true]
      · obtain ⟨y9, bl, fl, rfl, rfl, efl, rfl⟩ := z
        have eN : (((us.map V.str).length : Nat) : Int).toNat = (allRows ws (reads e)).length := by
          rw [List.length_map, allRows_length, hul]; rfl
        rw [eN, unl_any] at efl
        have hk := keepIx_take (fun i _ => unlikeAt ws e (reads e) i) hsl
        refine ⟨fun σ H' => σ = [some (.ref a), some v, some (.ref b), some (.ref L), some (.ref R), some (.int ((ws.length ^ ((reads e).length - i) : Nat) : Int)), some (.str sl), some (.int ((ws.length ^ ((reads e).length - (i + 1)) : Nat) : Int)), some (.bl fl), y9] ∧
          H' = upd H1 L (.lst ((keepIx (fun i _ => unlikeAt ws e (reads e) i) ((reads e).take (i + 1))).map V.str)), ?_, fun σ H' z => ?_⟩
        · refine ⟨_, rfl, fl, rfl, ?_⟩
          cases fl with
          | true =>
            rw [← efl, if_pos rfl] at hk
            refine iteT ⟨_, rfl, .inl ⟨rfl, _, SqL.of eL2⟩, _, rfl, L, _, _, rfl, rfl, eL2, ?_, rfl, ?_⟩
            · rw [List.length_map]; exact sl_less (by omega)
            · rw [upd_upd, hk, List.map_append]; rfl
          | false =>
            rw [← efl, if_neg (by decide)] at hk
            refine iteF ⟨rfl, ?_⟩
            rw [hk]
        · obtain ⟨rfl, rfl⟩ := z
          exact ⟨_, rfl, _, _, _, _, rfl, rfl⟩
    · obtain ⟨y6, y7, y8, y9, rfl, rfl⟩ := z
      refine ⟨_, rfl, q L _ (fun b' o eb => ?_) ?_⟩
      · rw [upd_ne (ne_of_none eb nL)]; exact sH1 _ _ eb
      · rw [upd_same, List.length_map, List.take_length, law_matters hw0]
end
end Ka

namespace Ka
open L2 PySem PySem.Spec PyProof.Rows
theorem Rep.parts {K : PySem.W.Frag} {H : Hp} {v : V} {x : Ex Str} (s u : Str) (h : Rep K H v x) : (∃ p y, v = .ref p ∧ x = .word y ∧ SqT K H p [.str "word", .str y]) ∨ (∃ p y, v = .ref p ∧ x = .slot y ∧ SqT K H p [.str "slot", .str y]) ∨
    ∃ (p : Addr) (tag : Str) (sec : V) (ks : List V), v = .ref p ∧ SqT K H p (.str tag :: sec :: ks) ∧ tag ≠ "slot" ∧ tag ≠ "word" ∧ Paired (Rep K H) ks (kids x) ∧ (∀ y ∈ kids x, depth y < depth x) ∧ 0 < depth x ∧
      ∀ H' q us, Same H H' → SqT K H' q (.str tag :: sec :: us) → Paired (Rep K H') us ((kids x).map (filled s u)) → Rep K H' (.ref q) (filled s u x) := by
  cases h with
  | word h => exact .inl ⟨_, _, rfl, rfl, h⟩
  | slot h => exact .inr (.inl ⟨_, _, rfl, rfl, h⟩)
  | map h hr he =>
    refine .inr (.inr ⟨_, _, _, _, rfl, h, by decide, by decide, .cons he .nil, fun y hy => ?_, Nat.succ_pos _, fun H' q us sm ht hp => ?_⟩)
    · rename_i e'
      have e : y = e' := by simpa [kids] using hy
      rw [e]; exact Nat.lt_succ_self _
    · cases hp with
      | cons h1 h2 => cases h2; exact .map ht (same_sqt sm hr) h1
  | pair h ht hrs he hf =>
    refine .inr (.inr ⟨_, _, _, _, rfl, h, by decide, by decide, .cons he (.cons hf .nil), fun y hy => ?_, Nat.succ_pos _, fun H' q us sm hq hp => ?_⟩)
    · rename_i e' f'
      have e : y = e' ∨ y = f' := by simpa [kids] using hy
      show depth y < max (depth e') (depth f') + 1
      rcases e with rfl | rfl
      · omega
      · omega
    · cases hp with
      | cons h1 h2 =>
        cases h2 with
        | cons h2 h3 => cases h3; exact .pair hq (same_sqt sm ht) (rows_same sm hrs) h1 h2
section
variable {mg : Str → Option Value} {base : Heap} {P : Program} {w : World} {K : PySem.W.Frag}

/-! ### _law_filled -/
abbrev n20 : List Str := ["_law_expr", "_law_slot", "_law_word", "_law_part"]
theorem sc20 : FnScope n20 ["_law_expr", "_law_slot", "_law_word"] (defScope (stK 20)) := ⟨rfl, rfl, rfl, by decide +kernel, rfl, by decide +kernel, by decide +kernel⟩
def spFilled (K : PySem.W.Frag) (d : Nat) : Sp := fun vs H Q _ => ∃ (v : V) (s u : Str) (e : Ex Str), vs = [v, .str s, .str u] ∧ Rep K H v e ∧ depth e ≤ d ∧ ∀ z H', Same H H' → Rep K H' z (filled s u e) → Q z H'
theorem ok_filled {f : Addr} {fd : FuncData} (F : Fun K "_law_filled" "_law_filled" (stK 20) f fd) (b : Binds K fd ["_law_expr", "_law_slot", "_law_word"] []) (g : mg "_law_filled" = some (.ref f)) (mt : mg "tuple" = none) :
    ∀ d : Nat, FnOk P w K mg base CX0 (d + 1) f fd ["_law_expr", "_law_slot", "_law_word"] (spFilled K d) := by
  have ne1 : decide (V.str "word" = V.str "slot") = false := by decide
  intro d
  induction d with
  | zero =>
    refine F.ok sc20 (fun vs H Q E h => ?_) (fun cdv A outer s H vs Q E hr h => ?_)
    · obtain ⟨v, s, u, e, rfl, _⟩ := h
      rfl
    · obtain ⟨v, sl, u, e, rfl, hR, hd, q⟩ := h
      refine ⟨_, pss_cons (ps_if (pt_cmpR op_eq (pe_ix ix_tup (pv 0) pe_int (fun _ _ => rfl)) pe_str (nomark _)) (pss_one (ps_ret (pe_ifExp (pt_cmpR op_eq (pe_ix ix_tup (pv 0) pe_int (fun _ _ => rfl)) (pv 1) (nomark _)) (pe_tup (pa_cons pe_str (pa_cons (pv 2) pa_nil))) (pv 0)))) pss_nil)
        (pss_cons (ps_if (pt_cmpR op_eq (pe_ix ix_tup (pv 0) pe_int (fun _ _ => rfl)) pe_str (nomark _)) (pss_one (ps_ret (pv 0))) pss_nil) pss_never), ?_⟩
      rcases hR.parts sl u with ⟨p, y, rfl, rfl, hp⟩ | ⟨p, y, rfl, rfl, hp⟩ | ⟨p, tag, sec, ks, rfl, _, _, _, _, _, h0, _⟩
      · refine ⟨_, rfl, p, _, _, _, rfl, rfl, hp, atI_nat (j := 0) rfl, rfl, _, rfl, ?_⟩
        rw [ne1]
        refine iteF ⟨_, rfl, p, _, _, _, rfl, rfl, hp, atI_nat (j := 0) rfl, rfl, _, rfl, iteT ?_⟩
        exact ⟨_, rfl, q _ H (Same.refl H) hR⟩
      · refine ⟨_, rfl, p, _, _, _, rfl, rfl, hp, atI_nat (j := 0) rfl, rfl, _, rfl, iteT ?_⟩
        refine ⟨_, rfl, p, _, _, _, rfl, rfl, hp, atI_nat (j := 1) rfl, _, rfl, rfl, _, rfl, ite2 (fun e => ?_) (fun e => ?_)⟩
        · have en : y = sl := V.str.inj (of_decide_eq_true e)
          refine ⟨_, rfl, sl_small (by show 2 ≤ 10000000; decide), fun T nT => ?_⟩
          refine q _ _ (same_new nT) ?_
          unfold filled
          rw [if_pos en]
          exact .word sqt_new
        · have en : y ≠ sl := fun z => e (by rw [z]; exact decide_eq_true rfl)
          refine ⟨_, rfl, q _ H (Same.refl H) ?_⟩
          unfold filled
          rw [if_neg en]
          exact hR
      · omega
  | succ d ih =>
    have C : Cal P w K mg base "_law_filled" (d + 1) f fd ["_law_expr", "_law_slot", "_law_word"] (spFilled K d) := ⟨ih, F.kp, b, g⟩
    refine F.ok sc20 (fun vs H Q E h => ?_) (fun cdv A outer s H vs Q E hr h => ?_)
    · obtain ⟨v, s, u, e, rfl, _⟩ := h
      rfl
    · obtain ⟨v, sl, u, e, rfl, hR, hd, q⟩ := h
      refine ⟨_, pss_cons (ps_if (pt_cmpR op_eq (pe_ix ix_tup (pv 0) pe_int (fun _ _ => rfl)) pe_str (nomark _)) (pss_one (ps_ret (pe_ifExp (pt_cmpR op_eq (pe_ix ix_tup (pv 0) pe_int (fun _ _ => rfl)) (pv 1) (nomark _)) (pe_tup (pa_cons pe_str (pa_cons (pv 2) pa_nil))) (pv 0)))) pss_nil)
        (pss_cons (ps_if (pt_cmpR op_eq (pe_ix ix_tup (pv 0) pe_int (fun _ _ => rfl)) pe_str (nomark _)) (pss_one (ps_ret (pv 0))) pss_nil)
        (pss_one (ps_ret (pe_op op_catS (pe_slice sl_tupS (pv 0) po_none (po_some pe_int)) (pe_callTy call_tuple_of (by rfl) mt (by decide +kernel) (pa_cons (pe_lc (own := [("_law_part", 3)]) (g := gName 3) (tt := tYes)
          (te := tCall (spFilled K d) [] E0 (tCons (tVar 3) (tCons (tVar 1) (tCons (tVar 2) tNil)))) rfl sc20.nd (pi_tup (pe_slice sl_tupS (pv 0) (po_some pe_int) po_none)) (blkOk_by (N := n20) (sc := defScope (stK 20)) (by decide +kernel))
          (fun _ _ _ _ _ => pg_name (i := 3) sc20.nd rfl (.inl rfl)) (fun _ _ _ _ _ => pts_nil) (fun _ _ _ _ _ => pe_cal C hr (pa_cons (pv 3) (pa_cons (pv 1) (pa_cons (pv 2) pa_nil))))) pa_nil)))))), ?_⟩
      rcases hR.parts sl u with ⟨p, y, rfl, rfl, hp⟩ | ⟨p, y, rfl, rfl, hp⟩ | ⟨p, tag, sec, ks, rfl, hp, ht1, ht2, hk, hdk, h0, hre⟩
      · refine ⟨_, rfl, p, _, _, _, rfl, rfl, hp, atI_nat (j := 0) rfl, rfl, _, rfl, ?_⟩
        rw [ne1]
        refine iteF ⟨_, rfl, p, _, _, _, rfl, rfl, hp, atI_nat (j := 0) rfl, rfl, _, rfl, iteT ?_⟩
        exact ⟨_, rfl, q _ H (Same.refl H) hR⟩
      · refine ⟨_, rfl, p, _, _, _, rfl, rfl, hp, atI_nat (j := 0) rfl, rfl, _, rfl, iteT ?_⟩
        refine ⟨_, rfl, p, _, _, _, rfl, rfl, hp, atI_nat (j := 1) rfl, _, rfl, rfl, _, rfl, ite2 (fun e => ?_) (fun e => ?_)⟩
        · have en : y = sl := V.str.inj (of_decide_eq_true e)
          refine ⟨_, rfl, sl_small (by show 2 ≤ 10000000; decide), fun T nT => ?_⟩
          refine q _ _ (same_new nT) ?_
          unfold filled
          rw [if_pos en]
          exact .word sqt_new
        · have en : y ≠ sl := fun z => e (by rw [z]; exact decide_eq_true rfl)
          refine ⟨_, rfl, q _ H (Same.refl H) ?_⟩
          unfold filled
          rw [if_neg en]
          exact hR
      · have hd1 : decide (V.str tag = V.str "slot") = false := decide_eq_false fun z => ht1 (V.str.inj z)
        have hd2 : decide (V.str tag = V.str "word") = false := decide_eq_false fun z => ht2 (V.str.inj z)
        refine ⟨_, rfl, p, _, _, _, rfl, rfl, hp, atI_nat (j := 0) rfl, rfl, _, rfl, ?_⟩
        rw [hd1]
        refine iteF ⟨_, rfl, p, _, _, _, rfl, rfl, hp, atI_nat (j := 0) rfl, rfl, _, rfl, ?_⟩
        rw [hd2]
        refine iteF ?_
        refine ⟨_, rfl, 2, rfl, p, _, rfl, hp, fun p1 H1 s1 h1 => ?_⟩
        have e1 : cutV (.str tag :: sec :: ks) none (some 2) = [.str tag, sec] := cut_to _ 2
        rw [e1] at h1
        refine ⟨_, rfl, 2, rfl, p, _, rfl, same_sqt s1 hp, fun p2 H2 s2 h2 => ?_⟩
        have e2 : cutV (.str tag :: sec :: ks) (some 2) none = ks := cut_from _ 2
        rw [e2] at h2
        have s12 := s1.trans s2
        refine ⟨p2, rfl, ⟨_, h2⟩, fun D nD => ?_⟩
        have sD : Same H2 (upd H2 D (.lst [])) := same_new nD
        have hkl := hk.length
        have hk2 := kids_two e
        refine lc_tup (xs := ks) (vs := [3]) (fun i H3 => ∃ us, Same H2 H3 ∧ H3 D = some (.lst us) ∧ Paired (Rep K H3) us (((kids e).take i).map (filled sl u)))
          ⟨[], sD, upd_same, .nil⟩ (fun i H3 _ z => ?_) (fun i x H3 hx z => ?_) (fun H3 z => ?_)
        · obtain ⟨_, sm, _⟩ := z
          exact same_sqt sm h2
        · obtain ⟨us, sm, eD, hus⟩ := z
          obtain ⟨y, hy, hxy⟩ := pr_getL hk hx
          have hdy := hdk y (List.mem_of_getElem? hy)
          have hul := hus.length
          rw [List.length_map, List.length_take] at hul
          refine ⟨rfl, _, rfl, _, rfl, _, rfl, x, sl, u, y, rfl, hxy.same (s12.trans sm), by omega, fun z H4 s4 hz => ?_⟩
          have eD4 := s4 _ _ eD
          have hb : But D H4 (upd H4 D (.lst (us ++ [z]))) := but_upd
          refine ⟨_, eD4, sl_less (by omega), us ++ [z], fun b' o eb => hb b' o (ne_of_none eb nD) (s4 _ _ (sm _ _ eb)), upd_same, ?_⟩
          have et : (kids e).take (i + 1) = (kids e).take i ++ [y] := by rw [List.take_add_one, hy]; rfl
          rw [et, List.map_append]
          exact pr_app (Paired.mapP hus fun _ _ r => (r.same s4).but eD4 hb) (.cons (hz.but eD4 hb) .nil)
        · obtain ⟨us, sm, eD, hus⟩ := z
          rw [hkl, List.take_length] at hus
          have hul := hus.length
          rw [List.length_map] at hul
          refine ⟨D, us, rfl, .inl ⟨SqL.of eD, fun T nT => ?_⟩⟩
          have sT : Same H3 (upd H3 T (.tup us)) := same_new nT
          refine ⟨p1, T, [.str tag, sec], us, rfl, rfl, same_sqt ((s2.trans sm).trans sT) h1, sqt_new, sl_small (by simp only [List.length_cons, List.length_nil]; omega), fun p4 H5 s5 h5 => ?_⟩
          have sf := sT.trans s5
          exact q _ H5 ((s12.trans sm).trans sf) (hre H5 p4 us ((s12.trans sm).trans sf) h5 (Paired.mapP hus fun _ _ r => r.same sf))

/-! ### _law_turned -/
abbrev n21 : List Str := ["_law_words", "_law_expr", "_law_table", "_law_k", "_law_row"]
theorem sc21 : FnScope n21 ["_law_words", "_law_expr"] (defScope (stK 21)) := ⟨rfl, rfl, rfl, by decide +kernel, rfl, by decide +kernel, by decide +kernel⟩
def spTurned (K : PySem.W.Frag) : Sp := fun vs H Q _ => ∃ (a : Addr) (v : V) (e : Ex Str) (ws S : List Str), vs = [.ref a, v] ∧ Wd H a ws ∧ Rep K H v e ∧ WF ws S e ∧ ws.length ≤ 3 ∧ ∀ z H', Same H H' → Rep K H' z (turned ws e) → Q z H'
theorem ok_turned {f : Addr} {fd : FuncData} (F : Fun K "_law_turned" "_law_turned" (stK 21) f fd) (mt : mg "tuple" = none) (ml : mg "len" = none) (mr : mg "range" = none) : FnOk P w K mg base CX0 1 f fd ["_law_words", "_law_expr"] (spTurned K) := by
  have ne1 : decide (V.str "word" = V.str "pair") = false := by decide
  have ne2 : decide (V.str "slot" = V.str "pair") = false := by decide
  have ne3 : decide (V.str "map" = V.str "pair") = false := by decide
  refine F.ok sc21 (fun vs H Q E h => ?_) (fun cdv A outer s H vs Q E hr h => ?_)
  · obtain ⟨a, v, e, ws, S, rfl, _⟩ := h
    rfl
  · obtain ⟨a, v, e, ws, S, rfl, hW, hR, wf, w3, q⟩ := h
    refine ⟨_, pss_cons (ps_if (pt_cmpR op_ne (pe_ix ix_tup (pv 1) pe_int (fun _ _ => rfl)) pe_str (nomark _)) (pss_one (ps_ret (pv 1))) pss_nil)
      (pss_cons (ps_set (i := 2) sc21.nd rfl (.inl rfl) (pe_lst pa_nil))
      (pss_cons (ps_for PassesOwn.never rfl (pi_range1 rfl mr (pa_cons (pe_callB call_len_seq (by rfl) ml PySem.boot_len (pa_cons (pv 0) pa_nil)) pa_nil)) (pg_name (i := 3) sc21.nd rfl (.inr rfl))
        (pss_one (ps_expr (pe_bm PySem.F.plainAttrs_list PySem.F.slot_list_append PySem.F.type_list_append mt_append (pv 2) (pa_cons (pe_callTy call_tuple_of (by rfl) mt (by decide +kernel) (pa_cons (pe_lc (own := [("_law_row", 4)]) (g := gName 4) (tt := tYes)
          (te := tOp (rIxT K) (tVar 4) (tVar 3)) rfl sc21.nd (pi_tup (pe_ix ix_tup (pv 1) pe_int (fun _ _ => rfl))) (blkOk_by (N := n21) (sc := defScope (stK 21)) (by decide +kernel)) (fun _ _ _ _ _ => pg_name (i := 4) sc21.nd rfl (.inl rfl)) (fun _ _ _ _ _ => pts_nil)
          (fun _ _ _ _ _ => pe_ix ix_tup (pv 4) (pv 3) (fun _ _ => rfl))) pa_nil)) pa_nil)))))
      (pss_one (ps_ret (pe_tup (pa_cons pe_str (pa_cons (pe_callTy call_tuple_of (by rfl) mt (by decide +kernel) (pa_cons (pv 2) pa_nil)) (pa_cons (pe_ix ix_tup (pv 1) pe_int (fun _ _ => rfl)) (pa_cons (pe_ix ix_tup (pv 1) pe_int (fun _ _ => rfl)) pa_nil))))))))), ?_⟩
    have hR0 := hR
    cases hR with
    | @word p u hp =>
      refine ⟨_, rfl, p, _, _, _, rfl, rfl, hp, atI_nat (j := 0) rfl, rfl, _, rfl, ?_⟩
      rw [ne1]
      exact iteT ⟨_, rfl, q _ H (Same.refl H) hR0⟩
    | @slot p u hp =>
      refine ⟨_, rfl, p, _, _, _, rfl, rfl, hp, atI_nat (j := 0) rfl, rfl, _, rfl, ?_⟩
      rw [ne2]
      exact iteT ⟨_, rfl, q _ H (Same.refl H) hR0⟩
    | @map p r row v e' hp hrow he =>
      refine ⟨_, rfl, p, _, _, _, rfl, rfl, hp, atI_nat (j := 0) rfl, rfl, _, rfl, ?_⟩
      rw [ne3]
      exact iteT ⟨_, rfl, q _ H (Same.refl H) hR0⟩
    | @pair p t rs tab v u e' f' hp ht hrs he hf =>
      refine ⟨_, rfl, p, _, _, _, rfl, rfl, hp, atI_nat (j := 0) rfl, rfl, _, rfl, iteF ?_⟩
      refine ⟨Nat.zero_le _, fun T nT => ?_⟩
      have sT : Same H (upd H T (.lst [])) := same_new nT
      have htl := wf.1.1
      have hrl := hrs.length
      refine ⟨_, rfl, a, _, rfl, .inr (hW.same sT).sqt, _, rfl, by omega, by rw [List.length_map]; omega, for_range (lo := 0) (n := (((ws.map V.str).length : Nat) : Int).toNat) (fun k σ H2 => ∃ (y3 : Option V) (qs : List Addr), σ = [some (.ref a), some (.ref p), some (.ref T), y3, none] ∧ Same H H2 ∧ H2 T = some (.lst (qs.map V.ref)) ∧
          Rows K H2 qs ((List.range k).map fun k => tab.filterMap fun row => row[k]?))
        ⟨none, [], rfl, sT, upd_same, .nil⟩ (fun k σ H2 hk z => ?_) (fun σ H2 z => ?_)⟩
      · obtain ⟨y3, qs, rfl, sm, eT, hq⟩ := z
        have hk' : k < ws.length := by
          rw [List.length_map] at hk
          omega
        have hql := hq.length
        rw [List.length_map, List.length_range] at hql
        refine ⟨_, rfl, .inl ⟨rfl, _, SqL.of eT⟩, ?_⟩
        refine ⟨_, rfl, p, _, _, _, rfl, rfl, same_sqt sm hp, atI_nat (j := 1) rfl, t, rfl, ⟨_, same_sqt sm ht⟩, fun D nD => ?_⟩
        have sD : Same H2 (upd H2 D (.lst [])) := same_new nD
        refine lc_tup (xs := rs.map V.ref) (vs := [4]) (fun i H3 => ∃ us : List Str, Same H2 H3 ∧ H3 D = some (.lst (us.map V.str)) ∧ us.length ≤ i ∧ us = (tab.take i).filterMap fun row => row[k]?)
          ⟨[], sD, upd_same, Nat.le_refl _, by simp⟩ (fun i H3 _ z => ?_) (fun i x H3 hx z => ?_) (fun H3 z => ?_)
        · obtain ⟨_, sm3, _⟩ := z
          exact same_sqt (sm.trans sm3) ht
        · obtain ⟨us, sm3, eD, hul, hus⟩ := z
          rw [List.getElem?_map] at hx
          obtain ⟨r, hr', rfl⟩ := Option.map_eq_some_iff.mp hx
          obtain ⟨row, hrow, hro⟩ := pr_getL hrs hr'
          have hi : i < tab.length := (List.getElem?_eq_some_iff.mp hrow).1
          obtain ⟨c, hc, _⟩ := (wf.1.2 row (List.mem_of_getElem? hrow)).at hk'
          have hc' : (row.map V.str)[k]? = some (.str c) := by rw [List.getElem?_map, hc]; rfl
          refine ⟨rfl, _, rfl, _, rfl, r, _, _, _, rfl, rfl, same_sqt (sm.trans sm3) hro, at_of (show (0 : Int) + (k : Nat) = ((k : Nat) : Int) by omega) hc', ?_⟩
          refine ⟨_, eD, by rw [List.length_map]; exact sl_less (by omega), us ++ [c], fun b' o eb => ?_, by rw [upd_same, List.map_append]; rfl, by rw [List.length_append, List.length_singleton]; omega, ?_⟩
          · rw [upd_ne (ne_of_none eb nD)]; exact sm3 _ _ eb
          · have et : tab.take (i + 1) = tab.take i ++ [row] := by rw [List.take_add_one, hrow]; rfl
            rw [et, List.filterMap_append, ← hus, List.filterMap_cons_some (f := fun row : List Str => row[k]?) (b := c) hc]
            rfl
        · obtain ⟨us, sm3, eD, _, hus⟩ := z
          rw [List.length_map, hrl, List.take_length] at hus
          refine ⟨D, _, rfl, .inl ⟨SqL.of eD, fun R nR => ?_⟩⟩
          have sR : Same H3 (upd H3 R (.tup (us.map V.str))) := same_new nR
          have eT3 := sR _ _ (sm3 _ _ eT)
          have hb : But T (upd H3 R (.tup (us.map V.str))) (upd (upd H3 R (.tup (us.map V.str))) T (.lst (qs.map V.ref ++ [.ref R]))) := but_upd
          refine ⟨T, _, _, rfl, rfl, eT3, by rw [List.length_map]; exact sl_less (by omega), _, qs ++ [R], rfl, fun b' o eb => ?_, by rw [upd_same, List.map_append]; rfl, ?_⟩
          · exact hb b' o (ne_of_none eb nT) (sR _ _ (sm3 _ _ (sm _ _ eb)))
          · rw [List.range_succ, List.map_append]
            refine pr_app (rows_but eT3 hb (rows_same sR (rows_same sm3 hq))) (.cons ?_ .nil)
            show SqT K _ R ((tab.filterMap fun row => row[k]?).map V.str)
            rw [← hus]
            exact sqt_but eT3 hb sqt_new
      · obtain ⟨y3, qs, rfl, sm, eT, hq⟩ := z
        have en : (((ws.map V.str).length : Nat) : Int).toNat = ws.length := by rw [List.length_map]; rfl
        rw [en] at hq
        refine ⟨_, rfl, T, _, rfl, .inl ⟨SqL.of eT, fun U nU => ?_⟩⟩
        have sU : Same H2 (upd H2 U (.tup (qs.map V.ref))) := same_new nU
        have sm2 := sm.trans sU
        refine ⟨_, rfl, p, _, _, _, rfl, rfl, same_sqt sm2 hp, atI_nat (j := 3) rfl, _, rfl, p, _, _, _, rfl, rfl, same_sqt sm2 hp, atI_nat (j := 2) rfl, sl_small (by show 4 ≤ 10000000; decide), fun X nX => ?_⟩
        have sX : Same (upd H2 U (.tup (qs.map V.ref))) (upd (upd H2 U (.tup (qs.map V.ref))) X (.tup [.str "pair", .ref U, u, v])) := same_new nX
        refine q _ _ (sm2.trans sX) ?_
        exact .pair sqt_new (same_sqt sX sqt_new) (rows_same (sU.trans sX) hq) (hf.same (sm2.trans sX)) (he.same (sm2.trans sX))
end
end Ka

namespace Ka
open L2 PySem PySem.Spec PyProof.Rows
section
variable {mg : Str → Option Value} {base : Heap} {P : Program} {w : World} {K : PySem.W.Frag}

/-! ### _law_undone -/
abbrev n22 : List Str := ["_law_pool_here", "_law_words", "_law_expr", "_law_order", "_law_word", "_law_at", "_law_back"]
theorem sc22 : FnScope n22 ["_law_pool_here", "_law_words", "_law_expr"] (defScope (stK 22)) := ⟨rfl, rfl, rfl, by decide +kernel, rfl, by decide +kernel, by decide +kernel⟩
def spUndone (K : PySem.W.Frag) : Sp := fun vs H Q _ => ∃ (p a : Addr) (v : V) (e : Ex Str) (ws : List Str), vs = [.ref p, .ref a, v] ∧ Pool H p ∧ Wd H a ws ∧ Rep K H v e ∧ ws.length ≤ 3 ∧
  ∀ z H' ord, List.Perm ord ws → Step p H H' → Pool H' p → Rep K H' z (.map (back ws ord) (.map ord e)) → Q z H'
theorem back_at {ws ord : List Str} (hp : ord.Perm ws) {i : Nat} {x : Str} (h : ws[i]? = some x) : ∃ y, ws[idx ord x]? = some y ∧ (back ws ord)[i]? = some y := by
  have h1 : idx ord x < ws.length := by rw [← hp.length_eq]; exact idx_lt (hp.mem_iff.mpr (List.mem_of_getElem? h))
  refine ⟨ws[idx ord x], List.getElem?_eq_getElem h1, ?_⟩
  unfold back
  rw [List.getElem?_map, h]
  show some ((ws[idx ord x]?).getD x) = _
  rw [List.getElem?_eq_getElem h1]
  rfl
theorem back_len (ws ord : List Str) : (back ws ord).length = ws.length := by simp [back]
theorem ok_undone {f fD : Addr} {fd fdD : FuncData} (F : Fun K "_law_undone" "_law_undone" (stK 22) f fd) (CD : Cal P w K mg base "_law_draw" 1 fD fdD ["_law_pool_here", "_law_many"] spDraw) (mt : mg "tuple" = none) (ml : mg "len" = none) :
    FnOk P w K mg base CX0 2 f fd ["_law_pool_here", "_law_words", "_law_expr"] (spUndone K) := by
  refine F.ok sc22 (fun vs H Q E h => ?_) (fun cdv A outer s H vs Q E hr h => ?_)
  · obtain ⟨p, a, v, e, ws, rfl, _⟩ := h
    rfl
  · obtain ⟨p, a, v, e, ws, rfl, hpool, hW, hR, w3, q⟩ := h
    refine ⟨_, pss_cons (ps_set (i := 3) sc22.nd rfl (.inr rfl) (pe_lst pa_nil))
      (pss_cons (ps_for PassesOwn.never rfl (pi_tup (pv 1)) (pg_name (i := 4) sc22.nd rfl (.inl rfl))
        (pss_cons (ps_set (i := 5) sc22.nd rfl (.inl rfl) (pe_cal CD hr (pa_cons (pv 0) (pa_cons (pe_op op_add (pe_callB call_len_seq (by rfl) ml PySem.boot_len (pa_cons (pv 3) pa_nil)) pe_int) pa_nil))))
        (pss_one (ps_set (i := 3) sc22.nd rfl (.inr rfl) (pe_op op_cat (pe_op op_cat (pe_slice sl_list (pv 3) po_none (po_some (pv 5))) (pe_lst (pa_cons (pv 4) pa_nil))) (pe_slice sl_list (pv 3) (po_some (pv 5)) po_none))))))
      (pss_cons (ps_set (i := 6) sc22.nd rfl (.inl rfl) (pe_callTy call_tuple_of (by rfl) mt (by decide +kernel) (pa_cons (pe_lc (own := [("_law_word", 4)]) (g := gName 4) (tt := tYes)
        (te := tOp (rIxT K) (tVar 1) (tBM K "list" (rIndex K) (tVar 3) (tCons (tVar 4) tNil))) rfl sc22.nd (pi_tup (pv 1)) (blkOk_by (N := n22) (sc := defScope (stK 22)) (by decide +kernel)) (fun _ _ _ _ _ => pg_name (i := 4) sc22.nd rfl (.inl rfl)) (fun _ _ _ _ _ => pts_nil)
        (fun _ _ _ _ _ => pe_ix ix_tup (pv 1) (pe_bm PySem.F.plainAttrs_list PySem.F.slot_list_index PySem.F.type_list_index mt_index (pv 3) (pa_cons (pv 4) pa_nil)) (fun _ _ => rfl))) pa_nil)))
      (pss_one (ps_ret (pe_tup (pa_cons pe_str (pa_cons (pv 6) (pa_cons (pe_tup (pa_cons pe_str (pa_cons (pe_callTy call_tuple_of (by rfl) mt (by decide +kernel) (pa_cons (pv 3) pa_nil)) (pa_cons (pv 2) pa_nil)))) pa_nil)))))))), ?_⟩
    obtain ⟨ys, hys⟩ := hpool.lst
    refine ⟨Nat.zero_le _, fun o nw => ?_⟩
    have s1 : Same H (upd H o (.lst [])) := same_new nw
    have nop : o ≠ p := (ne_of_none hys nw).symm
    refine ⟨_, rfl, a, rfl, ⟨_, (hW.same s1).sqt⟩, for_tup (xs := ws.map V.str) (fun i σ H2 => ∃ (o : Addr) (y4 y5 : Option V) (ord : List Str), σ = [some (.ref p), some (.ref a), some v, some (.ref o), y4, y5, none] ∧ o ≠ p ∧ H2 o = some (.lst (ord.map V.str)) ∧ List.Perm ord (ws.take i) ∧ Step p H H2 ∧ Pool H2 p)
      ⟨o, none, none, [], rfl, nop, upd_same, List.Perm.refl _, Step.of hys s1, hpool.same s1⟩ (fun i σ H2 _ z => ?_) (fun i x σ H2 hx z => ?_) (fun σ H2 z => ?_)⟩
    · obtain ⟨_, _, _, _, _, _, _, _, st, _⟩ := z
      exact sqt_but hys st.but hW.sqt
    · obtain ⟨o, y4, y5, ord, rfl, nop, eo, hperm, st, P2⟩ := z
      rw [List.getElem?_map] at hx
      obtain ⟨x, hxw, rfl⟩ := Option.map_eq_some_iff.mp hx
      have hi : i < ws.length := (List.getElem?_eq_some_iff.mp hxw).1
      have hol := hperm.length_eq
      rw [List.length_take] at hol
      refine ⟨_, rfl, _, rfl, o, _, rfl, .inl (SqL.of eo), _, 1, rfl, rfl, p, (ord.map V.str).length + 1, rfl, P2, Nat.succ_pos _, by rw [List.length_map]; omega, fun r H3 hr3 st3 P3 => ?_⟩
      have eo3 := st3.but _ _ nop eo
      obtain ⟨ys3, hys3⟩ := P3.lst
      -- order[:at] + [word] + order[at:]
      refine ⟨_, rfl, _, rfl, _, rfl, o, _, rfl, SqL.of eo3, fun c1 n1 => ?_⟩
      rw [cut_to]
      have t1 : Same H3 (upd H3 c1 (.lst ((ord.map V.str).take r))) := same_new n1
      refine ⟨_, rfl, sl_small (by show 1 ≤ 10000000; decide), fun c2 n2 => ?_⟩
      have t2 : Same (upd H3 c1 (.lst ((ord.map V.str).take r))) (upd (upd H3 c1 (.lst ((ord.map V.str).take r))) c2 (.lst [.str x])) := same_new n2
      refine ⟨c1, c2, _, _, rfl, rfl, t2 _ _ upd_same, upd_same, ?_, fun c3 n3 => ?_⟩
      · rw [List.length_take, List.length_map]; exact sl_small (by simp only [List.length_singleton]; omega)
      have t3 := (t1.trans t2).trans (same_new (o := .lst ((ord.map V.str).take r ++ [.str x])) n3)
      refine ⟨_, rfl, _, rfl, _, rfl, o, _, rfl, SqL.of (t3 _ _ eo3), fun c4 n4 => ?_⟩
      rw [cut_from]
      have t4 := t3.trans (same_new (o := .lst ((ord.map V.str).drop r)) n4)
      have hc3 := same_new (o := .lst ((ord.map V.str).drop r)) n4 _ _ (upd_same (H := upd (upd H3 c1 (.lst ((ord.map V.str).take r))) c2 (.lst [.str x])) (a := c3) (o := .lst ((ord.map V.str).take r ++ [.str x])))
      refine ⟨c3, c4, _, _, rfl, rfl, hc3, upd_same, ?_, fun c5 n5 => ?_⟩
      · simp only [List.length_append, List.length_take, List.length_drop, List.length_map, List.length_singleton]; exact sl_small (by omega)
      have t5 := t4.trans (same_new (o := .lst ((ord.map V.str).take r ++ [.str x] ++ (ord.map V.str).drop r)) n5)
      have n5p : c5 ≠ p := fun z => by rw [z, t4 _ _ hys3] at n5; cases n5
      refine ⟨c5, _, _, ord.take r ++ [x] ++ ord.drop r, rfl, n5p, ?_, ?_, (st.trans st3).trans (Step.of hys3 t5), P3.same t5⟩
      · rw [upd_same, List.map_append, List.map_append, List.map_take, List.map_drop]; rfl
      · have et : ws.take (i + 1) = ws.take i ++ [x] := by rw [List.take_add_one, hxw]; rfl
        rw [et]
        exact insert_perm r x hperm
    · obtain ⟨o, y4, y5, ord, rfl, nop, eo, hperm, st, P2⟩ := z
      rw [List.length_map, List.take_length] at hperm
      have hW2 := hW.but hys st.but
      have hR2 := hR.but hys st.but
      obtain ⟨ys2, hys2⟩ := P2.lst
      have hol := hperm.length_eq
      refine ⟨_, rfl, a, rfl, ⟨_, hW2.sqt⟩, fun D nD => ?_⟩
      have sD : Same H2 (upd H2 D (.lst [])) := same_new nD
      refine lc_tup (xs := ws.map V.str) (vs := [4]) (fun i H3 => Same H2 H3 ∧ H3 D = some (.lst (((back ws ord).take i).map V.str)))
        ⟨sD, upd_same⟩ (fun i H3 _ z => same_sqt z.1 hW2.sqt) (fun i x H3 hx z => ?_) (fun H3 z => ?_)
      · obtain ⟨sm, eD⟩ := z
        rw [List.getElem?_map] at hx
        obtain ⟨x, hxw, rfl⟩ := Option.map_eq_some_iff.mp hx
        have hi : i < ws.length := (List.getElem?_eq_some_iff.mp hxw).1
        have hmo : x ∈ ord := hperm.mem_iff.mpr (List.mem_of_getElem? hxw)
        obtain ⟨y, hy1, hy2⟩ := back_at hperm hxw
        have hj : (ord.map V.str)[idx ord x]? = some (.str x) := by rw [List.getElem?_map, idx_at hmo]; rfl
        have hy' : (ws.map V.str)[idx ord x]? = some (.str y) := by rw [List.getElem?_map, hy1]; rfl
        refine ⟨rfl, _, rfl, _, rfl, .inl ⟨rfl, _, SqL.of (sm _ _ eo)⟩, _, rfl, o, _, _, idx ord x, _, rfl, rfl, SqL.of (sm _ _ eo), rfl, flat_strs ord, hj, by show (x == x) = true; simp, fun m z' hm hz => ?_, ?_⟩
        · rw [List.getElem?_map] at hz
          obtain ⟨x', hx', rfl⟩ := Option.map_eq_some_iff.mp hz
          have hne : x' ≠ x := fun e => idx_before hm (by rw [hx', e])
          show (x' == x) = false
          simp [hne]
        · refine ⟨a, _, _, _, rfl, rfl, (hW2.same sm).sqt, atI_nat hy', ?_⟩
          have et : (back ws ord).take (i + 1) = (back ws ord).take i ++ [y] := by rw [List.take_add_one, hy2]; rfl
          refine ⟨_, eD, ?_, fun b' ob eb => ?_, by rw [upd_same, et, List.map_append]; rfl⟩
          · rw [List.length_map, List.length_take, back_len]; exact sl_less (by omega)
          · rw [upd_ne (ne_of_none eb nD)]; exact sm _ _ eb
      · obtain ⟨sm, eD⟩ := z
        rw [List.length_map, ← back_len ws ord, List.take_length] at eD
        refine ⟨D, _, rfl, .inl ⟨SqL.of eD, fun B nB => ?_⟩⟩
        have sB : Same H3 (upd H3 B (.tup ((back ws ord).map V.str))) := same_new nB
        have t1 := sm.trans sB
        -- the answer
        refine ⟨_, rfl, _, rfl, o, _, rfl, .inl ⟨SqL.of (t1 _ _ eo), fun U nU => ?_⟩⟩
        have sU : Same (upd H3 B (.tup ((back ws ord).map V.str))) (upd (upd H3 B (.tup ((back ws ord).map V.str))) U (.tup (ord.map V.str))) := same_new nU
        refine ⟨_, rfl, sl_small (by show 3 ≤ 10000000; decide), fun M nM => ?_⟩
        have sM := same_new (o := .tup [.str "map", .ref U, v]) nM
        refine ⟨sl_small (by show 3 ≤ 10000000; decide), fun N nN => ?_⟩
        have sN := same_new (o := .tup [.str "map", .ref B, .ref M]) nN
        have tf := ((t1.trans sU).trans sM).trans sN
        refine q _ _ ord hperm (st.trans (Step.of hys2 tf)) (P2.same tf) ?_
        exact .map sqt_new (same_sqt ((sU.trans sM).trans sN) sqt_new) (.map (same_sqt sN sqt_new) (same_sqt (sM.trans sN) sqt_new) (hR2.same tf))

/-! ### _law_first -/
abbrev n23 : List Str := ["_law_words", "_law_expr", "_law_other", "_law_slots", "_law_row", "_law_slot"]
theorem sc23 : FnScope n23 ["_law_words", "_law_expr", "_law_other"] (defScope (stK 23)) := ⟨rfl, rfl, rfl, by decide +kernel, rfl, by decide +kernel, by decide +kernel⟩
theorem ok_first {f fR fA fV : Addr} {fd fdR fdA fdV : FuncData} (F : Fun K "_law_first" "_law_first" (stK 23) f fd) (CR : Cal P w K mg base "reads" 1 fR fdR ["expr"] (spReads K)) (CA : Cal P w K mg base "_law_all" 1 fA fdA ["_law_words", "_law_slots"] (spLAll K true))
    (CV : Cal P w K mg base "value" 8 fV fdV ["words", "expr", "given"] (spValue K 6)) (ml : mg "list" = none) : FnOk P w K mg base CX0 9 f fd ["_law_words", "_law_expr", "_law_other"] (spUnlike K) := by
  refine F.ok sc23 (fun vs H Q E h => ?_) (fun cdv A outer s H vs Q E hr h => ?_)
  · obtain ⟨a, v, u, e, o, ws, S, rfl, _⟩ := h
    rfl
  · obtain ⟨a, v, u, e, o, ws, S, rfl, hW, hR, hR2, su, fe, fo, q⟩ := h
    refine ⟨_, pss_cons (ps_set (i := 3) sc23.nd rfl (.inr rfl) (pe_callTy call_list_of (by rfl) ml (by decide +kernel) (pa_cons (pe_cal CR (hr.mono (by decide)) (pa_cons (pv 1) pa_nil)) pa_nil)))
      (pss_cons (ps_set (i := 3) sc23.nd rfl (.inr rfl) (pe_op op_cat (pv 3) (pe_lc (own := [("_law_slot", 5)]) (g := gName 5) (tt := tTest (tOp (rIn K true) (tVar 5) (tVar 3))) (te := tVar 5) rfl sc23.nd
        (pi_tup (pe_cal CR (hr.mono (by decide)) (pa_cons (pv 2) pa_nil))) (blkOk_by (N := n23) (sc := defScope (stK 23)) (by decide +kernel)) (fun _ _ _ _ _ => pg_name (i := 5) sc23.nd rfl (.inl rfl))
        (fun _ _ _ _ _ => pts_one (pt_cmpR op_notIn_seq (pv 5) (pv 3) (by rfl))) (fun _ _ _ _ _ => pv 5))))
      (pss_cons (ps_for PassesOwn.never rfl (pi_list (pe_cal CA (hr.mono (by decide)) (pa_cons (pv 0) (pa_cons (pv 3) pa_nil)))) (pg_name (i := 4) sc23.nd rfl (.inl rfl))
        (pss_one (ps_if (pt_cmpR op_ne (pe_cal CV hr (pa_cons (pv 0) (pa_cons (pv 1) (pa_cons (pv 4) pa_nil)))) (pe_cal CV hr (pa_cons (pv 0) (pa_cons (pv 2) (pa_cons (pv 4) pa_nil)))) (nomark _)) (pss_one (ps_ret (pv 4))) pss_nil)))
      (pss_one (ps_ret pe_non)))), ?_⟩
    refine ⟨_, rfl, v, e, rfl, hR, size_small fe.dp, fun b H0 s0 hb => ?_⟩
    refine ⟨b, _, rfl, .inr hb, fun c0 n0 => ?_⟩
    have s1 : Same H (upd H0 c0 (.lst ((reads e).map V.str))) := s0.trans (same_new n0)
    have hc0 : (upd H0 c0 (.lst ((reads e).map V.str))) c0 = some (.lst ((reads e).map V.str)) := upd_same
    have ls := fe.len su
    have lo := fo.len su
    -- the further ones
    refine ⟨_, rfl, _, rfl, u, o, rfl, hR2.same s1, size_small fo.dp, fun c H2 s2 hc => ?_⟩
    refine ⟨c, rfl, ⟨_, hc⟩, fun D nD => ?_⟩
    have sD : Same H2 (upd H2 D (.lst [])) := same_new nD
    refine lc_tup (xs := (reads o).map V.str) (vs := [5]) (fun i H3 => Same H2 H3 ∧ H3 D = some (.lst ((((reads o).take i).filter fun s => decide (s ∉ reads e)).map V.str)))
      ⟨sD, upd_same⟩ (fun i H3 _ z => same_sqt z.1 hc) (fun i x H3 hx z => ?_) (fun H3 z => ?_)
    · obtain ⟨sm, eD⟩ := z
      rw [List.getElem?_map] at hx
      obtain ⟨sl, hsl, rfl⟩ := Option.map_eq_some_iff.mp hx
      have hi : i < (reads o).length := (List.getElem?_eq_some_iff.mp hsl).1
      have hk := filter_take (fun s => decide (s ∉ reads e)) hsl
      refine ⟨rfl, _, rfl, _, rfl, c0, _, rfl, .inl (SqL.of ((s2.trans sm) _ _ hc0)), rfl, flat_strs _, _, rfl, ?_⟩
      rw [inV_str]
      by_cases hin : sl ∈ reads e
      · rw [decide_eq_true hin]
        rw [if_neg (by simp [hin])] at hk
        refine iteF ⟨sm, ?_⟩
        rw [hk]; exact eD
      · rw [decide_eq_false hin]
        rw [if_pos (by simp [hin])] at hk
        refine iteT ⟨_, rfl, _, eD, ?_, fun b' ob eb => ?_, ?_⟩
        · have h1 := List.length_filter_le (fun s => decide (s ∉ reads e)) ((reads o).take i)
          rw [List.length_take] at h1
          rw [List.length_map]; exact sl_less (by omega)
        · rw [upd_ne (ne_of_none eb nD)]; exact sm _ _ eb
        · rw [upd_same, hk, List.map_append]; rfl
    · obtain ⟨sm, eD⟩ := z
      rw [List.length_map, List.take_length] at eD
      have hfl := List.length_filter_le (fun s => decide (s ∉ reads e)) (reads o)
      have s3 := s1.trans (s2.trans sm)
      refine ⟨c0, D, _, _, rfl, rfl, (s2.trans sm) _ _ hc0, eD, by rw [List.length_map, List.length_map]; exact sl_small (by omega), fun p np => ?_⟩
      rw [← List.map_append]
      have s4 := same_new (o := .lst ((reads e ++ (reads o).filter fun s => decide (s ∉ reads e)).map V.str)) np
      have sH4 := s3.trans s4
      -- for row in _law_all(words, slots)
      refine ⟨_, rfl, _, rfl, a, p, ws, allSlots e o, rfl, (hW.same sH4).sqt, SqL.of upd_same, su.hi, all_len su fe fo, fun l H5 rs s6 nl el hP => ?_⟩
      have sH5 := sH4.trans s6
      refine ⟨l, rfl, ⟨_, SqL.of el⟩, for_list (xs := rs.map V.ref) (fun n σ H' => ∃ y4, σ = [some (.ref a), some v, some u, some (.ref p), y4, none] ∧ Same H5 H' ∧
          ∀ g, g ∈ (allRows ws (allSlots e o)).take n → val ws g e = val ws g o)
        ⟨none, rfl, Same.refl _, fun g hg => by simp at hg⟩ (fun n σ H' _ z => ?_) (fun n x σ H' hx z => ?_) (fun σ H' z => ?_)⟩
      · obtain ⟨_, _, sm, _⟩ := z
        exact sm.seq (SqL.of el)
      · obtain ⟨y4, rfl, sm, hall⟩ := z
        rw [List.getElem?_map] at hx
        obtain ⟨r, hr', rfl⟩ := Option.map_eq_some_iff.mp hx
        obtain ⟨g, hg, hGv⟩ := pr_getL hP hr'
        have hgm : g ∈ allRows ws (allSlots e o) := List.mem_of_getElem? hg
        have hcv := cov_of_row hgm
        have sH : Same H H' := sH5.trans sm
        refine ⟨_, rfl, _, rfl, _, rfl, a, r, v, e, ws, S, g, rfl, hW.same sH, hR.same sH, hGv.same sm, fe.wf, hcv.sub (fun t ht => mem_allSlots.mpr (.inl ht)), fe.dp, fun x hx hxm => ?_⟩
        refine ⟨_, rfl, _, rfl, _, rfl, a, r, u, o, ws, S, g, rfl, hW.same sH, hR2.same sH, hGv.same sm, fo.wf, hcv.sub (fun t ht => mem_allSlots.mpr (.inr ht)), fo.dp, fun y hy hym => ?_⟩
        refine ⟨rfl, _, rfl, ?_⟩
        by_cases hxy : x = y
        · subst hxy
          rw [decide_eq_true rfl]
          refine iteF ⟨_, rfl, sm, fun g' hg' => ?_⟩
          have eg : (allRows ws (allSlots e o)).take (n + 1) = (allRows ws (allSlots e o)).take n ++ [g] := by rw [List.take_add_one, hg]; rfl
          rw [eg] at hg'
          rcases List.mem_append.mp hg' with z | z
          · exact hall g' z
          · have et : g' = g := by simpa using z
            rw [et, hx, hy]
        · rw [decide_eq_false (fun z => hxy (V.str.inj z))]
          refine iteT ⟨_, rfl, q _ H' sH ?_⟩
          have hf : firstUnlike ws e o = some g := find_at (i := n) (fun g' hg' => by simp [hall g' hg']) hg (by rw [hx, hy]; exact decide_eq_true fun z => hxy (Option.some.inj z))
          rw [hf]
          exact ⟨r, rfl, hGv.same sm⟩
      · obtain ⟨y4, rfl, sm, hall⟩ := z
        rw [List.length_map, hP.length, List.take_length] at hall
        refine q _ H' (sH5.trans sm) ?_
        have hf : firstUnlike ws e o = none := List.find?_eq_none.mpr fun g hg => by simp [hall g hg]
        rw [hf]
        exact rfl
end
end Ka

namespace Ka
open L2 PySem PySem.Spec PyProof.Rows
theorem Pool.ne_strs {H : Hp} {p l : Addr} {xs : List Str} (h : Pool H p) (e : H l = some (.lst (xs.map V.str))) : l ≠ p := fun z => by
  obtain ⟨g, s, gs, ss, cur, cnt, h1, _⟩ := h
  rw [z, h1] at e
  have q := HO.lst.inj (Option.some.inj e)
  cases xs with
  | nil => cases q
  | cons x r =>
    rw [List.map_cons] at q
    injection q with q1 _
    cases q1
theorem sameD_strs {K : PySem.W.Frag} {H : Hp} {n : Nat} : ∀ xs : List Str, Paired (SameD K H (n + 1)) (xs.map V.str) (xs.map V.str)
  | [] => .nil
  | x :: r => .cons (.inl ⟨rfl, .inr (.inr ⟨x, rfl⟩)⟩) (sameD_strs r)
theorem flat_zero {K : PySem.W.Frag} {H : Hp} (x : Str) : SameD K H 0 (.str x) (.str x) := ⟨rfl, .inr (.inr ⟨x, rfl⟩)⟩
theorem sameD_gv {K : PySem.W.Frag} {H : Hp} : ∀ {ps qs : List Addr} {g : List (Str × Str)}, Paired (fun p (x : Str × Str) => SqT K H p [.str x.1, .str x.2]) ps g → Paired (fun p (x : Str × Str) => SqT K H p [.str x.1, .str x.2]) qs g →
    Paired (SameD K H 1) (ps.map V.ref) (qs.map V.ref)
  | _, _, _, .nil, .nil => .nil
  | _, _, _, .cons h t, .cons h' t' => .cons (.inr ⟨_, _, _, _, rfl, rfl, h, h', by show 2 ≤ 1000; decide, .cons (flat_zero _) (.cons (flat_zero _) .nil)⟩) (sameD_gv t t')
theorem Res.sameD {K : PySem.W.Frag} {H : Hp} {a b : V} {r : Option (List (Str × Str))} (hn : ∀ g, r = some g → g.length ≤ 1000) (ha : Res K H a r) (hb : Res K H b r) : SameD K H 2 a b := by
  cases r with
  | none =>
    have ea : a = .non := ha
    have eb : b = .non := hb
    rw [ea, eb]
    exact .inl ⟨rfl, .inl rfl⟩
  | some g =>
    obtain ⟨p, rfl, ps, h1, h2⟩ := ha
    obtain ⟨q, rfl, qs, h3, h4⟩ := hb
    refine .inr ⟨p, q, _, _, rfl, rfl, h1, h3, ?_, sameD_gv h2 h4⟩
    rw [List.length_map, h2.length]
    exact hn g rfl
theorem Res.isN {K : PySem.W.Frag} {H : Hp} {a : V} {r : Option (List (Str × Str))} (h : Res K H a r) : decide (a = V.non) = r.isNone := by
  cases r with
  | none =>
    have e : a = .non := h
    rw [e]; rfl
  | some g =>
    obtain ⟨p, rfl, _⟩ := h
    rfl
theorem Res.same {K : PySem.W.Frag} {H H' : Hp} {a : V} {r : Option (List (Str × Str))} (e : Same H H') (h : Res K H a r) : Res K H' a r := by
  cases r with
  | none => exact h
  | some g =>
    obtain ⟨p, h1, h2⟩ := h
    exact ⟨p, h1, h2.same e⟩
theorem unlike_len {ws S : List Str} {e o : Ex Str} (su : Setup ws S) (fe : Fine ws S e) (fo : Fine ws S o) : ∀ g, firstUnlike ws e o = some g → g.length ≤ 1000 := fun g hg => by
  have hm := List.mem_of_find?_eq_some hg
  rw [row_len hm]
  have := all_len su fe fo
  omega
section
variable {mg : Str → Option Value} {base : Heap} {P : Program} {w : World} {K : PySem.W.Frag}

/-! ### law -/
abbrev n24 : List Str := ["_law_script", "_law_pool_here", "_law_way", "_law_words", "_law_slots", "_law_expr", "_law_known_here", "_law_some", "_law_other", "_law_alike", "_law_slot", "_law_due"]
theorem sc24 : FnScope n24 ["_law_script"] (defScope (stK 24)) := ⟨rfl, rfl, rfl, by decide +kernel, rfl, by decide +kernel, by decide +kernel⟩
def spLaw (K : PySem.W.Frag) : Sp := fun vs H Q _ => ∃ (sc : Addr) (xs : List Int), vs = [.ref sc] ∧ SqL K H sc (xs.map V.int) ∧ xs.length ≤ 63 ∧ ∀ H', Q (.bl true) H'
theorem ok_law {f f1 f2 f3 f4 f5 f6 f7 f8 f9 f10 f11 f12 f13 f14 : Addr} {fd fd1 fd2 fd3 fd4 fd5 fd6 fd7 fd8 fd9 fd10 fd11 fd12 fd13 fd14 : FuncData} (F : Fun K "law" "law" (stK 24) f fd)
    (cPool : Cal P w K mg base "_law_pool" 1 f1 fd1 ["_law_script"] (spPool K)) (cDraw : Cal P w K mg base "_law_draw" 1 f2 fd2 ["_law_pool_here", "_law_many"] spDraw) (cNames : Cal P w K mg base "_law_names" 3 f3 fd3 ["_law_pool_here", "_law_count"] (spNames K))
    (cTree : Cal P w K mg base "_law_tree" 7 f4 fd4 ["_law_pool_here", "_law_words", "_law_slots", "_law_deep", "_law_room"] (spTree K 3)) (cReads : Cal P w K mg base "reads" 1 f5 fd5 ["expr"] (spReads K))
    (cLM : Cal P w K mg base "_law_matters" 10 f6 fd6 ["_law_words", "_law_expr", "_law_slots"] (spLMatters K)) (cSame : Cal P w K mg base "_law_same" 3 f7 fd7 ["_law_a", "_law_b"] (spSame K 2)) (cMatters : Cal P w K mg base "matters" 10 f8 fd8 ["words", "expr"] (spMatters K))
    (cFilled : Cal P w K mg base "_law_filled" 7 f9 fd9 ["_law_expr", "_law_slot", "_law_word"] (spFilled K 6)) (cPick : Cal P w K mg base "_law_pick" 2 f10 fd10 ["_law_pool_here", "_law_items"] (spPick K))
    (cUndone : Cal P w K mg base "_law_undone" 2 f11 fd11 ["_law_pool_here", "_law_words", "_law_expr"] (spUndone K)) (cTurned : Cal P w K mg base "_law_turned" 1 f12 fd12 ["_law_words", "_law_expr"] (spTurned K))
    (cFirst : Cal P w K mg base "_law_first" 9 f13 fd13 ["_law_words", "_law_expr", "_law_other"] (spUnlike K)) (cUnlike : Cal P w K mg base "first_unlike" 9 f14 fd14 ["words", "expr", "other"] (spUnlike K))
    (mt : mg "tuple" = none) (mi : mg "int" = none) (ml : mg "len" = none) : FnOk P w K mg base CX0 11 f fd ["_law_script"] (spLaw K) := by
  refine F.ok sc24 (fun vs H Q E h => ?_) (fun cdv A outer s H vs Q E hr h => ?_)
  · obtain ⟨a, ns, rfl, _⟩ := h
    rfl
  · obtain ⟨a0, ns, rfl, hS, hlen, q⟩ := h
    refine ⟨_, pss_cons (ps_set (i := 1) sc24.nd rfl (.inl rfl) (pe_cal cPool (hr.mono (by decide)) (pa_cons (pv 0) pa_nil)))
      (pss_cons (ps_set (i := 2) sc24.nd rfl (.inl rfl) (pe_cal cDraw (hr.mono (by decide)) (pa_cons (pv 1) (pa_cons pe_int pa_nil))))
      (pss_cons (ps_set (i := 3) sc24.nd rfl (.inl rfl) (pe_callTy call_words (by rfl) mt (by decide +kernel) (pa_cons (pe_cal cNames (hr.mono (by decide)) (pa_cons (pv 1) (pa_cons (pe_op op_add pe_int (pe_cal cDraw (hr.mono (by decide)) (pa_cons (pv 1) (pa_cons pe_int pa_nil)))) pa_nil))) pa_nil)))
      (pss_cons (ps_set (i := 4) sc24.nd rfl (.inl rfl) (pe_cal cNames (hr.mono (by decide)) (pa_cons (pv 1) (pa_cons (pe_op op_add pe_int (pe_cal cDraw (hr.mono (by decide)) (pa_cons (pv 1) (pa_cons (pe_op op_add pe_int (pe_op op_mul pe_int
        (pe_callTy call_int1 (by rfl) mi (by decide +kernel) (pa_cons (pe_cmpR op_eq (pe_callB call_len_seq (by rfl) ml PySem.boot_len (pa_cons (pv 3) pa_nil)) pe_int (nomark _)) pa_nil)))) pa_nil)))) pa_nil))))
      (pss_cons (ps_set (i := 5) sc24.nd rfl (.inl rfl) (pe_cal cTree (hr.mono (by decide)) (pa_cons (pv 1) (pa_cons (pv 3) (pa_cons (pv 4) (pa_cons (pe_cal cDraw (hr.mono (by decide)) (pa_cons (pv 1) (pa_cons pe_int pa_nil))) (pa_cons pe_int pa_nil)))))))
      (pss_cons (ps_set (i := 6) sc24.nd rfl (.inl rfl) (pe_cal cReads (hr.mono (by decide)) (pa_cons (pv 5) pa_nil)))
      (pss_cons (ps_set (i := 7) sc24.nd rfl (.inl rfl) (pe_cal cLM hr (pa_cons (pv 3) (pa_cons (pv 5) (pa_cons (pv 6) pa_nil)))))
      (pss_cons (ps_if (pt_not (pt_val (pe_cal cSame (hr.mono (by decide)) (pa_cons (pe_cal cMatters hr (pa_cons (pv 3) (pa_cons (pv 5) pa_nil))) (pa_cons (pe_callTy call_tuple_of (by rfl) mt (by decide +kernel) (pa_cons (pv 7) pa_nil)) pa_nil))))) pss_never pss_nil)
      (pss_cons (ps_set (i := 8) sc24.nd rfl (.inl rfl) (pe_cal cTree (hr.mono (by decide)) (pa_cons (pv 1) (pa_cons (pv 3) (pa_cons (pv 4) (pa_cons (pe_cal cDraw (hr.mono (by decide)) (pa_cons (pv 1) (pa_cons pe_int pa_nil))) (pa_cons pe_int pa_nil)))))))
      (pss_cons (ps_set (i := 9) sc24.nd rfl (.inl rfl) (pe_cmpR op_gt (pv 2) pe_int (nomark _)))
      (C8.pss_cut (ps_if (pt_cmpR op_eq (pv 2) pe_int (nomark _))
          (pss_cons (ps_set (i := 8) sc24.nd rfl (.inl rfl) (pv 5))
          (pss_one (ps_for PassesOwn.never rfl (pi_tup (pv 6)) (pg_name (i := 10) sc24.nd rfl (.inl rfl))
            (pss_one (ps_if (pt_cmpR op_notIn_seq (pv 10) (pv 7) (by rfl))
              (pss_one (ps_set (i := 8) sc24.nd rfl (.inl rfl) (pe_cal cFilled (hr.mono (by decide)) (pa_cons (pv 8) (pa_cons (pv 10) (pa_cons (pe_cal cPick (hr.mono (by decide)) (pa_cons (pv 1) (pa_cons (pv 3) pa_nil))) pa_nil)))))) pss_nil)))))
          (pss_one (ps_if (pt_cmpR op_eq (pv 2) pe_int (nomark _)) (pss_one (ps_set (i := 8) sc24.nd rfl (.inl rfl) (pe_cal cUndone (hr.mono (by decide)) (pa_cons (pv 1) (pa_cons (pv 3) (pa_cons (pv 5) pa_nil))))))
            (pss_one (ps_if (pt_cmpR op_eq (pv 2) pe_int (nomark _)) (pss_one (ps_set (i := 8) sc24.nd rfl (.inl rfl) (pe_cal cTurned (hr.mono (by decide)) (pa_cons (pv 3) (pa_cons (pv 5) pa_nil))))) pss_nil)))))
      (pss_cons (ps_set (i := 11) sc24.nd rfl (.inl rfl) (pe_cal cFirst (hr.mono (by decide)) (pa_cons (pv 3) (pa_cons (pv 5) (pa_cons (pv 8) pa_nil)))))
      (pss_cons (ps_if (pt_join (PW.pt (pw_and (pt_truth (pv 9) (by intro _; rfl)) (pw_and1 (pt_cmpR op_notN (pv 11) pe_non (nomark _)))))) pss_never pss_nil)
      (pss_cons (ps_if (PW.pt (pw_or (pt_not (pt_val (pe_cal cSame (hr.mono (by decide)) (pa_cons (pe_cal cUnlike (hr.mono (by decide)) (pa_cons (pv 3) (pa_cons (pv 5) (pa_cons (pv 8) pa_nil)))) (pa_cons (pv 11) pa_nil)))))
          (pw_or1 (pt_cmpR op_notN (pe_cal cUnlike (hr.mono (by decide)) (pa_cons (pv 3) (pa_cons (pv 5) (pa_cons (pv 5) pa_nil)))) pe_non (nomark _))))) pss_never pss_nil)
      (pss_one (ps_ret (pe_cal cSame (hr.mono (by decide)) (pa_cons (pe_cmpR op_isN (pe_cal cUnlike (hr.mono (by decide)) (pa_cons (pv 3) (pa_cons (pv 8) (pa_cons (pv 5) pa_nil)))) pe_non (nomark _)) (pa_cons (pe_cmpR op_isN (pv 11) pe_non (nomark _)) pa_nil)))))))))))))))))), ?_⟩
    -- the pool, the way
    refine ⟨_, rfl, a0, ns, rfl, hS, hlen, fun p H1 _ P1 => ?_⟩
    refine ⟨_, rfl, p, 5, rfl, P1, by decide, by decide, fun way H2 _ _ P2 => ?_⟩
    -- the words
    refine ⟨_, rfl, _, rfl, p, 2, rfl, P2, by decide, by decide, fun r2 H3 hr2 _ P3 => ⟨_, _, rfl, rfl, p, 2 + r2, rfl, P3, by omega, fun l H4 ws hwl hgood _ P4 nlp el => ?_⟩⟩
    refine ⟨l, ws, rfl, SqL.of el, fun a H5 s5 hW => ?_⟩
    have P5 := P4.same s5
    clear el
    -- the slots
    have hm : ∃ m : Nat, (4 : Int) + 3 * (if decide (V.int (((ws.map V.str).length : Nat) : Int) = V.int 2) = true then 1 else 0) = (m : Nat) ∧ 0 < m ∧ m ≤ 7 := by
      by_cases e : V.int (((ws.map V.str).length : Nat) : Int) = V.int 2
      · rw [decide_eq_true e]; exact ⟨7, rfl, by decide, by decide⟩
      · rw [decide_eq_false e]; exact ⟨4, rfl, by decide, by decide⟩
    obtain ⟨m, em, m0, m7⟩ := hm
    refine ⟨_, rfl, _, rfl, _, rfl, a, _, rfl, .inr hW.sqt, rfl, .inr ⟨_, rfl, 3, _, rfl, rfl, .inl ⟨by decide, by decide⟩, 4, _, rfl, rfl, p, m, congrArg (fun z => [V.ref p, V.int z]) em, P5, m0, by omega, fun r3 H6 hr3 st6 P6 => ?_⟩⟩
    refine ⟨_, _, rfl, rfl, p, 1 + r3, rfl, P6, by omega, fun b H7 S hSl _ st7 P7 nbp eb => ?_⟩
    obtain ⟨y5, hy5⟩ := P5.lst
    have st57 := st6.trans st7
    have hW7 := hW.but hy5 st57.but
    have su : Setup ws S := ⟨by omega, by omega, by omega⟩
    -- the expression
    refine ⟨_, rfl, _, rfl, _, rfl, _, rfl, p, 4, rfl, P7, by decide, by decide, fun r4 H8 hr4 st8 P8 => ?_⟩
    obtain ⟨y7, hy7⟩ := P7.lst
    refine ⟨p, a, b, ws, S, (r4 : Nat), 10, rfl, P8, hW7.but hy7 st8.but, st8.but _ _ nbp eb, nbp, by omega, by omega, by omega, by omega, by omega, by omega, fun v H9 e wf hde st9 P9 hR => ?_⟩
    have st79 := st8.trans st9
    have hW9 := hW7.but hy7 st79.but
    have eb9 := st79.but _ _ nbp eb
    have fe : Fine ws S e := ⟨wf, by omega⟩
    -- its reads, what the law finds
    refine ⟨_, rfl, v, e, rfl, hR, size_small fe.dp, fun c H10 s10 hc => ?_⟩
    refine ⟨_, rfl, _, rfl, _, rfl, a, c, v, e, ws, S, rfl, hW9.same s10, hR.same s10, hc, su, fe, fun k H11 s11 ek => ?_⟩
    have s911 := s10.trans s11
    -- matters
    refine ⟨_, rfl, _, rfl, a, v, e, ws, S, rfl, hW9.same s911, hR.same s911, su, fe, fun t H12 s12 ht => ?_⟩
    refine ⟨_, rfl, k, _, rfl, .inl ⟨SqL.of (s12 _ _ ek), fun t2 nt2 => ?_⟩⟩
    have s13 : Same H12 (upd H12 t2 (.tup ((mattersL ws e).map V.str))) := same_new nt2
    have hml : (mattersL ws e).length ≤ 7 := Nat.le_trans (keepIx_len _ _) (fe.len su)
    refine ⟨.ref t, .ref t2, rfl, .inr ⟨t, t2, _, _, rfl, rfl, same_sqt s13 ht, sqt_new, by rw [List.length_map]; omega, sameD_strs _⟩, fun H14 s14 => ⟨_, rfl, iteF ?_⟩⟩
    have s914 := ((s911.trans s12).trans s13).trans s14
    have P14 := P9.same s914
    have ek14 := s14 _ _ (s13 _ _ (s12 _ _ ek))
    have hc14 := same_sqt (((s11.trans s12).trans s13).trans s14) hc
    have hW14 := hW9.same s914
    have hR14 := hR.same s914
    have eb14 := s914 _ _ eb9
    obtain ⟨y14, hy14⟩ := P14.lst
    -- the other one, drawn
    refine ⟨_, rfl, _, rfl, _, rfl, _, rfl, p, 4, rfl, P14, by decide, by decide, fun r5 H15 hr5 st15 P15 => ?_⟩
    refine ⟨p, a, b, ws, S, (r5 : Nat), 10, rfl, P15, hW14.but hy14 st15.but, st15.but _ _ nbp eb14, nbp, by omega, by omega, by omega, by omega, by omega, by omega, fun v2 H16 o wf2 hdo st16 P16 hR2 => ?_⟩
    have st1416 := st15.trans st16
    have hW16 := hW14.but hy14 st1416.but
    have hR16 := hR14.but hy14 st1416.but
    have hc16 := sqt_but hy14 st1416.but hc14
    have nkp := P14.ne_strs ek14
    have ek16 := st1416.but _ _ nkp ek14
    obtain ⟨y16, hy16⟩ := P16.lst
    refine ⟨_, rfl, _, 1, rfl, rfl, ?_⟩
    -- the way's own other one
    refine ⟨fun σ H' => ∃ (vo : V) (o : Ex Str) (y10 : Option V), σ = [some (.ref a0), some (.ref p), some (.int (way : Nat)), some (.ref a), some (.ref b), some v, some (.ref c), some (.ref k), some vo, some (.bl (decide ((1 : Int) < (way : Nat)))), y10, none] ∧
        Fine ws S o ∧ Rep K H' vo o ∧ Step p H16 H' ∧ (1 < way → Alike ws e o), ?_, fun σ H' z => ?_⟩
    · refine ⟨_, rfl, rfl, _, rfl, ite2 (fun _ => ?_) (fun h2 => ?_)⟩
      · -- filled
        refine ⟨_, rfl, _, rfl, c, rfl, ⟨_, hc16⟩, for_tup (xs := (reads e).map V.str) (fun i σ H' => ∃ (vo : V) (o : Ex Str) (y10 : Option V), σ = [some (.ref a0), some (.ref p), some (.int (way : Nat)), some (.ref a), some (.ref b), some v, some (.ref c), some (.ref k), some vo, some (.bl (decide ((1 : Int) < (way : Nat)))), y10, none] ∧
            Filled ws S e o ∧ depth o ≤ 6 ∧ Rep K H' vo o ∧ Step p H16 H' ∧ Pool H' p)
          ⟨v, e, none, rfl, .start wf, fe.dp, hR16, Step.refl p H16, P16⟩ (fun i σ H' _ z => ?_) (fun i x σ H' hx z => ?_) (fun σ H' z => ?_)⟩
        · obtain ⟨_, _, _, _, _, _, _, st, _⟩ := z
          exact sqt_but hy16 st.but hc16
        · obtain ⟨vo, o', y10, rfl, hF, hd, hRo, st, P'⟩ := z
          have hxm := List.mem_of_getElem? hx
          obtain ⟨x, hxr, rfl⟩ := List.mem_map.mp hxm
          have ek' := st.but _ _ nkp ek16
          obtain ⟨y', hy'⟩ := P'.lst
          refine ⟨_, rfl, _, rfl, k, _, rfl, .inl (SqL.of ek'), rfl, flat_strs _, _, rfl, ?_⟩
          rw [if_pos rfl, inV_str]
          by_cases hin : x ∈ mattersL ws e
          · rw [decide_eq_true hin]
            exact iteF ⟨vo, o', _, rfl, hF, hd, hRo, st, P'⟩
          · rw [decide_eq_false hin]
            refine iteT ⟨_, rfl, _, rfl, _, rfl, _, rfl, p, a, ws, rfl, P', hW14.ne hy14, .inr (hW16.but hy16 st.but).sqt, by omega, by omega, fun u H'' hu st'' P'' => ?_⟩
            have hRo2 := hRo.but hy' st''.but
            refine ⟨vo, x, u, o', rfl, hRo2, hd, fun z H3' s3 hz => ?_⟩
            obtain ⟨y'', hy''⟩ := P''.lst
            exact ⟨z, filled x u o', _, rfl, hF.step hxr hin hu, by rw [depth_filled]; exact hd, hz, (st.trans st'').trans (Step.of hy'' s3), P''.same s3⟩
        · obtain ⟨vo, o', y10, rfl, hF, hd, hRo, st, P'⟩ := z
          exact ⟨vo, o', y10, rfl, ⟨hF.wf, hd⟩, hRo, st, fun _ => hF.alike⟩
      · refine ⟨_, rfl, rfl, _, rfl, ite2 (fun _ => ?_) (fun h3 => ?_)⟩
        · -- undone
          refine ⟨_, rfl, _, rfl, _, rfl, p, a, v, e, ws, rfl, P16, hW16, hR16, by omega, fun z H' ord hperm st P' hz => ?_⟩
          exact ⟨z, .map (back ws ord) (.map ord e), none, rfl, ⟨⟨rowOk_back hperm, rowOk_order hperm, wf⟩, by show depth e + 1 + 1 ≤ 6; omega⟩, hz, st, fun _ => undone_alike hgood.nd hperm wf⟩
        · refine ⟨_, rfl, rfl, _, rfl, ite2 (fun _ => ?_) (fun h4 => ?_)⟩
          · -- turned
            refine ⟨_, rfl, _, rfl, a, v, e, ws, S, rfl, hW16, hR16, wf, by omega, fun z H' s' hz => ?_⟩
            exact ⟨z, turned ws e, none, rfl, ⟨wf_turned wf, by rw [depth_turned]; exact fe.dp⟩, hz, Step.of hy16 s', fun _ => turned_alike wf⟩
          · have w2 : way ≠ 2 := fun z => h2 (by rw [z]; rfl)
            have w3 : way ≠ 3 := fun z => h3 (by rw [z]; rfl)
            have w4 : way ≠ 4 := fun z => h4 (by rw [z]; rfl)
            exact ⟨v2, o, none, rfl, ⟨wf2, by omega⟩, hR2, Step.refl p H16, fun h => by omega⟩
    obtain ⟨vo, o', y10, rfl, fo, hRo, st, hal⟩ := z
    have hWf := hW16.but hy16 st.but
    have hRf := hR16.but hy16 st.but
    -- due
    refine ⟨_, rfl, _, rfl, _, rfl, a, v, vo, e, o', ws, S, rfl, hWf, hRf, hRo, su, fe, fo, fun d H17 s17 hdue => ?_⟩
    have hWg := hWf.same s17
    have hRg := hRf.same s17
    have hRh := hRo.same s17
    refine ⟨fun k H' => k = false ∧ H' = H17, ?_, fun k H' hk => ?_⟩
    · refine ⟨_, rfl, decide ((1 : Int) < (way : Nat)), rfl, ite2 (fun h => ?_) (fun _ => ⟨rfl, rfl⟩)⟩
      have hw : 1 < way := by
        have := of_decide_eq_true h
        omega
      have hf := unlike_none.mpr (hal hw)
      rw [hf] at hdue
      have ed : d = .non := hdue
      subst ed
      exact ⟨_, rfl, rfl, _, rfl, rfl, rfl⟩
    obtain ⟨rfl, rfl⟩ := hk
    refine iteF ?_
    -- first_unlike, asked
    refine ⟨_, rfl, _, rfl, _, rfl, a, v, vo, e, o', ws, S, rfl, hWg, hRg, hRh, su, fe, fo, fun z1 H18 s18 hz1 => ?_⟩
    refine ⟨_, rfl, z1, d, rfl, Res.sameD (unlike_len su fe fo) hz1 (hdue.same s18), fun H19 s19 => ⟨_, rfl, iteF ?_⟩⟩
    have s1719 := s18.trans s19
    refine ⟨_, rfl, _, rfl, _, rfl, a, v, v, e, e, ws, S, rfl, hWg.same s1719, hRg.same s1719, hRg.same s1719, su, fe, fe, fun z2 H20 s20 hz2 => ?_⟩
    rw [unlike_none.mpr (Alike.refl ws e)] at hz2
    have ez2 : z2 = .non := hz2
    subst ez2
    refine ⟨rfl, _, rfl, iteF ?_⟩
    have s1720 := s1719.trans s20
    -- exchanged
    refine ⟨_, rfl, _, rfl, _, rfl, a, vo, v, o', e, ws, S, rfl, hWg.same s1720, hRh.same s1720, hRg.same s1720, su, fo, fe, fun z3 H21 s21 hz3 => ?_⟩
    refine ⟨rfl, _, rfl, rfl, _, _, rfl, ?_, fun H22 _ => q H22⟩
    rw [hz3.isN, hdue.isN, unlike_symm]
    exact .inl ⟨rfl, .inr (.inl ⟨_, rfl⟩)⟩
end
end Ka

namespace Ka
open L2 PySem PySem.Spec PyProof.Rows

/-! ### what the top has left -/
/-- a def as it stands behind the top -/
structure Left (K : PySem.W.Frag) (x : Str) (st : Stmt) (f : Addr) (oc : Value) (od an : Option Addr) (sl : Array (Option Value)) (kV doc pm cd ct : Value) : Prop where
  a : PySem.W.nsIn K mainGlobals x = some (some (.ref f))
  l : K.lookup f = some ⟨oc, od, .func (PySem.W.fnOf x x (defArgs st) (defBody st) (defScope st) .none kV doc pm an cd ct), sl⟩
  c : PySem.W.codeIn K cd x = true
  k : PySem.W.keepIn K (.ref f) = true
theorem all_mk {lw : PySem.W.OpenLaw} {w : World} {K : PySem.W.Frag} {h : Heap} {mg : Str → Option Value} {fa : Addr} (X : K.In h) (G : h.Ns mainGlobals mg) (hfa : mg "law" = some (.ref fa))
    {f1 : Addr} {oc1 : Value} {od1 an1 : Option Addr} {sl1 : Array (Option Value)} {kV1 dc1 pm1 cd1 ct1 : Value} (t1 : Left K "word_given" (stK 1) f1 oc1 od1 an1 sl1 kV1 dc1 pm1 cd1 ct1)
    {f2 : Addr} {oc2 : Value} {od2 an2 : Option Addr} {sl2 : Array (Option Value)} {kV2 dc2 pm2 cd2 ct2 : Value} (t2 : Left K "value" (stK 2) f2 oc2 od2 an2 sl2 kV2 dc2 pm2 cd2 ct2)
    {f3 : Addr} {oc3 : Value} {od3 an3 : Option Addr} {sl3 : Array (Option Value)} {kV3 dc3 pm3 cd3 ct3 : Value} (t3 : Left K "reads" (stK 3) f3 oc3 od3 an3 sl3 kV3 dc3 pm3 cd3 ct3)
    {f4 : Addr} {oc4 : Value} {od4 an4 : Option Addr} {sl4 : Array (Option Value)} {kV4 dc4 pm4 cd4 ct4 : Value} (t4 : Left K "all_given" (stK 4) f4 oc4 od4 an4 sl4 kV4 dc4 pm4 cd4 ct4)
    {f5 : Addr} {oc5 : Value} {od5 an5 : Option Addr} {sl5 : Array (Option Value)} {kV5 dc5 pm5 cd5 ct5 : Value} (t5 : Left K "differs_at" (stK 5) f5 oc5 od5 an5 sl5 kV5 dc5 pm5 cd5 ct5)
    {f6 : Addr} {oc6 : Value} {od6 an6 : Option Addr} {sl6 : Array (Option Value)} {kV6 dc6 pm6 cd6 ct6 : Value} (t6 : Left K "matters" (stK 6) f6 oc6 od6 an6 sl6 kV6 dc6 pm6 cd6 ct6)
    {f7 : Addr} {oc7 : Value} {od7 an7 : Option Addr} {sl7 : Array (Option Value)} {kV7 dc7 pm7 cd7 ct7 : Value} (t7 : Left K "first_unlike" (stK 7) f7 oc7 od7 an7 sl7 kV7 dc7 pm7 cd7 ct7)
    {f9 : Addr} {oc9 : Value} {od9 an9 : Option Addr} {sl9 : Array (Option Value)} {kV9 dc9 pm9 cd9 ct9 : Value} (t9 : Left K "_law_pool" (stK 9) f9 oc9 od9 an9 sl9 kV9 dc9 pm9 cd9 ct9)
    {f10 : Addr} {oc10 : Value} {od10 an10 : Option Addr} {sl10 : Array (Option Value)} {kV10 dc10 pm10 cd10 ct10 : Value} (t10 : Left K "_law_draw" (stK 10) f10 oc10 od10 an10 sl10 kV10 dc10 pm10 cd10 ct10)
    {f11 : Addr} {oc11 : Value} {od11 an11 : Option Addr} {sl11 : Array (Option Value)} {kV11 dc11 pm11 cd11 ct11 : Value} (t11 : Left K "_law_pick" (stK 11) f11 oc11 od11 an11 sl11 kV11 dc11 pm11 cd11 ct11)
    {f12 : Addr} {oc12 : Value} {od12 an12 : Option Addr} {sl12 : Array (Option Value)} {kV12 dc12 pm12 cd12 ct12 : Value} (t12 : Left K "_law_name" (stK 12) f12 oc12 od12 an12 sl12 kV12 dc12 pm12 cd12 ct12)
    {f13 : Addr} {oc13 : Value} {od13 an13 : Option Addr} {sl13 : Array (Option Value)} {kV13 dc13 pm13 cd13 ct13 : Value} (t13 : Left K "_law_names" (stK 13) f13 oc13 od13 an13 sl13 kV13 dc13 pm13 cd13 ct13)
    {f14 : Addr} {oc14 : Value} {od14 an14 : Option Addr} {sl14 : Array (Option Value)} {kV14 dc14 pm14 cd14 ct14 : Value} (t14 : Left K "_law_row_of" (stK 14) f14 oc14 od14 an14 sl14 kV14 dc14 pm14 cd14 ct14)
    {f15 : Addr} {oc15 : Value} {od15 an15 : Option Addr} {sl15 : Array (Option Value)} {kV15 dc15 pm15 cd15 ct15 : Value} (t15 : Left K "_law_same" (stK 15) f15 oc15 od15 an15 sl15 kV15 dc15 pm15 cd15 ct15)
    {f16 : Addr} {oc16 : Value} {od16 an16 : Option Addr} {sl16 : Array (Option Value)} {kV16 dc16 pm16 cd16 ct16 : Value} (t16 : Left K "_law_tree" (stK 16) f16 oc16 od16 an16 sl16 kV16 dc16 pm16 cd16 ct16)
    {f17 : Addr} {oc17 : Value} {od17 an17 : Option Addr} {sl17 : Array (Option Value)} {kV17 dc17 pm17 cd17 ct17 : Value} (t17 : Left K "_law_all" (stK 17) f17 oc17 od17 an17 sl17 kV17 dc17 pm17 cd17 ct17)
    {f18 : Addr} {oc18 : Value} {od18 an18 : Option Addr} {sl18 : Array (Option Value)} {kV18 dc18 pm18 cd18 ct18 : Value} (t18 : Left K "_law_known" (stK 18) f18 oc18 od18 an18 sl18 kV18 dc18 pm18 cd18 ct18)
    {f19 : Addr} {oc19 : Value} {od19 an19 : Option Addr} {sl19 : Array (Option Value)} {kV19 dc19 pm19 cd19 ct19 : Value} (t19 : Left K "_law_matters" (stK 19) f19 oc19 od19 an19 sl19 kV19 dc19 pm19 cd19 ct19)
    {f20 : Addr} {oc20 : Value} {od20 an20 : Option Addr} {sl20 : Array (Option Value)} {kV20 dc20 pm20 cd20 ct20 : Value} (t20 : Left K "_law_filled" (stK 20) f20 oc20 od20 an20 sl20 kV20 dc20 pm20 cd20 ct20)
    {f21 : Addr} {oc21 : Value} {od21 an21 : Option Addr} {sl21 : Array (Option Value)} {kV21 dc21 pm21 cd21 ct21 : Value} (t21 : Left K "_law_turned" (stK 21) f21 oc21 od21 an21 sl21 kV21 dc21 pm21 cd21 ct21)
    {f22 : Addr} {oc22 : Value} {od22 an22 : Option Addr} {sl22 : Array (Option Value)} {kV22 dc22 pm22 cd22 ct22 : Value} (t22 : Left K "_law_undone" (stK 22) f22 oc22 od22 an22 sl22 kV22 dc22 pm22 cd22 ct22)
    {f23 : Addr} {oc23 : Value} {od23 an23 : Option Addr} {sl23 : Array (Option Value)} {kV23 dc23 pm23 cd23 ct23 : Value} (t23 : Left K "_law_first" (stK 23) f23 oc23 od23 an23 sl23 kV23 dc23 pm23 cd23 ct23)
    {f24 : Addr} {oc24 : Value} {od24 an24 : Option Addr} {sl24 : Array (Option Value)} {kV24 dc24 pm24 cd24 ct24 : Value} (t24 : Left K "law" (stK 24) f24 oc24 od24 an24 sl24 kV24 dc24 pm24 cd24 ct24)
    (n_list : PySem.W.nsIn K mainGlobals "list" = some none)
    (n_tuple : PySem.W.nsIn K mainGlobals "tuple" = some none)
    (n_enumerate : PySem.W.nsIn K mainGlobals "enumerate" = some none)
    (n_int : PySem.W.nsIn K mainGlobals "int" = some none)
    (n_abs : PySem.W.nsIn K mainGlobals "abs" = some none)
    (n_len : PySem.W.nsIn K mainGlobals "len" = some none)
    (n_range : PySem.W.nsIn K mainGlobals "range" = some none)
    (n_isinstance : PySem.W.nsIn K mainGlobals "isinstance" = some none)
    (n_bool : PySem.W.nsIn K mainGlobals "bool" = some none)
    (n_str : PySem.W.nsIn K mainGlobals "str" = some none)
    (n_all : PySem.W.nsIn K mainGlobals "all" = some none)
    (n_zip : PySem.W.nsIn K mainGlobals "zip" = some none)
    : ∃ fd : FuncData, (∀ (s : Shared) (u : Value), BindsTo s fd ⟨[u], []⟩ [("_law_script", u)]) ∧ ∀ base : Heap, K.In base → base.Ns mainGlobals mg → FnOk lw.prog w K mg base CX0 11 fa fd ["_law_script"] (spLaw K) := by
  have e := hfa.symm.trans (PySem.W.mg_of X G t24.a)
  cases e
  have F1 := fun_mk (st := stK 1) t1.l t1.c t1.k
  have b1 := F1.binds (ps := ["given", "slot"]) fun _ _ _ _ _ _ us hl => match us, hl with | [_, _], _ => rfl
  have m1 := PySem.W.mg_of X G t1.a
  have F2 := fun_mk (st := stK 2) t2.l t2.c t2.k
  have b2 := F2.binds (ps := ["words", "expr", "given"]) fun _ _ _ _ _ _ us hl => match us, hl with | [_, _, _], _ => rfl
  have m2 := PySem.W.mg_of X G t2.a
  have F3 := fun_mk (st := stK 3) t3.l t3.c t3.k
  have b3 := F3.binds (ps := ["expr"]) fun _ _ _ _ _ _ us hl => match us, hl with | [_], _ => rfl
  have m3 := PySem.W.mg_of X G t3.a
  have F4 := fun_mk (st := stK 4) t4.l t4.c t4.k
  have b4 := F4.binds (ps := ["words", "slots"]) fun _ _ _ _ _ _ us hl => match us, hl with | [_, _], _ => rfl
  have m4 := PySem.W.mg_of X G t4.a
  have F5 := fun_mk (st := stK 5) t5.l t5.c t5.k
  have b5 := F5.binds (ps := ["words", "expr", "slots", "at"]) fun _ _ _ _ _ _ us hl => match us, hl with | [_, _, _, _], _ => rfl
  have m5 := PySem.W.mg_of X G t5.a
  have F6 := fun_mk (st := stK 6) t6.l t6.c t6.k
  have b6 := F6.binds (ps := ["words", "expr"]) fun _ _ _ _ _ _ us hl => match us, hl with | [_, _], _ => rfl
  have m6 := PySem.W.mg_of X G t6.a
  have F7 := fun_mk (st := stK 7) t7.l t7.c t7.k
  have b7 := F7.binds (ps := ["words", "expr", "other"]) fun _ _ _ _ _ _ us hl => match us, hl with | [_, _, _], _ => rfl
  have m7 := PySem.W.mg_of X G t7.a
  have F9 := fun_mk (st := stK 9) t9.l t9.c t9.k
  have b9 := F9.binds (ps := ["_law_script"]) fun _ _ _ _ _ _ us hl => match us, hl with | [_], _ => rfl
  have m9 := PySem.W.mg_of X G t9.a
  have F10 := fun_mk (st := stK 10) t10.l t10.c t10.k
  have b10 := F10.binds (ps := ["_law_pool_here", "_law_many"]) fun _ _ _ _ _ _ us hl => match us, hl with | [_, _], _ => rfl
  have m10 := PySem.W.mg_of X G t10.a
  have F11 := fun_mk (st := stK 11) t11.l t11.c t11.k
  have b11 := F11.binds (ps := ["_law_pool_here", "_law_items"]) fun _ _ _ _ _ _ us hl => match us, hl with | [_, _], _ => rfl
  have m11 := PySem.W.mg_of X G t11.a
  have F12 := fun_mk (st := stK 12) t12.l t12.c t12.k
  have b12 := F12.binds (ps := ["_law_pool_here", "_law_taken"]) fun _ _ _ _ _ _ us hl => match us, hl with | [_, _], _ => rfl
  have m12 := PySem.W.mg_of X G t12.a
  have F13 := fun_mk (st := stK 13) t13.l t13.c t13.k
  have b13 := F13.binds (ps := ["_law_pool_here", "_law_count"]) fun _ _ _ _ _ _ us hl => match us, hl with | [_, _], _ => rfl
  have m13 := PySem.W.mg_of X G t13.a
  have F14 := fun_mk (st := stK 14) t14.l t14.c t14.k
  have b14 := F14.binds (ps := ["_law_pool_here", "_law_words"]) fun _ _ _ _ _ _ us hl => match us, hl with | [_, _], _ => rfl
  have m14 := PySem.W.mg_of X G t14.a
  have F15 := fun_mk (st := stK 15) t15.l t15.c t15.k
  have b15 := F15.binds (ps := ["_law_a", "_law_b"]) fun _ _ _ _ _ _ us hl => match us, hl with | [_, _], _ => rfl
  have m15 := PySem.W.mg_of X G t15.a
  have F16 := fun_mk (st := stK 16) t16.l t16.c t16.k
  have b16 := F16.binds (ps := ["_law_pool_here", "_law_words", "_law_slots", "_law_deep", "_law_room"]) fun _ _ _ _ _ _ us hl => match us, hl with | [_, _, _, _, _], _ => rfl
  have m16 := PySem.W.mg_of X G t16.a
  have F17 := fun_mk (st := stK 17) t17.l t17.c t17.k
  have b17 := F17.binds (ps := ["_law_words", "_law_slots"]) fun _ _ _ _ _ _ us hl => match us, hl with | [_, _], _ => rfl
  have m17 := PySem.W.mg_of X G t17.a
  have F18 := fun_mk (st := stK 18) t18.l t18.c t18.k
  have b18 := F18.binds (ps := ["_law_words", "_law_expr", "_law_slots"]) fun _ _ _ _ _ _ us hl => match us, hl with | [_, _, _], _ => rfl
  have m18 := PySem.W.mg_of X G t18.a
  have F19 := fun_mk (st := stK 19) t19.l t19.c t19.k
  have b19 := F19.binds (ps := ["_law_words", "_law_expr", "_law_slots"]) fun _ _ _ _ _ _ us hl => match us, hl with | [_, _, _], _ => rfl
  have m19 := PySem.W.mg_of X G t19.a
  have F20 := fun_mk (st := stK 20) t20.l t20.c t20.k
  have b20 := F20.binds (ps := ["_law_expr", "_law_slot", "_law_word"]) fun _ _ _ _ _ _ us hl => match us, hl with | [_, _, _], _ => rfl
  have m20 := PySem.W.mg_of X G t20.a
  have F21 := fun_mk (st := stK 21) t21.l t21.c t21.k
  have b21 := F21.binds (ps := ["_law_words", "_law_expr"]) fun _ _ _ _ _ _ us hl => match us, hl with | [_, _], _ => rfl
  have m21 := PySem.W.mg_of X G t21.a
  have F22 := fun_mk (st := stK 22) t22.l t22.c t22.k
  have b22 := F22.binds (ps := ["_law_pool_here", "_law_words", "_law_expr"]) fun _ _ _ _ _ _ us hl => match us, hl with | [_, _, _], _ => rfl
  have m22 := PySem.W.mg_of X G t22.a
  have F23 := fun_mk (st := stK 23) t23.l t23.c t23.k
  have b23 := F23.binds (ps := ["_law_words", "_law_expr", "_law_other"]) fun _ _ _ _ _ _ us hl => match us, hl with | [_, _, _], _ => rfl
  have m23 := PySem.W.mg_of X G t23.a
  have F24 := fun_mk (st := stK 24) t24.l t24.c t24.k
  have z_list := PySem.W.mg_none_of X G n_list
  have z_tuple := PySem.W.mg_none_of X G n_tuple
  have z_enumerate := PySem.W.mg_none_of X G n_enumerate
  have z_int := PySem.W.mg_none_of X G n_int
  have z_abs := PySem.W.mg_none_of X G n_abs
  have z_len := PySem.W.mg_none_of X G n_len
  have z_range := PySem.W.mg_none_of X G n_range
  have z_isinstance := PySem.W.mg_none_of X G n_isinstance
  have z_bool := PySem.W.mg_none_of X G n_bool
  have z_str := PySem.W.mg_none_of X G n_str
  have z_all := PySem.W.mg_none_of X G n_all
  have z_zip := PySem.W.mg_none_of X G n_zip
  refine ⟨PySem.W.fnOf "law" "law" (defArgs (stK 24)) (defBody (stK 24)) (defScope (stK 24)) .none kV24 dc24 pm24 an24 cd24 ct24, fun s u => .of_eq rfl, fun base _ _ => ?_⟩
  have c_value : Cal lw.prog w K mg base "value" 8 f2 _ ["words", "expr", "given"] (spValue K 6) := ⟨ok_value F2 F1 b2 b1 m1 m2 6, F2.kp, b2, m2⟩
  have c_reads : Cal lw.prog w K mg base "reads" 1 f3 _ ["expr"] (spReads K) := ⟨ok_reads (k := 0) F3 z_list z_tuple, F3.kp, b3, m3⟩
  have c_all : Cal lw.prog w K mg base "all_given" 1 f4 _ ["words", "slots"] (spAll K) := ⟨ok_all (k := 0) F4, F4.kp, b4, m4⟩
  have c_differs : Cal lw.prog w K mg base "differs_at" 9 f5 _ ["words", "expr", "slots", "at"] (spDiffers K) := ⟨ok_differs F5 c_all c_value, F5.kp, b5, m5⟩
  have c_matters : Cal lw.prog w K mg base "matters" 10 f6 _ ["words", "expr"] (spMatters K) := ⟨ok_matters F6 c_reads c_differs z_tuple z_enumerate, F6.kp, b6, m6⟩
  have c_unlike : Cal lw.prog w K mg base "first_unlike" 9 f7 _ ["words", "expr", "other"] (spUnlike K) := ⟨ok_unlike F7 c_reads c_all c_value z_tuple, F7.kp, b7, m7⟩
  have c_pool : Cal lw.prog w K mg base "_law_pool" 1 f9 _ ["_law_script"] (spPool K) := ⟨ok_pool F9 z_int z_abs, F9.kp, b9, m9⟩
  have c_draw : Cal lw.prog w K mg base "_law_draw" 1 f10 _ ["_law_pool_here", "_law_many"] spDraw := ⟨ok_draw F10 z_int z_len, F10.kp, b10, m10⟩
  have c_pick : Cal lw.prog w K mg base "_law_pick" 2 f11 _ ["_law_pool_here", "_law_items"] (spPick K) := ⟨ok_pick F11 c_draw z_len, F11.kp, b11, m11⟩
  have c_name : Cal lw.prog w K mg base "_law_name" 2 f12 _ ["_law_pool_here", "_law_taken"] (spName K) := ⟨ok_name F12 c_draw z_int z_len z_range, F12.kp, b12, m12⟩
  have c_names : Cal lw.prog w K mg base "_law_names" 3 f13 _ ["_law_pool_here", "_law_count"] (spNames K) := ⟨ok_names F13 c_name z_range, F13.kp, b13, m13⟩
  have c_row : Cal lw.prog w K mg base "_law_row_of" 3 f14 _ ["_law_pool_here", "_law_words"] (spRowOf K) := ⟨ok_row_of F14 c_pick z_tuple, F14.kp, b14, m14⟩
  have c_same : Cal lw.prog w K mg base "_law_same" 3 f15 _ ["_law_a", "_law_b"] (spSame K 2) := ⟨ok_same F15 b15 m15 ⟨z_isinstance, z_tuple, z_list, z_bool, z_int, z_str, z_len, z_all, z_zip⟩ 2, F15.kp, b15, m15⟩
  have c_tree : Cal lw.prog w K mg base "_law_tree" 7 f16 _ ["_law_pool_here", "_law_words", "_law_slots", "_law_deep", "_law_room"] (spTree K 3) := ⟨ok_tree F16 b16 m16 c_draw c_pick c_row z_tuple 3, F16.kp, b16, m16⟩
  have c_lallT : Cal lw.prog w K mg base "_law_all" 1 f17 _ ["_law_words", "_law_slots"] (spLAll K false) := ⟨ok_lall false F17, F17.kp, b17, m17⟩
  have c_lallL : Cal lw.prog w K mg base "_law_all" 1 f17 _ ["_law_words", "_law_slots"] (spLAll K true) := ⟨ok_lall true F17, F17.kp, b17, m17⟩
  have c_known : Cal lw.prog w K mg base "_law_known" 9 f18 _ ["_law_words", "_law_expr", "_law_slots"] (spKnown K) := ⟨ok_known F18 c_lallT c_value, F18.kp, b18, m18⟩
  have c_lm : Cal lw.prog w K mg base "_law_matters" 10 f19 _ ["_law_words", "_law_expr", "_law_slots"] (spLMatters K) := ⟨ok_lmatters F19 c_known z_len z_range, F19.kp, b19, m19⟩
  have c_filled : Cal lw.prog w K mg base "_law_filled" 7 f20 _ ["_law_expr", "_law_slot", "_law_word"] (spFilled K 6) := ⟨ok_filled F20 b20 m20 z_tuple 6, F20.kp, b20, m20⟩
  have c_turned : Cal lw.prog w K mg base "_law_turned" 1 f21 _ ["_law_words", "_law_expr"] (spTurned K) := ⟨ok_turned F21 z_tuple z_len z_range, F21.kp, b21, m21⟩
  have c_undone : Cal lw.prog w K mg base "_law_undone" 2 f22 _ ["_law_pool_here", "_law_words", "_law_expr"] (spUndone K) := ⟨ok_undone F22 c_draw z_tuple z_len, F22.kp, b22, m22⟩
  have c_first : Cal lw.prog w K mg base "_law_first" 9 f23 _ ["_law_words", "_law_expr", "_law_other"] (spUnlike K) := ⟨ok_first F23 c_reads c_lallL c_value z_list, F23.kp, b23, m23⟩
  exact ok_law F24 c_pool c_draw c_names c_tree c_reads c_lm c_same c_matters c_filled c_pick c_undone c_turned c_first c_unlike z_tuple z_int z_len
end Ka
open PySem.W PySem PyProof.Rows
set_option maxHeartbeats 0 in
theorem PySem.Challenge.cw_onesession_k03_whole_slots_that_matter_holds : PySem.Challenge.rw_onesession_k03_whole_slots_that_matter.Holds := by
  w_on
  o_law
  k_head
  (case hw => w_witness2)
  k_fill
  refine L2.walk_of (l := PySem.Challenge.rw_onesession_k03_whole_slots_that_matter) (n := 63) (k := 11) (x := "_law_script") (CX := fun _ => L2.CX0) (sp := fun w => Ka.spLaw _) rfl (by decide) rfl ⟨rfl, by decide, by decide⟩ (fun w h Y => PySem.W.kIn_of Y) ?F (fun _ _ a ns hl _ hS => ⟨a, ns, rfl, hS, hl, fun _ => rfl⟩) (fun _ _ _ _ _ h => h)
  case F =>
    intro w mg fa h KX G hmg
    refine' Ka.all_mk KX G hmg ?t1 ?t2 ?t3 ?t4 ?t5 ?t6 ?t7 ?t9 ?t10 ?t11 ?t12 ?t13 ?t14 ?t15 ?t16 ?t17 ?t18 ?t19 ?t20 ?t21 ?t22 ?t23 ?t24 ?n_list ?n_tuple ?n_enumerate ?n_int ?n_abs ?n_len ?n_range ?n_isinstance ?n_bool ?n_str ?n_all ?n_zip
    (case t1 => refine' ⟨?a, ?l, ?c, ?k⟩; (case a => k_is); (case l => k_is); (case c => k_is); (case k => k_is))
    (case t2 => refine' ⟨?a, ?l, ?c, ?k⟩; (case a => k_is); (case l => k_is); (case c => k_is); (case k => k_is))
    (case t3 => refine' ⟨?a, ?l, ?c, ?k⟩; (case a => k_is); (case l => k_is); (case c => k_is); (case k => k_is))
    (case t4 => refine' ⟨?a, ?l, ?c, ?k⟩; (case a => k_is); (case l => k_is); (case c => k_is); (case k => k_is))
    (case t5 => refine' ⟨?a, ?l, ?c, ?k⟩; (case a => k_is); (case l => k_is); (case c => k_is); (case k => k_is))
    (case t6 => refine' ⟨?a, ?l, ?c, ?k⟩; (case a => k_is); (case l => k_is); (case c => k_is); (case k => k_is))
    (case t7 => refine' ⟨?a, ?l, ?c, ?k⟩; (case a => k_is); (case l => k_is); (case c => k_is); (case k => k_is))
    (case t9 => refine' ⟨?a, ?l, ?c, ?k⟩; (case a => k_is); (case l => k_is); (case c => k_is); (case k => k_is))
    (case t10 => refine' ⟨?a, ?l, ?c, ?k⟩; (case a => k_is); (case l => k_is); (case c => k_is); (case k => k_is))
    (case t11 => refine' ⟨?a, ?l, ?c, ?k⟩; (case a => k_is); (case l => k_is); (case c => k_is); (case k => k_is))
    (case t12 => refine' ⟨?a, ?l, ?c, ?k⟩; (case a => k_is); (case l => k_is); (case c => k_is); (case k => k_is))
    (case t13 => refine' ⟨?a, ?l, ?c, ?k⟩; (case a => k_is); (case l => k_is); (case c => k_is); (case k => k_is))
    (case t14 => refine' ⟨?a, ?l, ?c, ?k⟩; (case a => k_is); (case l => k_is); (case c => k_is); (case k => k_is))
    (case t15 => refine' ⟨?a, ?l, ?c, ?k⟩; (case a => k_is); (case l => k_is); (case c => k_is); (case k => k_is))
    (case t16 => refine' ⟨?a, ?l, ?c, ?k⟩; (case a => k_is); (case l => k_is); (case c => k_is); (case k => k_is))
    (case t17 => refine' ⟨?a, ?l, ?c, ?k⟩; (case a => k_is); (case l => k_is); (case c => k_is); (case k => k_is))
    (case t18 => refine' ⟨?a, ?l, ?c, ?k⟩; (case a => k_is); (case l => k_is); (case c => k_is); (case k => k_is))
    (case t19 => refine' ⟨?a, ?l, ?c, ?k⟩; (case a => k_is); (case l => k_is); (case c => k_is); (case k => k_is))
    (case t20 => refine' ⟨?a, ?l, ?c, ?k⟩; (case a => k_is); (case l => k_is); (case c => k_is); (case k => k_is))
    (case t21 => refine' ⟨?a, ?l, ?c, ?k⟩; (case a => k_is); (case l => k_is); (case c => k_is); (case k => k_is))
    (case t22 => refine' ⟨?a, ?l, ?c, ?k⟩; (case a => k_is); (case l => k_is); (case c => k_is); (case k => k_is))
    (case t23 => refine' ⟨?a, ?l, ?c, ?k⟩; (case a => k_is); (case l => k_is); (case c => k_is); (case k => k_is))
    (case t24 => refine' ⟨?a, ?l, ?c, ?k⟩; (case a => k_is); (case l => k_is); (case c => k_is); (case k => k_is))
    (case n_list => k_is)
    (case n_tuple => k_is)
    (case n_enumerate => k_is)
    (case n_int => k_is)
    (case n_abs => k_is)
    (case n_len => k_is)
    (case n_range => k_is)
    (case n_isinstance => k_is)
    (case n_bool => k_is)
    (case n_str => k_is)
    (case n_all => k_is)
    (case n_zip => k_is)
