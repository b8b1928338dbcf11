import PyProof.Rows.All
import Wide.All
import OpenK.AllK
import Wide.FinOn
import HandS.ForMost
import HandS.More
import HandS.Star
import HandS.Strs
import HandS.Zip
import HandS.IsInst
import HandS.DictComp
import HandS.Lambda
import HandS.Nested
import KE.KSuper
import PySem.Challenge.RW_linestrikes_k23_whole_kinds_by_one_anoth
import KE.KOpsOwn
import HandS.OwnEq
import HandS.Walk
import HandS.ExcSuper
import HandS.IterNext
import HandS.Exc
import HandS.HeadHook1
import HandS.HeadHook2
import HandS.HeadHook3
import HandS.HeadHook4
import HandS.HeadWalk
import HandS.Head0
import HandS.Head1
import HandS.Head2
import HandS.NoneIn
import HandS.SlotsOwn
import PyProof.Rows.SetFrom
import PyProof.StrWalks
import HandS.SetKeys
import KE.KDictKeyed
import KE.GoesEnum
import KE.KItemsList
import KE.KDictZip
import KE.GoesMore
import HandS.ClsMeth
import KE.KDictDisplayH
import HandS.Replace
import HandS.Text
import HandS.WordsDict
import KE.KRevSl
import HandS.ListItems
section
/-! Machines by tables: the walk through the states, tables of it, least tables. No program here. -/
set_option autoImplicit false
namespace LS

/-- a word of letters below k -/
def Wd (k : Nat) (w : List Nat) : Prop := ∀ a ∈ w, a < k
theorem Wd.nil {k : Nat} : Wd k [] := fun _ h => nomatch h
theorem Wd.cons {k a : Nat} {w : List Nat} (h : a < k) (hw : Wd k w) : Wd k (a :: w) := fun b hb => by
  rcases List.mem_cons.mp hb with rfl | hb
  · exact h
  · exact hw b hb
theorem Wd.head {k a : Nat} {w : List Nat} (h : Wd k (a :: w)) : a < k := h a List.mem_cons_self
theorem Wd.tail {k a : Nat} {w : List Nat} (h : Wd k (a :: w)) : Wd k w := fun b hb => h b (List.mem_cons_of_mem _ hb)
theorem Wd.app {k : Nat} {u w : List Nat} (hu : Wd k u) (hw : Wd k w) : Wd k (u ++ w) := fun b hb => by
  rcases List.mem_append.mp hb with h | h
  · exact hu b h
  · exact hw b h
theorem Wd.rev {k : Nat} {w : List Nat} (h : Wd k w) : Wd k w.reverse := fun b hb => h b (List.mem_reverse.mp hb)

section
variable {α : Type}
/-- from x by a word -/
def go (nx : α → List α) : α → List Nat → α
  | x, [] => x
  | x, a :: w => go nx ((nx x).getD a x) w
theorem go_app (nx : α → List α) : ∀ (u w : List Nat) (x : α), go nx x (u ++ w) = go nx (go nx x u) w
  | [], _, _ => rfl
  | _ :: u, w, _ => go_app nx u w _
end

section
variable {α : Type} [DecidableEq α]
/-- an order, with what a row has of new behind -/
def addNew (o : List α) : List α → List α
  | [] => o
  | x :: r => addNew (if x ∈ o then o else o ++ [x]) r
/-- states in the order in which words first come to them -/
def bfs (nx : α → List α) : Nat → List α → Nat → Option (List α)
  | 0, _, _ => none
  | f + 1, o, i => match o[i]? with
    | none => some o
    | some x => bfs nx f (addNew o (nx x)) (i + 1)

theorem addNew_pre : ∀ (r o : List α), ∃ t, addNew o r = o ++ t
  | [], o => ⟨[], by simp [addNew]⟩
  | x :: r, o => by
    obtain ⟨t, e⟩ := addNew_pre r (if x ∈ o then o else o ++ [x])
    by_cases h : x ∈ o
    · refine ⟨t, ?_⟩
      rw [addNew, e, if_pos h]
    · refine ⟨[x] ++ t, ?_⟩
      rw [addNew, e, if_neg h, List.append_assoc]
theorem mem_addNew : ∀ (r o : List α) (y : α), y ∈ addNew o r ↔ y ∈ o ∨ y ∈ r
  | [], o, y => by simp [addNew]
  | x :: r, o, y => by
    rw [addNew, mem_addNew r]
    by_cases h : x ∈ o
    · rw [if_pos h, List.mem_cons]
      constructor
      · rintro (h' | h')
        · exact .inl h'
        · exact .inr (.inr h')
      · rintro (h' | rfl | h')
        · exact .inl h'
        · exact .inl h
        · exact .inr h'
    · rw [if_neg h, List.mem_append, List.mem_singleton, List.mem_cons, or_assoc]
theorem nodup_addNew : ∀ (r o : List α), o.Nodup → (addNew o r).Nodup
  | [], o, h => h
  | x :: r, o, h => by
    rw [addNew]
    refine nodup_addNew r _ ?_
    by_cases hx : x ∈ o
    · rw [if_pos hx]; exact h
    · rw [if_neg hx, List.nodup_append]
      exact ⟨h, by simp, fun a ha b hb e => hx (by rw [List.mem_singleton] at hb; rw [← hb, ← e]; exact ha)⟩

theorem bfs_spec {nx : α → List α} {P : α → Prop} (hP : ∀ x, P x → ∀ y ∈ nx x, P y) : ∀ (f : Nat) (o : List α) (i : Nat) (o' : List α), bfs nx f o i = some o' → o.Nodup → (∀ x ∈ o, P x) →
    (∀ j x, j < i → o[j]? = some x → ∀ y ∈ nx x, y ∈ o) → o'.Nodup ∧ (∃ t, o' = o ++ t) ∧ (∀ x ∈ o', P x) ∧ ∀ x ∈ o', ∀ y ∈ nx x, y ∈ o'
  | 0, _, _, _, e, _, _, _ => by cases e
  | f + 1, o, i, o', e, hn, hp, hc => by
    rw [bfs] at e
    cases q : o[i]? with
    | none =>
      rw [q] at e
      cases e
      refine ⟨hn, ⟨[], by simp⟩, hp, fun x hx y hy => ?_⟩
      obtain ⟨j, hj⟩ := List.mem_iff_getElem?.mp hx
      have h1 : o.length ≤ i := List.getElem?_eq_none_iff.mp q
      have h2 : j < o.length := (List.getElem?_eq_some_iff.mp hj).1
      exact hc j x (by omega) hj y hy
    | some x =>
      rw [q] at e
      have e' : bfs nx f (addNew o (nx x)) (i + 1) = some o' := e
      obtain ⟨t, et⟩ := addNew_pre (nx x) o
      have hx : x ∈ o := List.mem_of_getElem? q
      have hi : i < o.length := (List.getElem?_eq_some_iff.mp q).1
      obtain ⟨h1, ⟨t2, h2⟩, h3, h4⟩ := bfs_spec hP f _ _ _ e' (nodup_addNew _ _ hn) (fun y hy => by
        rcases (mem_addNew _ _ _).mp hy with h | h
        · exact hp y h
        · exact hP x (hp x hx) y h) fun j z hj hz y hy => by
        rw [mem_addNew]
        by_cases hji : j = i
        · subst hji
          rw [et, List.getElem?_append_left hi, q] at hz
          cases hz
          exact .inr hy
        · have hjl : j < o.length := by omega
          rw [et, List.getElem?_append_left hjl] at hz
          exact .inl (hc j z (by omega) hz y hy)
      refine ⟨h1, ⟨t ++ t2, ?_⟩, h3, h4⟩
      rw [h2, et, List.append_assoc]

theorem bfs_some {nx : α → List α} {P : α → Prop} {N : Nat} (hP : ∀ x, P x → ∀ y ∈ nx x, P y) (hN : ∀ l : List α, l.Nodup → (∀ x ∈ l, P x) → l.length ≤ N) :
    ∀ (f : Nat) (o : List α) (i : Nat), o.Nodup → (∀ x ∈ o, P x) → i ≤ o.length → N + 1 ≤ f + i → ∃ o', bfs nx f o i = some o'
  | 0, o, i, hn, hp, hi, hf => by have := hN o hn hp; omega
  | f + 1, o, i, hn, hp, hi, hf => by
    rw [bfs]
    cases q : o[i]? with
    | none => exact ⟨o, rfl⟩
    | some x =>
      have hx : x ∈ o := List.mem_of_getElem? q
      have hil : i < o.length := (List.getElem?_eq_some_iff.mp q).1
      obtain ⟨t, et⟩ := addNew_pre (nx x) o
      refine bfs_some hP hN f _ _ (nodup_addNew _ _ hn) (fun y hy => ?_) ?_ (by omega)
      · rcases (mem_addNew _ _ _).mp hy with h | h
        · exact hp y h
        · exact hP x (hp x hx) y h
      · rw [et, List.length_append]; omega
theorem bfs_mono {nx : α → List α} : ∀ (f g : Nat) (o : List α) (i : Nat) (o' : List α), bfs nx f o i = some o' → f ≤ g → bfs nx g o i = some o'
  | 0, _, _, _, _, e, _ => by cases e
  | f + 1, 0, _, _, _, _, h => absurd h (by omega)
  | f + 1, g + 1, o, i, o', e, h => by
    rw [bfs] at e ⊢
    cases q : o[i]? with
    | none => rw [q] at e; exact e
    | some x =>
      rw [q] at e
      exact bfs_mono f g _ _ _ e (by omega)

/-! ### two walks side by side -/
variable {β : Type} [DecidableEq β]
def Rl {α β : Type} (R : α → β → Prop) (l : List α) (l' : List β) : Prop := l.length = l'.length ∧ ∀ (i : Nat) x y, l[i]? = some x → l'[i]? = some y → R x y
theorem Rl.get {α β : Type} {R : α → β → Prop} {l : List α} {l' : List β} (h : Rl R l l') {i : Nat} {x : α} (e : l[i]? = some x) : ∃ y, l'[i]? = some y ∧ R x y := by
  have h1 : i < l.length := (List.getElem?_eq_some_iff.mp e).1
  have h2 : i < l'.length := by rw [← h.1]; exact h1
  exact ⟨l'[i], List.getElem?_eq_getElem h2, h.2 i x _ e (List.getElem?_eq_getElem h2)⟩
theorem Rl.none {α β : Type} {R : α → β → Prop} {l : List α} {l' : List β} (h : Rl R l l') {i : Nat} (e : l[i]? = none) : l'[i]? = none := by
  rw [List.getElem?_eq_none_iff] at e ⊢
  rw [← h.1]; exact e
theorem Rl.snoc {α β : Type} {R : α → β → Prop} {l : List α} {l' : List β} (h : Rl R l l') {x : α} {y : β} (r : R x y) : Rl R (l ++ [x]) (l' ++ [y]) := by
  refine ⟨by rw [List.length_append, List.length_append, h.1] <;> rfl, fun i a b h1 h2 => ?_⟩
  by_cases hi : i < l.length
  · rw [List.getElem?_append_left hi] at h1
    rw [List.getElem?_append_left (by rw [← h.1]; exact hi)] at h2
    exact h.2 i a b h1 h2
  · rw [List.getElem?_append_right (by omega)] at h1
    rw [List.getElem?_append_right (by rw [← h.1]; omega), ← h.1] at h2
    cases hz : i - l.length with
    | zero =>
      rw [hz] at h1 h2
      simp at h1 h2
      subst h1 h2
      exact r
    | succ n =>
      rw [hz] at h1
      simp at h1
theorem Rl.tail {α β : Type} {R : α → β → Prop} {x : α} {y : β} {l : List α} {l' : List β} (h : Rl R (x :: l) (y :: l')) : R x y ∧ Rl R l l' :=
  ⟨h.2 0 x y rfl rfl, by have := h.1; simpa using this, fun i a b h1 h2 => h.2 (i + 1) a b (by simpa using h1) (by simpa using h2)⟩

theorem addNew_par {R : α → β → Prop} (h1 : ∀ x y y', R x y → R x y' → y = y') (h2 : ∀ x x' y, R x y → R x' y → x = x') : ∀ (r : List α) (r' : List β) (o : List α) (o' : List β), Rl R o o' → Rl R r r' → Rl R (addNew o r) (addNew o' r')
  | [], [], o, o', h, _ => h
  | [], _ :: _, _, _, _, h => by have := h.1; simp at this
  | _ :: _, [], _, _, _, h => by have := h.1; simp at this
  | x :: r, y :: r', o, o', h, hr => by
    obtain ⟨r0, hr'⟩ := hr.tail
    rw [addNew, addNew]
    refine addNew_par h1 h2 r r' _ _ ?_ hr'
    have iff : x ∈ o ↔ y ∈ o' := by
      constructor
      · intro hx
        obtain ⟨i, e⟩ := List.mem_iff_getElem?.mp hx
        obtain ⟨y', e', q⟩ := h.get e
        rw [h1 x y y' r0 q]
        exact List.mem_of_getElem? e'
      · intro hy
        obtain ⟨i, e⟩ := List.mem_iff_getElem?.mp hy
        have hi : i < o'.length := (List.getElem?_eq_some_iff.mp e).1
        have hi' : i < o.length := by rw [h.1]; exact hi
        have q := h.2 i _ _ (List.getElem?_eq_getElem hi') e
        rw [h2 x _ y r0 q]
        exact List.getElem_mem hi'
    by_cases hx : x ∈ o
    · rw [if_pos hx, if_pos (iff.mp hx)]; exact h
    · rw [if_neg hx, if_neg (fun hy => hx (iff.mpr hy))]
      exact h.snoc r0
theorem bfs_par {nx : α → List α} {nx' : β → List β} {R : α → β → Prop} (h1 : ∀ x y y', R x y → R x y' → y = y') (h2 : ∀ x x' y, R x y → R x' y → x = x') (hn : ∀ x y, R x y → Rl R (nx x) (nx' y)) :
    ∀ (f : Nat) (o : List α) (o' : List β) (i : Nat) (p : List α), Rl R o o' → bfs nx f o i = some p → ∃ p', bfs nx' f o' i = some p' ∧ Rl R p p'
  | 0, _, _, _, _, _, e => by cases e
  | f + 1, o, o', i, p, h, e => by
    rw [bfs] at e ⊢
    cases q : o[i]? with
    | none =>
      rw [q] at e
      cases e
      rw [h.none q]
      exact ⟨o', rfl, h⟩
    | some x =>
      rw [q] at e
      obtain ⟨y, e', r⟩ := h.get q
      rw [e']
      exact bfs_par h1 h2 hn f _ _ (i + 1) p (addNew_par h1 h2 _ _ _ _ h (hn x y r)) e
end

/-! ### tables -/
structure Tb where
  st : List (List Nat)
  to : List Bool
def Tb.nx (T : Tb) (q : Nat) : List Nat := T.st.getD q []
def Tb.acc (T : Tb) (q : Nat) : Bool := T.to.getD q false
def Tb.lang (T : Tb) (w : List Nat) : Bool := T.acc (go T.nx 0 w)
structure Tb.Ok (k : Nat) (T : Tb) : Prop where
  len : T.to.length = T.st.length
  pos : 0 < T.st.length
  row : ∀ r ∈ T.st, r.length = k
  lt : ∀ r ∈ T.st, ∀ q ∈ r, q < T.st.length
theorem Tb.Ok.nx_mem {k : Nat} {T : Tb} (h : T.Ok k) {q : Nat} (hq : q < T.st.length) : T.nx q ∈ T.st := by
  unfold Tb.nx
  rw [List.getD_eq_getElem?_getD, List.getElem?_eq_getElem hq]
  exact List.getElem_mem hq
theorem Tb.Ok.nx_len {k : Nat} {T : Tb} (h : T.Ok k) {q : Nat} (hq : q < T.st.length) : (T.nx q).length = k := h.row _ (h.nx_mem hq)
theorem Tb.Ok.nx_lt {k : Nat} {T : Tb} (h : T.Ok k) {q : Nat} (hq : q < T.st.length) : ∀ y ∈ T.nx q, y < T.st.length := h.lt _ (h.nx_mem hq)
theorem getD_mem {α : Type} {l : List α} {i : Nat} {d : α} (h : i < l.length) : l.getD i d ∈ l := by
  rw [List.getD_eq_getElem?_getD, List.getElem?_eq_getElem h]
  exact List.getElem_mem h
theorem getD_at {α : Type} {l : List α} {i : Nat} {d : α} (h : i < l.length) : l.getD i d = l[i] := by
  rw [List.getD_eq_getElem?_getD, List.getElem?_eq_getElem h] <;> rfl
theorem Tb.Ok.step_lt {k : Nat} {T : Tb} (h : T.Ok k) {q a : Nat} (hq : q < T.st.length) (ha : a < k) : (T.nx q).getD a q < T.st.length :=
  h.nx_lt hq _ (getD_mem (by rw [h.nx_len hq]; exact ha))
theorem Tb.Ok.go_lt {k : Nat} {T : Tb} (h : T.Ok k) : ∀ (w : List Nat) {q : Nat}, q < T.st.length → Wd k w → go T.nx q w < T.st.length
  | [], _, hq, _ => hq
  | _ :: w, _, hq, hw => h.go_lt w (h.step_lt hq hw.head) hw.tail
theorem nodup_lt {n : Nat} {l : List Nat} (hn : l.Nodup) (h : ∀ x ∈ l, x < n) : l.length ≤ n := by
  have := List.Nodup.length_le_of_subset hn (l₂ := List.range n) fun x hx => List.mem_range.mpr (h x hx)
  simpa using this

section
variable {α : Type} [DecidableEq α]
/-- the table of an order -/
def tabOf (nx : α → List α) (ok : α → Bool) (o : List α) : Tb := ⟨o.map fun x => (nx x).map fun y => o.idxOf y, o.map ok⟩
/-- an order that is whole: no state twice, closed, rows of k -/
structure Whole (k : Nat) (nx : α → List α) (o : List α) : Prop where
  nd : o.Nodup
  cl : ∀ x ∈ o, ∀ y ∈ nx x, y ∈ o
  row : ∀ x ∈ o, (nx x).length = k
variable {k : Nat} {nx : α → List α} {o : List α} {ok : α → Bool}
theorem idxOf_at {l : List α} {x : α} (h : x ∈ l) : l[l.idxOf x]? = some x := by
  have hl := List.idxOf_lt_length_iff.mpr h
  rw [List.getElem?_eq_getElem hl, List.getElem_idxOf hl]
theorem idxOf_of {l : List α} (hn : l.Nodup) {i : Nat} {x : α} (e : l[i]? = some x) : l.idxOf x = i := by
  have hx : x ∈ l := List.mem_of_getElem? e
  have hl := List.idxOf_lt_length_iff.mpr hx
  obtain ⟨hi, e'⟩ := List.getElem?_eq_some_iff.mp e
  exact (List.getElem_inj (h₀ := hl) (h₁ := hi) hn).mp (by rw [List.getElem_idxOf hl, e'])
theorem tabOf_nx {x : α} (h : x ∈ o) : (tabOf nx ok o).nx (o.idxOf x) = (nx x).map fun y => o.idxOf y := by
  have e : ((tabOf nx ok o).st)[o.idxOf x]? = some ((nx x).map fun y => o.idxOf y) := by
    show (o.map _)[o.idxOf x]? = _
    rw [List.getElem?_map, idxOf_at h] <;> rfl
  unfold Tb.nx
  rw [List.getD_eq_getElem?_getD, e]
  rfl
theorem tabOf_acc {x : α} (h : x ∈ o) : (tabOf nx ok o).acc (o.idxOf x) = ok x := by
  have e : ((tabOf nx ok o).to)[o.idxOf x]? = some (ok x) := by
    show (o.map _)[o.idxOf x]? = _
    rw [List.getElem?_map, idxOf_at h] <;> rfl
  unfold Tb.acc
  rw [List.getD_eq_getElem?_getD, e]
  rfl
theorem Whole.go_mem (W : Whole k nx o) : ∀ (w : List Nat) {x : α}, x ∈ o → Wd k w → go nx x w ∈ o
  | [], _, hx, _ => hx
  | a :: w, x, hx, hw => W.go_mem w (W.cl x hx _ (getD_mem (by rw [W.row x hx]; exact hw.head))) hw.tail
theorem Whole.go_tab (W : Whole k nx o) : ∀ (w : List Nat) {x : α}, x ∈ o → Wd k w → go (tabOf nx ok o).nx (o.idxOf x) w = o.idxOf (go nx x w)
  | [], _, _, _ => rfl
  | a :: w, x, hx, hw => by
    have ha : a < (nx x).length := by rw [W.row x hx]; exact hw.head
    have hm : (nx x).getD a x ∈ o := W.cl x hx _ (getD_mem ha)
    rw [go, go, ← W.go_tab w hm hw.tail, tabOf_nx hx]
    have e : ((nx x).map fun y => o.idxOf y).getD a (o.idxOf x) = o.idxOf ((nx x).getD a x) := by
      rw [getD_at ha, getD_at (by rw [List.length_map]; exact ha), List.getElem_map]
    rw [e]
theorem Whole.lang (W : Whole k nx o) {x : α} (h0 : o[0]? = some x) {w : List Nat} (hw : Wd k w) : (tabOf nx ok o).lang w = ok (go nx x w) := by
  have hx : x ∈ o := List.mem_of_getElem? h0
  have e0 : o.idxOf x = 0 := idxOf_of W.nd h0
  have := W.go_tab (ok := ok) w hx hw
  rw [e0] at this
  unfold Tb.lang
  rw [this, tabOf_acc (W.go_mem w hx hw)]
theorem Whole.tab_ok (W : Whole k nx o) (hp : 0 < o.length) : (tabOf nx ok o).Ok k := by
  refine ⟨by simp [tabOf], by simpa [tabOf] using hp, fun r hr => ?_, fun r hr q hq => ?_⟩
  · obtain ⟨x, hx, rfl⟩ := List.mem_map.mp hr
    rw [List.length_map]; exact W.row x hx
  · obtain ⟨x, hx, rfl⟩ := List.mem_map.mp hr
    obtain ⟨y, hy, rfl⟩ := List.mem_map.mp hq
    show o.idxOf y < (o.map _).length
    rw [List.length_map]
    exact List.idxOf_lt_length_iff.mpr (W.cl x hx y hy)
end
end LS
end
section
/-! Least tables: canonical form, its uniqueness, and the mirror of how the program makes it. -/
set_option autoImplicit false
set_option linter.all false
namespace LS

/-- the numbered table of the states that words come to -/
def reachedM (T : Tb) : Option (List Nat) := bfs T.nx (T.st.length + 1) [0] 0
def numberedM (T : Tb) : Option Tb := (reachedM T).map fun o => tabOf T.nx T.acc o

/-- canonical: numbered as words come to the states, no two states alike -/
structure Canon (k : Nat) (T : Tb) : Prop where
  ok : T.Ok k
  ord : reachedM T = some (List.range T.st.length)
  dist : ∀ p q, p < T.st.length → q < T.st.length → p ≠ q → ∃ w, Wd k w ∧ T.acc (go T.nx p w) ≠ T.acc (go T.nx q w)

/-- every state comes by a word -/
def Rch (k : Nat) (T : Tb) : Prop := ∀ q, q < T.st.length → ∃ w, Wd k w ∧ go T.nx 0 w = q

theorem getD_of_mem {α : Type} {l : List α} {x : α} (h : x ∈ l) (d : α) : ∃ i, i < l.length ∧ l.getD i d = x := by
  obtain ⟨i, e⟩ := List.mem_iff_getElem?.mp h
  obtain ⟨hi, e'⟩ := List.getElem?_eq_some_iff.mp e
  exact ⟨i, hi, by rw [getD_at hi, e']⟩

/-- what a walk from 0 finds -/
theorem reached_spec {k : Nat} {T : Tb} (h : T.Ok k) : ∃ o, reachedM T = some o ∧ Whole k T.nx o ∧ o[0]? = some 0 ∧ (∀ x ∈ o, x < T.st.length) ∧ ∀ x ∈ o, ∃ w, Wd k w ∧ go T.nx 0 w = x := by
  have hP : ∀ x, x < T.st.length → ∀ y ∈ T.nx x, y < T.st.length := fun x hx => h.nx_lt hx
  have h0 : ∀ x ∈ [0], x < T.st.length := fun x hx => by rw [List.mem_singleton] at hx; subst hx; exact h.pos
  obtain ⟨o, e⟩ := bfs_some (P := fun x => x < T.st.length) (N := T.st.length) hP (fun l hn hl => nodup_lt hn hl) (T.st.length + 1) [0] 0 (by simp) h0 (by simp) (by omega)
  have hQ : ∀ x, (x < T.st.length ∧ ∃ w, Wd k w ∧ go T.nx 0 w = x) → ∀ y ∈ T.nx x, (y < T.st.length ∧ ∃ w, Wd k w ∧ go T.nx 0 w = y) := by
    rintro x ⟨hx, w, hw, e⟩ y hy
    refine ⟨h.nx_lt hx y hy, ?_⟩
    obtain ⟨a, ha, ea⟩ := getD_of_mem hy x
    rw [h.nx_len hx] at ha
    refine ⟨w ++ [a], hw.app (Wd.nil.cons ha), ?_⟩
    rw [go_app, e]
    exact ea
  obtain ⟨h1, ⟨t, h2⟩, h3, h4⟩ := bfs_spec hQ _ _ _ _ e (by simp) (fun x hx => ⟨h0 x hx, by rw [List.mem_singleton] at hx; subst hx; exact ⟨[], Wd.nil, rfl⟩⟩) (fun j x hj _ => absurd hj (by omega))
  exact ⟨o, e, ⟨h1, h4, fun x hx => h.nx_len (h3 x hx).1⟩, by rw [h2]; rfl, fun x hx => (h3 x hx).1, fun x hx => (h3 x hx).2⟩

theorem Canon.rch {k : Nat} {T : Tb} (c : Canon k T) : Rch k T := fun q hq => by
  obtain ⟨o, e, _, _, _, h⟩ := reached_spec c.ok
  rw [c.ord] at e
  cases e
  exact h q (List.mem_range.mpr hq)

/-- two canonical tables that tell the same words are one -/
theorem canon_unique {k : Nat} {T T' : Tb} (c : Canon k T) (c' : Canon k T') (e : ∀ w, Wd k w → T.lang w = T'.lang w) : T = T' := by
  let R : Nat → Nat → Prop := fun q q' => ∃ w, Wd k w ∧ go T.nx 0 w = q ∧ go T'.nx 0 w = q'
  have lt1 : ∀ {q q'}, R q q' → q < T.st.length := fun {q q'} ⟨w, hw, e1, _⟩ => e1 ▸ c.ok.go_lt w c.ok.pos hw
  have lt2 : ∀ {q q'}, R q q' → q' < T'.st.length := fun {q q'} ⟨w, hw, _, e2⟩ => e2 ▸ c'.ok.go_lt w c'.ok.pos hw
  have same : ∀ {q q'}, R q q' → ∀ v, Wd k v → T.acc (go T.nx q v) = T'.acc (go T'.nx q' v) := by
    rintro q q' ⟨w, hw, e1, e2⟩ v hv
    have := e (w ++ v) (hw.app hv)
    unfold Tb.lang at this
    rw [go_app, go_app, e1, e2] at this
    exact this
  have h1 : ∀ x y y', R x y → R x y' → y = y' := fun x y y' r r' => by
    apply Classical.byContradiction
    intro ne
    obtain ⟨v, hv, d⟩ := c'.dist y y' (lt2 r) (lt2 r') ne
    exact d (by rw [← same r v hv, ← same r' v hv])
  have h2 : ∀ x x' y, R x y → R x' y → x = x' := fun x x' y r r' => by
    apply Classical.byContradiction
    intro ne
    obtain ⟨v, hv, d⟩ := c.dist x x' (lt1 r) (lt1 r') ne
    exact d (by rw [same r v hv, same r' v hv])
  have hn : ∀ x y, R x y → Rl R (T.nx x) (T'.nx y) := fun x y r => by
    refine ⟨by rw [c.ok.nx_len (lt1 r), c'.ok.nx_len (lt2 r)], fun a p q e1 e2 => ?_⟩
    obtain ⟨w, hw, z1, z2⟩ := r
    have ha : a < k := by
      have := (List.getElem?_eq_some_iff.mp e1).1
      rw [c.ok.nx_len (lt1 ⟨w, hw, z1, z2⟩)] at this
      exact this
    refine ⟨w ++ [a], hw.app (Wd.nil.cons ha), ?_, ?_⟩
    · rw [go_app, z1]
      show (T.nx x).getD a x = p
      rw [List.getD_eq_getElem?_getD, e1] <;> rfl
    · rw [go_app, z2]
      show (T'.nx y).getD a y = q
      rw [List.getD_eq_getElem?_getD, e2] <;> rfl
  have r0 : Rl R [0] [0] := ⟨rfl, fun i x y e1 e2 => by
    cases i with
    | zero => simp at e1 e2; subst e1; subst e2; exact ⟨[], Wd.nil, rfl, rfl⟩
    | succ i => simp at e1⟩
  obtain ⟨p', e1, rl⟩ := bfs_par h1 h2 hn _ _ _ _ _ r0 c.ord
  have e2 : p' = List.range T'.st.length := by
    have a := bfs_mono _ (T.st.length + 1 + (T'.st.length + 1)) _ _ _ e1 (by omega)
    have b := bfs_mono _ (T.st.length + 1 + (T'.st.length + 1)) _ _ _ c'.ord (by omega)
    rw [a] at b
    exact Option.some.inj b
  subst e2
  have el : T.st.length = T'.st.length := by simpa using rl.1
  have rr : ∀ j, j < T.st.length → R j j := fun j hj => rl.2 j j j (by simp [hj]) (by simp [← el, hj])
  have rid : ∀ x y, R x y → y = x := fun x y r => h1 x y x r (rr x (lt1 r))
  have est : T.st = T'.st := by
    apply List.ext_getElem el
    intro i hi hi'
    have a := hn i i (rr i hi)
    have e3 : T.nx i = T.st[i] := getD_at hi
    have e4 : T'.nx i = T'.st[i] := getD_at hi'
    rw [e3, e4] at a
    apply List.ext_getElem a.1
    intro j hj hj'
    exact (rid _ _ (a.2 j _ _ (List.getElem?_eq_getElem hj) (List.getElem?_eq_getElem hj'))).symm
  have eto : T.to = T'.to := by
    apply List.ext_getElem (by rw [c.ok.len, c'.ok.len, el])
    intro i hi hi'
    have a := same (rr i (by rw [← c.ok.len]; exact hi)) [] Wd.nil
    have e3 : T.acc i = T.to[i] := getD_at hi
    have e4 : T'.acc i = T'.to[i] := getD_at hi'
    show T.to[i] = T'.to[i]
    rw [← e3, ← e4]
    exact a
  cases T
  cases T'
  cases est
  cases eto
  rfl

/-- no table of the words has fewer states -/
theorem Canon.least {k : Nat} {T T' : Tb} (c : Canon k T) (h : T'.Ok k) (e : ∀ w, Wd k w → T.lang w = T'.lang w) : T.st.length ≤ T'.st.length := by
  have ch : ∀ q, ∃ w, q < T.st.length → (Wd k w ∧ go T.nx 0 w = q) := fun q => by
    by_cases hq : q < T.st.length
    · obtain ⟨w, hw⟩ := c.rch q hq
      exact ⟨w, fun _ => hw⟩
    · exact ⟨[], fun z => absurd z hq⟩
  have inj : ∀ p q, p < T.st.length → q < T.st.length → go T'.nx 0 (Classical.choose (ch p)) = go T'.nx 0 (Classical.choose (ch q)) → p = q := fun p q hp hq ee => by
    apply Classical.byContradiction
    intro ne
    obtain ⟨v, hv, d⟩ := c.dist p q hp hq ne
    obtain ⟨hw, e1⟩ := Classical.choose_spec (ch p) hp
    obtain ⟨hw', e2⟩ := Classical.choose_spec (ch q) hq
    apply d
    have a := e (Classical.choose (ch p) ++ v) (hw.app hv)
    have b := e (Classical.choose (ch q) ++ v) (hw'.app hv)
    unfold Tb.lang at a b
    rw [go_app, go_app, e1] at a
    rw [go_app, go_app, e2] at b
    rw [a, b, ee]
  have hn : ((List.range T.st.length).map fun p => go T'.nx 0 (Classical.choose (ch p))).Nodup := by
    unfold List.Nodup
    rw [List.pairwise_map]
    refine List.Pairwise.imp_of_mem ?_ (List.nodup_range (n := T.st.length))
    intro a b ha hb hab z
    exact hab (inj a b (List.mem_range.mp ha) (List.mem_range.mp hb) z)
  have := nodup_lt (n := T'.st.length) hn fun x hx => by
    obtain ⟨p, hp, rfl⟩ := List.mem_map.mp hx
    exact h.go_lt _ h.pos (Classical.choose_spec (ch p) (List.mem_range.mp hp)).1
  simpa using this

/-- the numbered table of a table whose states are all unlike -/
theorem numbered_spec {k : Nat} {T : Tb} (h : T.Ok k) : ∃ T', numberedM T = some T' ∧ T'.Ok k ∧ Rch k T' ∧ (∀ w, Wd k w → T'.lang w = T.lang w) ∧ reachedM T' = some (List.range T'.st.length) ∧
    ((∀ p q, p < T.st.length → q < T.st.length → p ≠ q → ∃ w, Wd k w ∧ T.acc (go T.nx p w) ≠ T.acc (go T.nx q w)) →
      ∀ p q, p < T'.st.length → q < T'.st.length → p ≠ q → ∃ w, Wd k w ∧ T'.acc (go T'.nx p w) ≠ T'.acc (go T'.nx q w)) := by
  obtain ⟨o, e, W, h0, hlt, hr⟩ := reached_spec h
  have hpos : 0 < o.length := (List.getElem?_eq_some_iff.mp h0).1
  have len : (tabOf T.nx T.acc o).st.length = o.length := by simp [tabOf]
  have ok' := W.tab_ok (ok := T.acc) hpos
  refine ⟨tabOf T.nx T.acc o, by rw [numberedM, e] <;> rfl, ok', fun q hq => ?_, fun w hw => W.lang h0 hw, ?_, fun hd p q hp hq ne => ?_⟩
  · rw [len] at hq
    have hx : o[q] ∈ o := List.getElem_mem hq
    obtain ⟨w, hw, ew⟩ := hr _ hx
    refine ⟨w, hw, ?_⟩
    have z0 : (0 : Nat) ∈ o := List.mem_of_getElem? h0
    have e0 : o.idxOf 0 = 0 := idxOf_of W.nd h0
    have := W.go_tab (ok := T.acc) w z0 hw
    rw [e0, ew] at this
    rw [this]
    exact idxOf_of W.nd (List.getElem?_eq_getElem hq)
  · -- the walk through the numbered table
    let R : Nat → Nat → Prop := fun x j => o[j]? = some x
    have r0 : Rl R [0] [0] := ⟨rfl, fun i x y e1 e2 => by
      cases i with
      | zero => simp at e1 e2; subst e1; subst e2; exact h0
      | succ i => simp at e1⟩
    obtain ⟨p', e1, rl⟩ := bfs_par (R := R) (nx := T.nx) (nx' := (tabOf T.nx T.acc o).nx) (fun x y y' r r' => by rw [← idxOf_of W.nd r, idxOf_of W.nd r']) (fun x x' y r r' => by
        have r1 : o[y]? = some x := r
        have r2 : o[y]? = some x' := r'
        rw [r1] at r2; exact Option.some.inj r2) (fun x y r => by
        have hx : x ∈ o := List.mem_of_getElem? r
        have ey : o.idxOf x = y := idxOf_of W.nd r
        have en := tabOf_nx (nx := T.nx) (ok := T.acc) hx
        rw [ey] at en
        rw [en]
        refine ⟨by simp, fun i a b z1 z2 => ?_⟩
        rw [List.getElem?_map, z1] at z2
        have zb : b = o.idxOf a := (Option.some.inj z2).symm
        show o[b]? = some a
        rw [zb]
        exact idxOf_at (W.cl x hx a (List.mem_of_getElem? z1))) _ _ _ _ _ r0 e
    have ep : p' = List.range o.length := by
      apply List.ext_getElem (by rw [← rl.1]; simp)
      intro i hi hi'
      have hio : i < o.length := by rw [rl.1]; exact hi
      have z : o[p'[i]]? = some o[i] := rl.2 i _ _ (List.getElem?_eq_getElem hio) (List.getElem?_eq_getElem hi)
      have z1 := idxOf_of W.nd z
      have z2 := idxOf_of W.nd (List.getElem?_eq_getElem hio)
      rw [List.getElem_range]
      omega
    rw [ep] at e1
    obtain ⟨o2, e2, _⟩ := reached_spec ok'
    have a := bfs_mono _ (T.st.length + 1 + ((tabOf T.nx T.acc o).st.length + 1)) _ _ _ e1 (by omega)
    have b := bfs_mono _ (T.st.length + 1 + ((tabOf T.nx T.acc o).st.length + 1)) _ _ _ e2 (by omega)
    rw [a] at b
    rw [e2, ← Option.some.inj b, len]
  · rw [len] at hp hq
    have hxp : o[p] ∈ o := List.getElem_mem hp
    have hxq : o[q] ∈ o := List.getElem_mem hq
    have ep : o.idxOf o[p] = p := idxOf_of W.nd (List.getElem?_eq_getElem hp)
    have eq' : o.idxOf o[q] = q := idxOf_of W.nd (List.getElem?_eq_getElem hq)
    obtain ⟨w, hw, d⟩ := hd o[p] o[q] (hlt _ hxp) (hlt _ hxq) fun z => ne (by rw [← ep, ← eq', z])
    refine ⟨w, hw, ?_⟩
    have gp := W.go_tab (ok := T.acc) w hxp hw
    have gq := W.go_tab (ok := T.acc) w hxq hw
    rw [ep] at gp
    rw [eq'] at gq
    rw [gp, gq, tabOf_acc (W.go_mem w hxp hw), tabOf_acc (W.go_mem w hxq hw)]
    exact d
end LS
end
section
/-! Which states are alike: the marks, and the least table. -/
set_option autoImplicit false
set_option linter.all false
namespace LS

/-- the first of each -/
def uniq {α : Type} [DecidableEq α] (l : List α) : List α := addNew [] l
theorem uniq_nodup {α : Type} [DecidableEq α] (l : List α) : (uniq l).Nodup := nodup_addNew l [] List.nodup_nil
theorem mem_uniq {α : Type} [DecidableEq α] {l : List α} {x : α} : x ∈ uniq l ↔ x ∈ l := by
  unfold uniq
  rw [mem_addNew]
  simp
theorem uniq_len {α : Type} [DecidableEq α] (l : List α) : (uniq l).length ≤ l.length :=
  List.Nodup.length_le_of_subset (uniq_nodup l) fun _ hx => mem_uniq.mp hx

abbrev ixOf {κ : Type} [DecidableEq κ] (l : List κ) (x : κ) : Nat := l.idxOf x
theorem ixOf_lt {κ : Type} [DecidableEq κ] {l : List κ} {x : κ} (h : x ∈ l) : ixOf l x < l.length := List.idxOf_lt_length_iff.mpr h
section
variable {κ : Type} [DecidableEq κ]
/-- the numbers of keys, as a dict gives them out -/
def ranks (known : List κ) : List κ → List Nat
  | [] => []
  | x :: r => (if x ∈ known then known.idxOf x else known.length) :: ranks (if x ∈ known then known else known ++ [x]) r
theorem idxOf_pre {o t : List κ} {x : κ} (h : x ∈ o) : (o ++ t).idxOf x = o.idxOf x := by
  rw [List.idxOf_append, if_pos h]
theorem ranks_eq : ∀ (l known : List κ), ranks known l = l.map fun x => (addNew known l).idxOf x
  | [], _ => rfl
  | x :: r, known => by
    rw [ranks, List.map_cons, ranks_eq r]
    congr 1
    obtain ⟨t, e⟩ := addNew_pre r (if x ∈ known then known else known ++ [x])
    rw [addNew, e]
    by_cases h : x ∈ known
    · rw [if_pos h, if_pos h, idxOf_pre h]
    · rw [if_neg h, if_neg h, List.append_assoc, List.idxOf_append, if_neg h]
      simp
end

def keyOf (st : List (List Nat)) (marks : List Nat) (q : Nat) : Nat × List Nat := (marks.getD q 0, (st.getD q []).map fun y => marks.getD y 0)
def keys (st : List (List Nat)) (marks : List Nat) : List (Nat × List Nat) := (List.range st.length).map (keyOf st marks)
def refineM (st : List (List Nat)) (marks : List Nat) : List Nat := ranks [] (keys st marks)
def partsLoop (st : List (List Nat)) : Nat → List Nat → Nat → Option (List Nat)
  | 0, _, _ => none
  | f + 1, marks, many => if many < (uniq marks).length then partsLoop st f (refineM st marks) (uniq marks).length else some marks
def b2n (b : Bool) : Nat := if b = true then 1 else 0
def partsM (T : Tb) : Option (List Nat) := partsLoop T.st (T.st.length + 2) (T.to.map b2n) 0
def firstM (marks : List Nat) : List Nat := (List.range (uniq marks).length).map fun m => marks.idxOf m
def classTb (T : Tb) (marks : List Nat) : Tb := ⟨(firstM marks).map fun s => (T.st.getD s []).map fun y => marks.getD y 0, (firstM marks).map fun s => T.to.getD s false⟩
def leastM (T : Tb) : Option Tb := (numberedM T).bind fun T1 => (partsM T1).bind fun marks => numberedM (classTb T1 marks)

section
variable {st : List (List Nat)} {marks : List Nat} {n : Nat}
theorem keys_len : (keys st marks).length = st.length := by simp [keys]
theorem keys_at {q : Nat} (h : q < st.length) : (keys st marks)[q]? = some (keyOf st marks q) := by
  unfold keys
  rw [List.getElem?_map, List.getElem?_range h] <;> rfl
theorem refine_len : (refineM st marks).length = st.length := by
  unfold refineM
  rw [ranks_eq, List.length_map, keys_len]
theorem refine_at {q : Nat} (h : q < st.length) : (refineM st marks).getD q 0 = ixOf (uniq (keys st marks)) (keyOf st marks q) := by
  unfold refineM
  rw [ranks_eq, List.getD_eq_getElem?_getD, List.getElem?_map, keys_at h]
  rfl
theorem key_mem {q : Nat} (h : q < st.length) : keyOf st marks q ∈ uniq (keys st marks) := mem_uniq.mpr (List.mem_of_getElem? (keys_at h))
theorem idxOf_inj {κ : Type} [DecidableEq κ] {l : List κ} {x y : κ} (hx : x ∈ l) (hy : y ∈ l) (e : ixOf l x = ixOf l y) : x = y := by
  have a : l[ixOf l x]? = some x := idxOf_at hx
  have b : l[ixOf l y]? = some y := idxOf_at hy
  rw [e] at a
  rw [a] at b
  exact Option.some.inj b
theorem refine_eq {p q : Nat} (hp : p < st.length) (hq : q < st.length) : (refineM st marks).getD p 0 = (refineM st marks).getD q 0 ↔ keyOf st marks p = keyOf st marks q := by
  rw [refine_at hp, refine_at hq]
  exact ⟨fun e => idxOf_inj (key_mem hp) (key_mem hq) e, fun e => by rw [e]⟩
/-- the numbers are just 0, 1, .. -/
theorem mem_refine {m : Nat} : m ∈ refineM st marks ↔ m < (uniq (keys st marks)).length := by
  unfold refineM
  rw [ranks_eq, List.mem_map]
  constructor
  · rintro ⟨x, hx, rfl⟩
    exact ixOf_lt (mem_uniq.mpr hx)
  · intro h
    refine ⟨(uniq (keys st marks))[m], mem_uniq.mp (List.getElem_mem h), ?_⟩
    exact idxOf_of (uniq_nodup _) (List.getElem?_eq_getElem h)
theorem refine_count : (uniq (refineM st marks)).length = (uniq (keys st marks)).length := by
  have p : (uniq (refineM st marks)).Perm (List.range (uniq (keys st marks)).length) :=
    (List.perm_ext_iff_of_nodup (uniq_nodup _) List.nodup_range).mpr fun a => by rw [mem_uniq, mem_refine, List.mem_range]
  rw [p.length_eq, List.length_range]
end

/-- what marks say of states: unlike marks part states by a word, like marks are told alike -/
structure Mk (k : Nat) (T : Tb) (marks : List Nat) : Prop where
  len : marks.length = T.st.length
  sep : ∀ p q, p < T.st.length → q < T.st.length → marks.getD p 0 ≠ marks.getD q 0 → ∃ w, Wd k w ∧ T.acc (go T.nx p w) ≠ T.acc (go T.nx q w)
  acc : ∀ p q, p < T.st.length → q < T.st.length → marks.getD p 0 = marks.getD q 0 → T.acc p = T.acc q
section
variable {k : Nat} {T : Tb} {marks : List Nat}
theorem mk_start (h : T.Ok k) : Mk k T (T.to.map b2n) := by
  have e : ∀ q, q < T.st.length → (T.to.map b2n).getD q 0 = b2n (T.acc q) := fun q hq => by
    have hq' : q < T.to.length := by rw [h.len]; exact hq
    rw [getD_at (by rw [List.length_map]; exact hq'), List.getElem_map]
    unfold Tb.acc
    rw [getD_at hq']
  refine ⟨by rw [List.length_map, h.len], fun p q hp hq d => ⟨[], Wd.nil, fun z => d ?_⟩, fun p q hp hq z => ?_⟩
  · rw [e p hp, e q hq]
    exact congrArg b2n z
  · rw [e p hp, e q hq] at z
    revert z
    cases T.acc p <;> cases T.acc q <;> simp [b2n]
theorem map_getD {l : List Nat} {marks : List Nat} {a d : Nat} (h : a < l.length) : (l.map fun y => marks.getD y 0).getD a d = marks.getD (l.getD a d) 0 := by
  rw [getD_at (by rw [List.length_map]; exact h), List.getElem_map, getD_at h]
theorem key_step (h : T.Ok k) {p q a : Nat} (hp : p < T.st.length) (hq : q < T.st.length) (ha : a < k) (e : keyOf T.st marks p = keyOf T.st marks q) : marks.getD ((T.nx p).getD a p) 0 = marks.getD ((T.nx q).getD a q) 0 := by
  have e2 : (T.nx p).map (fun y => marks.getD y 0) = (T.nx q).map fun y => marks.getD y 0 := congrArg Prod.snd e
  have hap : a < (T.nx p).length := by rw [h.nx_len hp]; exact ha
  have haq : a < (T.nx q).length := by rw [h.nx_len hq]; exact ha
  have e3 := congrArg (fun l => l.getD a 0) e2
  have e3' : ((T.nx p).map fun y => marks.getD y 0).getD a 0 = ((T.nx q).map fun y => marks.getD y 0).getD a 0 := e3
  rw [map_getD hap, map_getD haq, getD_at hap, getD_at haq] at e3'
  rw [getD_at hap, getD_at haq]
  exact e3'
theorem mk_refine (h : T.Ok k) (m : Mk k T marks) : Mk k T (refineM T.st marks) := by
  refine ⟨refine_len, fun p q hp hq d => ?_, fun p q hp hq e => ?_⟩
  · rw [Ne, refine_eq hp hq] at d
    by_cases e1 : marks.getD p 0 = marks.getD q 0
    · have d2 : (T.nx p).map (fun y => marks.getD y 0) ≠ (T.nx q).map fun y => marks.getD y 0 := fun z => d (Prod.ext e1 z)
      have : ∃ a, a < k ∧ marks.getD ((T.nx p).getD a p) 0 ≠ marks.getD ((T.nx q).getD a q) 0 := by
        apply Classical.byContradiction
        intro no
        apply d2
        apply List.ext_getElem (by rw [List.length_map, List.length_map, h.nx_len hp, h.nx_len hq])
        intro a h1 h2
        rw [List.length_map] at h1 h2
        rw [List.getElem_map, List.getElem_map]
        apply Classical.byContradiction
        intro ne
        refine no ⟨a, by rw [← h.nx_len hp]; exact h1, ?_⟩
        rw [getD_at h1, getD_at h2]
        exact ne
      obtain ⟨a, ha, ne⟩ := this
      obtain ⟨w, hw, dd⟩ := m.sep _ _ (h.step_lt hp ha) (h.step_lt hq ha) ne
      exact ⟨a :: w, hw.cons ha, dd⟩
    · exact m.sep p q hp hq e1
  · rw [refine_eq hp hq] at e
    exact m.acc p q hp hq (congrArg Prod.fst e)
/-- no more marks than ahead: nothing was parted -/
theorem refine_stable {prev : List Nat} (hl : prev.length = T.st.length) (hc : (uniq (refineM T.st prev)).length ≤ (uniq prev).length) {p q : Nat} (hp : p < T.st.length) (hq : q < T.st.length) (e : prev.getD p 0 = prev.getD q 0) :
    (refineM T.st prev).getD p 0 = (refineM T.st prev).getD q 0 := by
  rw [refine_eq hp hq]
  apply Classical.byContradiction
  intro ne
  have hm : keyOf T.st prev q ∈ uniq (keys T.st prev) := key_mem hq
  have sub : uniq prev ⊆ ((uniq (keys T.st prev)).erase (keyOf T.st prev q)).map Prod.fst := fun v hv => by
    obtain ⟨i, hi, rfl⟩ := getD_of_mem (mem_uniq.mp hv) 0
    rw [hl] at hi
    rw [List.mem_map]
    by_cases z : keyOf T.st prev i = keyOf T.st prev q
    · refine ⟨keyOf T.st prev p, (uniq_nodup _).mem_erase_iff.mpr ⟨ne, key_mem hp⟩, ?_⟩
      have : prev.getD i 0 = prev.getD q 0 := congrArg Prod.fst z
      rw [this]
      exact e
    · exact ⟨keyOf T.st prev i, (uniq_nodup _).mem_erase_iff.mpr ⟨z, key_mem hi⟩, rfl⟩
  have a := List.Nodup.length_le_of_subset (uniq_nodup prev) sub
  rw [List.length_map, List.length_erase_of_mem hm] at a
  rw [refine_count] at hc
  have : 0 < (uniq (keys T.st prev)).length := List.length_pos_of_mem hm
  omega
theorem loop_spec (h : T.Ok k) : ∀ (f : Nat) (prev : List Nat), Mk k T prev → T.st.length + 1 ≤ f + (uniq prev).length →
    ∃ prev', partsLoop T.st f (refineM T.st prev) (uniq prev).length = some (refineM T.st prev') ∧ Mk k T prev' ∧ (uniq (refineM T.st prev')).length ≤ (uniq prev').length
  | 0, prev, m, hf => by
    have := uniq_len prev
    rw [m.len] at this
    omega
  | f + 1, prev, m, hf => by
    rw [partsLoop]
    by_cases c : (uniq prev).length < (uniq (refineM T.st prev)).length
    · rw [if_pos c]
      exact loop_spec h f _ (mk_refine h m) (by omega)
    · rw [if_neg c]
      exact ⟨prev, rfl, m, by omega⟩
theorem parts_spec (h : T.Ok k) : ∃ prev, partsM T = some (refineM T.st prev) ∧ Mk k T prev ∧ (uniq (refineM T.st prev)).length ≤ (uniq prev).length := by
  have m0 := mk_start h
  have hpos : 0 < (uniq (T.to.map b2n)).length := by
    apply List.length_pos_of_mem (a := (T.to.map b2n).getD 0 0)
    rw [mem_uniq]
    exact getD_mem (by rw [m0.len]; exact h.pos)
  unfold partsM
  rw [partsLoop, if_pos hpos]
  exact loop_spec h _ _ m0 (by omega)

/-- the table of the classes -/
theorem class_spec (h : T.Ok k) (hr : Rch k T) (m : Mk k T marks) (hc : (uniq (refineM T.st marks)).length ≤ (uniq marks).length) :
    (classTb T (refineM T.st marks)).Ok k ∧ (∀ w, Wd k w → (classTb T (refineM T.st marks)).lang w = T.lang w) ∧
      ∀ p q, p < (classTb T (refineM T.st marks)).st.length → q < (classTb T (refineM T.st marks)).st.length → p ≠ q → ∃ w, Wd k w ∧ (classTb T (refineM T.st marks)).acc (go (classTb T (refineM T.st marks)).nx p w) ≠ (classTb T (refineM T.st marks)).acc (go (classTb T (refineM T.st marks)).nx q w) := by
  have m' := mk_refine h m
  have len : (classTb T (refineM T.st marks)).st.length = (uniq (keys T.st marks)).length := by simp [classTb, firstM, refine_count]
  -- a mark's first state
  have fst : ∀ c, c < (uniq (keys T.st marks)).length → (refineM T.st marks).idxOf c < T.st.length ∧ (refineM T.st marks).getD ((refineM T.st marks).idxOf c) 0 = c := fun c hc => by
    have hm : c ∈ refineM T.st marks := mem_refine.mpr hc
    have hl := List.idxOf_lt_length_iff.mpr hm
    refine ⟨by rw [refine_len] at hl; exact hl, ?_⟩
    rw [List.getD_eq_getElem?_getD, idxOf_at hm] <;> rfl
  have mlt : ∀ q, q < T.st.length → (refineM T.st marks).getD q 0 < (uniq (keys T.st marks)).length := fun q hq =>
    mem_refine.mp (getD_mem (by rw [refine_len]; exact hq))
  have cnx : ∀ c, c < (uniq (keys T.st marks)).length → (classTb T (refineM T.st marks)).nx c = (T.nx ((refineM T.st marks).idxOf c)).map fun y => (refineM T.st marks).getD y 0 := fun c hc => by
    unfold Tb.nx
    have e : (classTb T (refineM T.st marks)).st[c]? = some ((T.st.getD ((refineM T.st marks).idxOf c) []).map fun y => (refineM T.st marks).getD y 0) := by
      unfold classTb firstM
      rw [List.getElem?_map, List.getElem?_map, List.getElem?_range (show c < (uniq (refineM T.st marks)).length by rw [refine_count]; exact hc)] <;> rfl
    rw [List.getD_eq_getElem?_getD, e] <;> rfl
  have cacc : ∀ c, c < (uniq (keys T.st marks)).length → (classTb T (refineM T.st marks)).acc c = T.acc ((refineM T.st marks).idxOf c) := fun c hc => by
    unfold Tb.acc
    have e : (classTb T (refineM T.st marks)).to[c]? = some (T.to.getD ((refineM T.st marks).idxOf c) false) := by
      unfold classTb firstM
      rw [List.getElem?_map, List.getElem?_map, List.getElem?_range (show c < (uniq (refineM T.st marks)).length by rw [refine_count]; exact hc)] <;> rfl
    rw [List.getD_eq_getElem?_getD, e] <;> rfl
  -- alike states go on alike
  have step : ∀ p q a, p < T.st.length → q < T.st.length → a < k → (refineM T.st marks).getD p 0 = (refineM T.st marks).getD q 0 →
      (refineM T.st marks).getD ((T.nx p).getD a p) 0 = (refineM T.st marks).getD ((T.nx q).getD a q) 0 := fun p q a hp hq ha e => by
    refine refine_stable m.len hc (h.step_lt hp ha) (h.step_lt hq ha) ?_
    exact key_step h hp hq ha ((refine_eq hp hq).mp e)
  have cgo : ∀ (w : List Nat) (q : Nat), q < T.st.length → Wd k w → go (classTb T (refineM T.st marks)).nx ((refineM T.st marks).getD q 0) w = (refineM T.st marks).getD (go T.nx q w) 0 := by
    intro w
    induction w with
    | nil => intro q _ _; rfl
    | cons a w ih =>
      intro q hq hw
      have ha := hw.head
      have hc' := mlt q hq
      obtain ⟨f1, f2⟩ := fst _ hc'
      rw [go, go, cnx _ hc']
      have hal : a < (T.nx ((refineM T.st marks).idxOf ((refineM T.st marks).getD q 0))).length := by rw [h.nx_len f1]; exact ha
      have e1 : ((T.nx ((refineM T.st marks).idxOf ((refineM T.st marks).getD q 0))).map fun y => (refineM T.st marks).getD y 0).getD a ((refineM T.st marks).getD q 0) = (refineM T.st marks).getD ((T.nx q).getD a q) 0 := by
        rw [getD_at (by rw [List.length_map]; exact hal), List.getElem_map, ← getD_at (d := (refineM T.st marks).idxOf ((refineM T.st marks).getD q 0)) hal]
        exact step _ _ a f1 hq ha f2
      rw [e1]
      exact ih _ (h.step_lt hq ha) hw.tail
  have cac : ∀ q, q < T.st.length → (classTb T (refineM T.st marks)).acc ((refineM T.st marks).getD q 0) = T.acc q := fun q hq => by
    obtain ⟨f1, f2⟩ := fst _ (mlt q hq)
    rw [cacc _ (mlt q hq)]
    exact m'.acc _ _ f1 hq f2
  have zero : (refineM T.st marks).getD 0 0 = 0 := by
    rw [refine_at h.pos]
    refine idxOf_of (uniq_nodup _) ?_
    have k0 := keys_at (marks := marks) h.pos
    cases e : keys T.st marks with
    | nil => rw [e] at k0; simp at k0
    | cons x r =>
      rw [e] at k0
      obtain ⟨t, et⟩ := addNew_pre r [x]
      have : uniq (x :: r) = [x] ++ t := by
        unfold uniq
        rw [addNew, if_neg (by simp)]
        exact et
      rw [this]
      simpa using k0
  refine ⟨⟨by simp [classTb], ?_, fun r hr' => ?_, fun r hr' q hq => ?_⟩, fun w hw => ?_, fun p q hp hq ne => ?_⟩
  · rw [len]
    exact Nat.lt_of_le_of_lt (Nat.zero_le _) (mlt 0 h.pos)
  · obtain ⟨s, hs, rfl⟩ := List.mem_map.mp hr'
    obtain ⟨c, hc', rfl⟩ := List.mem_map.mp hs
    rw [List.mem_range, refine_count] at hc'
    rw [List.length_map]
    exact h.nx_len (fst c hc').1
  · rw [len]
    obtain ⟨s, hs, rfl⟩ := List.mem_map.mp hr'
    obtain ⟨c, hc', rfl⟩ := List.mem_map.mp hs
    rw [List.mem_range, refine_count] at hc'
    obtain ⟨y, hy, rfl⟩ := List.mem_map.mp hq
    exact mlt y (h.nx_lt (fst c hc').1 y hy)
  · have e := cgo w 0 h.pos hw
    rw [zero] at e
    unfold Tb.lang
    rw [e]
    exact cac _ (h.go_lt w h.pos hw)
  · rw [len] at hp hq
    obtain ⟨p1, p2⟩ := fst p hp
    obtain ⟨q1, q2⟩ := fst q hq
    obtain ⟨w, hw, d⟩ := m'.sep _ _ p1 q1 (by rw [p2, q2]; exact ne)
    refine ⟨w, hw, ?_⟩
    have a := cgo w _ p1 hw
    have b := cgo w _ q1 hw
    rw [p2] at a
    rw [q2] at b
    rw [a, b, cac _ (h.go_lt w p1 hw), cac _ (h.go_lt w q1 hw)]
    exact d

/-- THE LEAST TABLE: it is made, it is canonical, it tells the same words -/
theorem least_spec (h : T.Ok k) : ∃ T', leastM T = some T' ∧ Canon k T' ∧ ∀ w, Wd k w → T'.lang w = T.lang w := by
  obtain ⟨T1, e1, ok1, r1, l1, _, _⟩ := numbered_spec h
  obtain ⟨prev, e2, m, hc⟩ := parts_spec ok1
  obtain ⟨ok2, l2, d2⟩ := class_spec ok1 r1 m hc
  obtain ⟨T', e3, ok3, _, l3, o3, d3⟩ := numbered_spec ok2
  refine ⟨T', ?_, ⟨ok3, o3, d3 d2⟩, fun w hw => ?_⟩
  · unfold leastM
    rw [e1]
    show (partsM T1).bind _ = _
    rw [e2]
    exact e3
  · rw [l3 w hw, l2 w hw, l1 w hw]
end
end LS
end
section
/-! Two tables side by side, the mirrored table, counting. -/
set_option autoImplicit false
set_option linter.all false
namespace LS

section
variable {α : Type} [DecidableEq α]
theorem addNew_app : ∀ (l r o : List α), addNew o (l ++ r) = addNew (addNew o l) r
  | [], _, _ => rfl
  | x :: l, r, o => by rw [List.cons_append, addNew, addNew, addNew_app l]
theorem addNew_snoc (l o : List α) (x : α) : addNew o (l ++ [x]) = if x ∈ addNew o l then addNew o l else addNew o l ++ [x] := by
  rw [addNew_app, addNew, addNew]
/-- the rows of the first i states of an order -/
def rowsOf (nx : α → List α) (o : List α) (i : Nat) : List (List Nat) := (o.take i).map fun x => (nx x).map fun y => ixOf o y
theorem ix_grow {o t : List α} {l : List α} (h : ∀ y ∈ l, y ∈ o) : (l.map fun y => ixOf (o ++ t) y) = l.map fun y => ixOf o y :=
  List.map_congr_left fun y hy => idxOf_pre (h y hy)
/-- closed as far as i -/
def Cl (nx : α → List α) (o : List α) (i : Nat) : Prop := ∀ j x, j < i → o[j]? = some x → ∀ y ∈ nx x, y ∈ o
theorem Cl.zero {nx : α → List α} {o : List α} : Cl nx o 0 := fun _ _ h => absurd h (Nat.not_lt_zero _)
theorem Cl.next {nx : α → List α} {o : List α} {i : Nat} {x : α} (c : Cl nx o i) (hx : o[i]? = some x) : Cl nx (addNew o (nx x)) (i + 1) := fun j z hj hz y hy => by
  have hi : i < o.length := (List.getElem?_eq_some_iff.mp hx).1
  obtain ⟨t, et⟩ := addNew_pre (nx x) o
  rw [mem_addNew]
  by_cases hji : j = i
  · subst hji
    rw [et, List.getElem?_append_left hi, hx] at hz
    cases hz
    exact .inr hy
  · rw [et, List.getElem?_append_left (by omega)] at hz
    exact .inl (c j z (by omega) hz y hy)
theorem rows_next {nx : α → List α} {o : List α} {i : Nat} {x : α} (c : Cl nx o i) (hx : o[i]? = some x) :
    rowsOf nx (addNew o (nx x)) (i + 1) = rowsOf nx o i ++ [(nx x).map fun y => ixOf (addNew o (nx x)) y] := by
  have hi : i < o.length := (List.getElem?_eq_some_iff.mp hx).1
  obtain ⟨t, et⟩ := addNew_pre (nx x) o
  unfold rowsOf
  have e1 : (addNew o (nx x)).take (i + 1) = o.take i ++ [x] := by
    rw [et, List.take_append_of_le_length (by omega), List.take_add_one, hx] <;> rfl
  rw [e1, List.map_append]
  congr 1
  refine List.map_congr_left fun z hz => ?_
  obtain ⟨j, ej⟩ := List.mem_iff_getElem?.mp hz
  rw [List.getElem?_take] at ej
  split at ej
  · rename_i hj
    rw [et]
    exact ix_grow (c j z hj ej)
  · cases ej
theorem rows_len {nx : α → List α} {o : List α} {i : Nat} (h : i ≤ o.length) : (rowsOf nx o i).length = i := by
  unfold rowsOf
  rw [List.length_map, List.length_take]
  omega
theorem rows_all (nx : α → List α) (ok : α → Bool) (o : List α) : rowsOf nx o o.length = (tabOf nx ok o).st := by
  unfold rowsOf tabOf
  rw [List.take_length]
theorem bfs_pre {nx : α → List α} : ∀ (f : Nat) (o : List α) (i : Nat) (o' : List α), bfs nx f o i = some o' → ∃ t, o' = o ++ t
  | 0, _, _, _, e => by cases e
  | f + 1, o, i, o', e => by
    rw [bfs] at e
    cases q : o[i]? with
    | none => rw [q] at e; cases e; exact ⟨[], by simp⟩
    | some x =>
      rw [q] at e
      obtain ⟨t, et⟩ := bfs_pre f _ _ _ e
      obtain ⟨t2, et2⟩ := addNew_pre (nx x) o
      exact ⟨t2 ++ t, by rw [et, et2, List.append_assoc]⟩
theorem bfs_end {nx : α → List α} {f : Nat} {o o' : List α} {i : Nat} (e : bfs nx f o i = some o') (h : o.length ≤ i) : o' = o := by
  cases f with
  | zero => cases e
  | succ f =>
    rw [bfs, List.getElem?_eq_none_iff.mpr h] at e
    exact (Option.some.inj e).symm
theorem bfs_turn {nx : α → List α} {f : Nat} {o o' : List α} {i : Nat} {x : α} (e : bfs nx f o i = some o') (h : o[i]? = some x) : ∃ g, g < f ∧ bfs nx g (addNew o (nx x)) (i + 1) = some o' := by
  cases f with
  | zero => cases e
  | succ f =>
    rw [bfs, h] at e
    exact ⟨f, Nat.lt_succ_self f, e⟩
end

/-! ### two side by side -/
def pairNx (A B : Tb) (x : Nat × Nat) : List (Nat × Nat) := (A.nx x.1).zip (B.nx x.2)
def pairOk (f : Bool → Bool → Bool) (A B : Tb) (x : Nat × Nat) : Bool := f (A.acc x.1) (B.acc x.2)
def pairOrder (A B : Tb) : Option (List (Nat × Nat)) := bfs (pairNx A B) (A.st.length * B.st.length + 1) [(0, 0)] 0
theorem zip_getD {l m : List Nat} {a : Nat} {x y : Nat} (h1 : a < l.length) (h2 : a < m.length) : (l.zip m).getD a (x, y) = (l.getD a x, m.getD a y) := by
  rw [getD_at (by rw [List.length_zip]; omega), List.getElem_zip, getD_at h1, getD_at h2]
theorem pair_go {k : Nat} {A B : Tb} (hA : A.Ok k) (hB : B.Ok k) : ∀ (w : List Nat) (p q : Nat), p < A.st.length → q < B.st.length → Wd k w → go (pairNx A B) (p, q) w = (go A.nx p w, go B.nx q w)
  | [], _, _, _, _, _ => rfl
  | a :: w, p, q, hp, hq, hw => by
    rw [go, go, go]
    have e : (pairNx A B (p, q)).getD a (p, q) = ((A.nx p).getD a p, (B.nx q).getD a q) :=
      zip_getD (by rw [hA.nx_len hp]; exact hw.head) (by rw [hB.nx_len hq]; exact hw.head)
    rw [e]
    exact pair_go hA hB w _ _ (hA.step_lt hp hw.head) (hB.step_lt hq hw.head) hw.tail
theorem nodup_pairs {a b : Nat} {l : List (Nat × Nat)} (hn : l.Nodup) (h : ∀ x ∈ l, x.1 < a ∧ x.2 < b) : l.length ≤ a * b := by
  have hm : (l.map fun x => x.1 * b + x.2).Nodup := by
    unfold List.Nodup
    rw [List.pairwise_map]
    refine List.Pairwise.imp_of_mem ?_ hn
    intro x y hx hy hxy e
    obtain ⟨_, x2⟩ := h x hx
    obtain ⟨_, y2⟩ := h y hy
    apply hxy
    have hb : 0 < b := by omega
    have d1 : (x.1 * b + x.2) / b = x.1 := by rw [Nat.mul_comm, Nat.mul_add_div hb, Nat.div_eq_of_lt x2]; omega
    have d2 : (y.1 * b + y.2) / b = y.1 := by rw [Nat.mul_comm, Nat.mul_add_div hb, Nat.div_eq_of_lt y2]; omega
    have e1 : x.1 = y.1 := by rw [← d1, ← d2, e]
    have e2 : x.2 = y.2 := by rw [e1] at e; omega
    exact Prod.ext e1 e2
  have := nodup_lt (n := a * b) hm fun z hz => by
    obtain ⟨x, hx, rfl⟩ := List.mem_map.mp hz
    obtain ⟨h1, h2⟩ := h x hx
    have : (x.1 + 1) * b ≤ a * b := Nat.mul_le_mul_right b h1
    rw [Nat.add_mul] at this
    omega
  rwa [List.length_map] at this
theorem pair_spec {k : Nat} {A B : Tb} (hA : A.Ok k) (hB : B.Ok k) : ∃ o, pairOrder A B = some o ∧ Whole k (pairNx A B) o ∧ o[0]? = some (0, 0) ∧ (∀ x ∈ o, x.1 < A.st.length ∧ x.2 < B.st.length) ∧
    ∀ x ∈ o, ∃ w, Wd k w ∧ x = (go A.nx 0 w, go B.nx 0 w) := by
  have hP : ∀ x, (x.1 < A.st.length ∧ x.2 < B.st.length) → ∀ y ∈ pairNx A B x, y.1 < A.st.length ∧ y.2 < B.st.length := by
    rintro ⟨p, q⟩ ⟨hp, hq⟩ y hy
    have := List.of_mem_zip hy
    exact ⟨hA.nx_lt hp _ this.1, hB.nx_lt hq _ this.2⟩
  have h0 : ∀ x ∈ [((0 : Nat), (0 : Nat))], x.1 < A.st.length ∧ x.2 < B.st.length := fun x hx => by rw [List.mem_singleton] at hx; subst hx; exact ⟨hA.pos, hB.pos⟩
  obtain ⟨o, e⟩ := bfs_some (N := A.st.length * B.st.length) hP (fun l hn hl => nodup_pairs hn hl) (A.st.length * B.st.length + 1) [(0, 0)] 0 (by simp) h0 (by simp) (by omega)
  have hQ : ∀ x, ((x.1 < A.st.length ∧ x.2 < B.st.length) ∧ ∃ w, Wd k w ∧ x = (go A.nx 0 w, go B.nx 0 w)) → ∀ y ∈ pairNx A B x, ((y.1 < A.st.length ∧ y.2 < B.st.length) ∧ ∃ w, Wd k w ∧ y = (go A.nx 0 w, go B.nx 0 w)) := by
    rintro ⟨p, q⟩ ⟨⟨hp, hq⟩, w, hw, e⟩ y hy
    refine ⟨hP _ ⟨hp, hq⟩ y hy, ?_⟩
    obtain ⟨a, ha, ea⟩ := getD_of_mem hy (p, q)
    have hk : a < k := by
      unfold pairNx at ha
      rw [List.length_zip, hA.nx_len hp, hB.nx_len hq] at ha
      omega
    refine ⟨w ++ [a], hw.app (Wd.nil.cons hk), ?_⟩
    rw [← ea, go_app, go_app]
    injection e with e1 e2
    rw [← e1, ← e2]
    exact zip_getD (by rw [hA.nx_len hp]; exact hk) (by rw [hB.nx_len hq]; exact hk)
  obtain ⟨h1, ⟨t, h2⟩, h3, h4⟩ := bfs_spec hQ _ _ _ _ e (by simp) (fun x hx => ⟨h0 x hx, by rw [List.mem_singleton] at hx; subst hx; exact ⟨[], Wd.nil, rfl⟩⟩) (fun j x hj _ => absurd hj (by omega))
  refine ⟨o, e, ⟨h1, h4, fun x hx => ?_⟩, by rw [h2] <;> rfl, fun x hx => (h3 x hx).1, fun x hx => (h3 x hx).2⟩
  obtain ⟨⟨hp, hq⟩, _⟩ := h3 x hx
  unfold pairNx
  rw [List.length_zip, hA.nx_len hp, hB.nx_len hq, Nat.min_self]
theorem pair_lang {k : Nat} {A B : Tb} {o : List (Nat × Nat)} {f : Bool → Bool → Bool} (hA : A.Ok k) (hB : B.Ok k) (W : Whole k (pairNx A B) o) (h0 : o[0]? = some (0, 0)) {w : List Nat} (hw : Wd k w) :
    (tabOf (pairNx A B) (pairOk f A B) o).lang w = f (A.lang w) (B.lang w) := by
  rw [W.lang h0 hw, pair_go hA hB w 0 0 hA.pos hB.pos hw]
  rfl

/-! ### the mirrored table -/
def preOf (T : Tb) (S : List Nat) (a : Nat) : List Nat := (List.range T.st.length).filter fun q => decide ((T.nx q).getD a 0 ∈ S)
def mirNx (k : Nat) (T : Tb) (S : List Nat) : List (List Nat) := (List.range k).map fun a => preOf T S a
def mirStart (T : Tb) : List Nat := (List.range T.st.length).filter fun q => T.acc q
def mirOk (S : List Nat) : Bool := decide (0 ∈ S)
def backTo (T : Tb) (w : List Nat) : List Nat := (List.range T.st.length).filter fun q => T.acc (go T.nx q w.reverse)
theorem mir_step {k : Nat} {T : Tb} (h : T.Ok k) {w : List Nat} {a : Nat} (hw : Wd k w) (ha : a < k) : (mirNx k T (backTo T w)).getD a (backTo T w) = backTo T (w ++ [a]) := by
  unfold mirNx
  rw [getD_at (by rw [List.length_map, List.length_range]; exact ha), List.getElem_map, List.getElem_range]
  unfold preOf backTo
  apply List.filter_congr
  intro q hq
  rw [List.mem_range] at hq
  rw [List.reverse_append]
  show decide (_ ∈ _) = T.acc (go T.nx ((T.nx q).getD a q) w.reverse)
  have hal : a < (T.nx q).length := by rw [h.nx_len hq]; exact ha
  have e : (T.nx q).getD a 0 = (T.nx q).getD a q := by rw [getD_at hal, getD_at hal]
  rw [e]
  have := h.step_lt hq ha
  cases z : T.acc (go T.nx ((T.nx q).getD a q) w.reverse)
  · exact decide_eq_false fun y => by rw [List.mem_filter, z] at y; exact Bool.false_ne_true y.2
  · exact decide_eq_true (List.mem_filter.mpr ⟨List.mem_range.mpr this, z⟩)
theorem mir_go {k : Nat} {T : Tb} (h : T.Ok k) : ∀ (v w : List Nat), Wd k w → Wd k v → go (mirNx k T) (backTo T w) v = backTo T (w ++ v)
  | [], w, _, _ => by rw [List.append_nil]; rfl
  | a :: v, w, hw, hv => by
    rw [go, mir_step h hw hv.head, mir_go h v _ (hw.app (Wd.nil.cons hv.head)) hv.tail, List.append_assoc]
    rfl
theorem mir_start {T : Tb} : mirStart T = backTo T [] := rfl
theorem mir_ok {k : Nat} {T : Tb} (h : T.Ok k) (w : List Nat) : mirOk (backTo T w) = T.lang w.reverse := by
  unfold mirOk backTo Tb.lang
  cases z : T.acc (go T.nx 0 w.reverse)
  · exact decide_eq_false fun y => by rw [List.mem_filter, z] at y; exact Bool.false_ne_true y.2
  · exact decide_eq_true (List.mem_filter.mpr ⟨List.mem_range.mpr h.pos, z⟩)
/-- the mirrored table: it is made within the size of any table of the mirrored words -/
theorem mir_spec {k : Nat} {T D : Tb} (h : T.Ok k) (hr : Rch k T) (hD : D.Ok k) (hl : ∀ w, Wd k w → D.lang w = T.lang w.reverse) : ∃ o, bfs (mirNx k T) (D.st.length + 1) [mirStart T] 0 = some o ∧ o.length ≤ D.st.length ∧ Whole k (mirNx k T) o ∧ o[0]? = some (mirStart T) ∧
    (∀ S ∈ o, ∃ w, Wd k w ∧ S = backTo T w) ∧ ∀ w, Wd k w → (tabOf (mirNx k T) mirOk o).lang w = T.lang w.reverse := by
  have hP : ∀ S, (∃ w, Wd k w ∧ S = backTo T w) → ∀ y ∈ mirNx k T S, ∃ w, Wd k w ∧ y = backTo T w := by
    rintro S ⟨w, hw, rfl⟩ y hy
    obtain ⟨a, ha, ea⟩ := getD_of_mem hy (backTo T w)
    have hk : a < k := by unfold mirNx at ha; simpa using ha
    exact ⟨w ++ [a], hw.app (Wd.nil.cons hk), by rw [← ea, mir_step h hw hk]⟩
  have h0 : ∀ S ∈ [mirStart T], ∃ w, Wd k w ∧ S = backTo T w := fun S hS => by rw [List.mem_singleton] at hS; subst hS; exact ⟨[], Wd.nil, rfl⟩
  -- states of D tell the sets apart
  have same : ∀ w w', Wd k w → Wd k w' → go D.nx 0 w = go D.nx 0 w' → backTo T w = backTo T w' := fun w w' hw hw' e => by
    unfold backTo
    apply List.filter_congr
    intro q hq
    obtain ⟨u, hu, eu⟩ := hr q (List.mem_range.mp hq)
    have a := hl (w ++ u.reverse) (hw.app hu.rev)
    have b := hl (w' ++ u.reverse) (hw'.app hu.rev)
    rw [List.reverse_append, List.reverse_reverse] at a b
    unfold Tb.lang at a b
    rw [go_app, go_app, eu] at a b
    rw [← a, ← b, e]
  have hN : ∀ l : List (List Nat), l.Nodup → (∀ S ∈ l, ∃ w, Wd k w ∧ S = backTo T w) → l.length ≤ D.st.length := fun l hn hl' => by
    have ch : ∀ S, ∃ w, S ∈ l → (Wd k w ∧ S = backTo T w) := fun S => by
      by_cases hS : S ∈ l
      · obtain ⟨w, hw⟩ := hl' S hS
        exact ⟨w, fun _ => hw⟩
      · exact ⟨[], fun z => absurd z hS⟩
    have hm : (l.map fun S => go D.nx 0 (Classical.choose (ch S))).Nodup := by
      unfold List.Nodup
      rw [List.pairwise_map]
      refine List.Pairwise.imp_of_mem ?_ hn
      intro S S' hS hS' ne e
      obtain ⟨w1, e1⟩ := Classical.choose_spec (ch S) hS
      obtain ⟨w2, e2⟩ := Classical.choose_spec (ch S') hS'
      exact ne (by rw [e1, e2]; exact same _ _ w1 w2 e)
    have := nodup_lt (n := D.st.length) hm fun x hx => by
      obtain ⟨S, hS, rfl⟩ := List.mem_map.mp hx
      exact hD.go_lt _ hD.pos (Classical.choose_spec (ch S) hS).1
    rwa [List.length_map] at this
  obtain ⟨o, e⟩ := bfs_some hP hN (D.st.length + 1) [mirStart T] 0 (by simp) h0 (by simp) (by omega)
  obtain ⟨h1, ⟨t, h2⟩, h3, h4⟩ := bfs_spec hP _ _ _ _ e (by simp) h0 (fun j x hj _ => absurd hj (by omega))
  have W : Whole k (mirNx k T) o := ⟨h1, h4, fun x hx => by unfold mirNx; simp⟩
  have z0 : o[0]? = some (mirStart T) := by rw [h2] <;> rfl
  refine ⟨o, e, hN o h1 h3, W, z0, h3, fun w hw => ?_⟩
  rw [W.lang z0 hw, mir_start, mir_go h w [] Wd.nil hw, List.nil_append, mir_ok h]

/-! ### counting -/
def words (k : Nat) : Nat → List (List Nat)
  | 0 => [[]]
  | n + 1 => (List.range k).flatMap fun a => (words k n).map fun w => a :: w
theorem mem_words {k : Nat} : ∀ {n : Nat} {w : List Nat}, w ∈ words k n ↔ Wd k w ∧ w.length = n
  | 0, w => by
    constructor
    · intro h
      rw [words, List.mem_singleton] at h
      subst h
      exact ⟨Wd.nil, rfl⟩
    · rintro ⟨_, h⟩
      rw [words, List.mem_singleton]
      exact List.length_eq_zero_iff.mp h
  | n + 1, w => by
    rw [words, List.mem_flatMap]
    constructor
    · rintro ⟨a, ha, h⟩
      obtain ⟨v, hv, rfl⟩ := List.mem_map.mp h
      obtain ⟨h1, h2⟩ := mem_words.mp hv
      exact ⟨h1.cons (List.mem_range.mp ha), by rw [List.length_cons, h2]⟩
    · rintro ⟨h1, h2⟩
      cases w with
      | nil => simp at h2
      | cons a v =>
        refine ⟨a, List.mem_range.mpr h1.head, List.mem_map.mpr ⟨v, mem_words.mpr ⟨h1.tail, by simpa using h2⟩, rfl⟩⟩
theorem words_nodup (k : Nat) : ∀ n : Nat, (words k n).Nodup
  | 0 => by simp [words]
  | n + 1 => by
    rw [words]
    unfold List.Nodup
    rw [List.pairwise_flatMap]
    refine ⟨fun a _ => ?_, ?_⟩
    · rw [List.pairwise_map]
      exact (words_nodup k n).imp fun h e => h (by injection e)
    · refine (List.nodup_range (n := k)).imp fun {a b} h x hx y hy e => ?_
      obtain ⟨u, _, rfl⟩ := List.mem_map.mp hx
      obtain ⟨v, _, rfl⟩ := List.mem_map.mp hy
      injection e with e1 _
      exact h e1
/-- the number of words of a length -/
def cnt (k n : Nat) (L : List Nat → Bool) : Nat := (words k n).countP L
theorem cnt_congr {k n : Nat} {L M : List Nat → Bool} (h : ∀ w, Wd k w → L w = M w) : cnt k n L = cnt k n M :=
  List.countP_congr fun w hw => by rw [h w (mem_words.mp hw).1]
theorem cnt_rev (k n : Nat) (L : List Nat → Bool) : cnt k n (fun w => L w.reverse) = cnt k n L := by
  have p : ((words k n).map List.reverse).Perm (words k n) := by
    refine (List.perm_ext_iff_of_nodup ?_ (words_nodup k n)).mpr fun w => ?_
    · unfold List.Nodup
      rw [List.pairwise_map]
      exact (words_nodup k n).imp fun h e => h (List.reverse_inj.mp e)
    · rw [List.mem_map]
      constructor
      · rintro ⟨v, hv, rfl⟩
        obtain ⟨h1, h2⟩ := mem_words.mp hv
        exact mem_words.mpr ⟨h1.rev, by rw [List.length_reverse, h2]⟩
      · intro hw
        obtain ⟨h1, h2⟩ := mem_words.mp hw
        exact ⟨w.reverse, mem_words.mpr ⟨h1.rev, by rw [List.length_reverse, h2]⟩, List.reverse_reverse _⟩
  have := p.countP_eq L
  rw [List.countP_map] at this
  exact this
theorem countP_or_and (L M : List Nat → Bool) : ∀ l : List (List Nat), l.countP (fun w => L w || M w) + l.countP (fun w => L w && M w) = l.countP L + l.countP M
  | [] => rfl
  | w :: l => by
    have := countP_or_and L M l
    rw [List.countP_cons, List.countP_cons, List.countP_cons, List.countP_cons]
    cases L w <;> cases M w <;> simp <;> omega
theorem countP_xor_and (L M : List Nat → Bool) : ∀ l : List (List Nat), l.countP (fun w => L w != M w) + l.countP (fun w => L w && M w) = l.countP (fun w => L w || M w)
  | [] => rfl
  | w :: l => by
    have := countP_xor_and L M l
    rw [List.countP_cons, List.countP_cons, List.countP_cons]
    cases L w <;> cases M w <;> simp <;> omega
theorem cnt_or (k n : Nat) (L M : List Nat → Bool) : cnt k n (fun w => L w || M w) + cnt k n (fun w => L w && M w) = cnt k n L + cnt k n M := countP_or_and L M _
theorem cnt_xor (k n : Nat) (L M : List Nat → Bool) : cnt k n (fun w => L w != M w) + cnt k n (fun w => L w && M w) = cnt k n (fun w => L w || M w) := countP_xor_and L M _

/-- the mirror of the counting loop -/
def cntStep (T : Tb) (many : List Nat) : List Nat := T.st.map fun row => (row.map fun y => many.getD y 0).sum
def cntVec (T : Tb) : Nat → List Nat
  | 0 => T.to.map b2n
  | n + 1 => cntStep T (cntVec T n)
def cntM (T : Tb) (n : Nat) : Nat := (cntVec T n).getD 0 0
theorem cntVec_len {k : Nat} {T : Tb} (h : T.Ok k) : ∀ n, (cntVec T n).length = T.st.length
  | 0 => by rw [cntVec, List.length_map, h.len]
  | n + 1 => by rw [cntVec, cntStep, List.length_map]
theorem countP_flatMap_range {k : Nat} (g : Nat → List (List Nat)) (L : List Nat → Bool) : ((List.range k).flatMap g).countP L = ((List.range k).map fun a => (g a).countP L).sum := by
  rw [List.countP_flatMap]
  rfl
theorem cntVec_at {k : Nat} {T : Tb} (h : T.Ok k) : ∀ (n q : Nat), q < T.st.length → (cntVec T n).getD q 0 = cnt k n fun w => T.acc (go T.nx q w)
  | 0, q, hq => by
    have hq' : q < T.to.length := by rw [h.len]; exact hq
    rw [cntVec, getD_at (by rw [List.length_map]; exact hq'), List.getElem_map]
    unfold cnt words
    rw [List.countP_cons, List.countP_nil]
    have : T.acc q = T.to[q] := getD_at hq'
    show b2n T.to[q] = 0 + if T.acc q = true then 1 else 0
    rw [this, Nat.zero_add]
    rfl
  | n + 1, q, hq => by
    rw [cntVec, cntStep, getD_at (by rw [List.length_map]; exact hq), List.getElem_map]
    unfold cnt
    rw [words, countP_flatMap_range]
    have e : T.st[q] = T.nx q := (getD_at hq).symm
    rw [e]
    congr 1
    apply List.ext_getElem (by rw [List.length_map, List.length_map, List.length_range, h.nx_len hq])
    intro a h1 h2
    rw [List.length_map] at h1
    rw [List.getElem_map, List.getElem_map, List.getElem_range, List.countP_map]
    have ha : a < k := by rw [← h.nx_len hq]; exact h1
    rw [cntVec_at h n _ (h.nx_lt hq _ (List.getElem_mem h1))]
    unfold cnt
    apply List.countP_congr
    intro w hw
    show T.acc (go T.nx (T.nx q)[a] w) = true ↔ T.acc (go T.nx ((T.nx q).getD a q) w) = true
    rw [getD_at h1]
theorem cntM_spec {k : Nat} {T : Tb} (h : T.Ok k) (n : Nat) : cntM T n = cnt k n T.lang := cntVec_at h n 0 h.pos
end LS
end
section
set_option Elab.async false
set_option linter.all false
set_option maxRecDepth 100000
/-! The text by places; words used by every walk. -/
namespace LW
open PySem L2
def top (i : Nat) : Stmt := PySem.Challenge.pw_linestrikes_k23_whole_kinds_by_one_anoth.main.body.getD i (.Pass ⟨0, 0, 0, 0⟩)

/-! ### lists or tuples -/
section
variable {K : PySem.W.Frag} {H H' : Hp}
def SqA (K : PySem.W.Frag) (H : Hp) (a : Addr) (xs : List V) : Prop := SqL K H a xs ∨ SqT K H a xs
abbrev nV (n : Nat) : V := .int (n : Int)
theorem SqL.same {a : Addr} {xs : List V} (e : Same H H') (h : SqL K H a xs) : SqL K H' a xs := e.seq h
theorem SqT.same {a : Addr} {xs : List V} (e : Same H H') (h : SqT K H a xs) : SqT K H' a xs := by
  rcases h with (h | ⟨o, h⟩) | h
  · exact .inl (.inl (e _ _ h))
  · exact .inl (.inr ⟨o, e _ _ h⟩)
  · exact .inr h
theorem SqA.same {a : Addr} {xs : List V} (e : Same H H') (h : SqA K H a xs) : SqA K H' a xs := h.elim (fun h => .inl (SqL.same e h)) fun h => .inr (SqT.same e h)
theorem same_new {H : Hp} {p : Addr} {o : HO} (h : H p = none) : Same H (upd H p o) := fun b u e => by rw [upd_ne (ne_of_none e h)]; exact e
theorem sm_upd {H H1 : Hp} {p : Addr} {o : HO} (e : Same H H1) (h : H p = none) : Same H (upd H1 p o) := fun b u q => by rw [upd_ne (ne_of_none q h)]; exact e b u q

/-- rows of numbers: a list or tuple of lists or tuples of ints -/
def RowsAt (K : PySem.W.Frag) (H : Hp) (a : Addr) (st : List (List Nat)) : Prop := ∃ rs : List Addr, SqA K H a (rs.map V.ref) ∧ rs.length = st.length ∧ ∀ (i : Nat) (r : Addr) (row : List Nat), rs[i]? = some r → st[i]? = some row → SqA K H r (row.map nV)
theorem RowsAt.same {a : Addr} {st : List (List Nat)} (e : Same H H') (h : RowsAt K H a st) : RowsAt K H' a st := by
  obtain ⟨rs, h1, h2, h3⟩ := h
  exact ⟨rs, h1.same e, h2, fun i r row e1 e2 => (h3 i r row e1 e2).same e⟩
end

/-! ### what is walked, either way -/
section
variable {X : Cx} {tg e : Expr}
theorem PI.or {w1 w2 : TI} (h1 : PI X tg e w1) (h2 : PI X tg e w2) : PI X tg e (fun σ H R => w1 σ H R ∨ w2 σ H R) := ⟨fun pins s σ H R I h => h.elim (fun h => h1.run pins s σ H R I h) fun h => h2.run pins s σ H R I h⟩
def iSeq (K : PySem.W.Frag) (t : TE) : TI := fun σ H R => t σ H fun x H1 => ∃ a, x = .ref a ∧ (((∃ xs, SqL K H1 a xs) ∧ R (Itl K a) H1) ∨ ((∃ xs, SqT K H1 a xs) ∧ R (Itt K a) H1))
theorem pi_seq {t : TE} (h : PE X e t) : PI X tg e (iSeq X.K t) := by
  refine ⟨fun pins s σ H R I hw => ?_⟩
  refine thn (h.run pins s σ H _ I hw) fun v s1 ⟨x, H1, I1, r1, q1⟩ => ?_
  obtain ⟨a, e1, q⟩ := q1
  subst e1
  rcases q with ⟨hq, q⟩ | ⟨hq, q⟩
  · have hp : PE X e (fun _ _ Q => Q (.ref a) H1) → True := fun _ => True.intro
    cases r1
    obtain ⟨xs, hq⟩ := hq
    obtain ⟨its, rv, p, hz⟩ := I1.list hq
    refine wpAny_pyIter_list p.isList ?_
    refine ⟨s1.heap.objs.size, [s1.heap.objs.size], _, _, H1, rfl, I1.kept (t' := s1.toks) fun b o e => Heap.get?_push_of_some _ e, turn_list a _, ⟨_, Heap.get?_push_size _ rfl, rfl, rfl⟩, fun b hb => ?_, q⟩
    have e : b = s1.heap.objs.size := by simpa using hb
    subst e
    exact I1.fpOk (Nat.le_refl _) (I1.hok.fresh (Nat.le_refl _))
  · cases r1
    obtain ⟨xs, hq⟩ := hq
    obtain ⟨its, rv, p, hz⟩ := I1.tuple hq
    refine wpAny_pyIter_tuple (show s1.heap.IsTuple a its.toArray from p) ?_
    refine ⟨s1.heap.objs.size, [s1.heap.objs.size], _, _, H1, rfl, I1.kept (t' := s1.toks) fun b o e => Heap.get?_push_of_some _ e, turn_tuple a _, ⟨_, Heap.get?_push_size _ rfl, rfl, rfl⟩, fun b hb => ?_, q⟩
    have e : b = s1.heap.objs.size := by simpa using hb
    subst e
    exact I1.fpOk (Nat.le_refl _) (I1.hok.fresh (Nat.le_refl _))
theorem for_sq {K : PySem.W.Frag} {a : Addr} {xs : List V} {g : TG} {tb : TS} {D : Ends} {σ : St} {H0 H1 : Hp} (hx : SqA K H0 a xs) (h01 : Same H0 H1) (Pv : Nat → St → Hp → Prop) (h0 : Pv 0 σ H1) (hl : ∀ i σ H, i ≤ xs.length → Pv i σ H → Same H0 H)
    (hs : ∀ i x σ H, xs[i]? = some x → Pv i σ H → g x σ H fun σ2 H2 => tb { D with nx := Pv (i + 1), ct := Pv (i + 1), bk := D.nx } σ2 H2) (hd : ∀ σ H, Pv xs.length σ H → D.nx σ H) :
    ((∃ ys, SqL K H1 a ys) ∧ ∃ W : Nat → Nat → St → Hp → Prop, (∃ m, W 0 m σ H1) ∧ ∀ i m σ H, W i m σ H →
      ((Itl K a).stop i H ∧ D.nx σ H) ∨ ((Itl K a).go i H ∧ ∃ N : St → Hp → Prop, (∀ σ' H', N σ' H' → ∃ m', m' < m ∧ W (i + 1) m' σ' H') ∧ ∀ x H', (Itl K a).yld i H x H' → g x σ H' fun σ2 H2 => tb { D with nx := N, ct := N, bk := D.nx } σ2 H2)) ∨
    ((∃ ys, SqT K H1 a ys) ∧ ∃ W : Nat → Nat → St → Hp → Prop, (∃ m, W 0 m σ H1) ∧ ∀ i m σ H, W i m σ H →
      ((Itt K a).stop i H ∧ D.nx σ H) ∨ ((Itt K a).go i H ∧ ∃ N : St → Hp → Prop, (∀ σ' H', N σ' H' → ∃ m', m' < m ∧ W (i + 1) m' σ' H') ∧ ∀ x H', (Itt K a).yld i H x H' → g x σ H' fun σ2 H2 => tb { D with nx := N, ct := N, bk := D.nx } σ2 H2)) := by
  rcases hx with hx | hx
  · exact .inl ⟨⟨xs, SqL.same h01 hx⟩, for_list (K := K) (a := a) (xs := xs) Pv h0 (fun i σ H hi p => SqL.same (hl i σ H hi p) hx) hs hd⟩
  · exact .inr ⟨⟨xs, SqT.same h01 hx⟩, for_tup (K := K) (a := a) (xs := xs) Pv h0 (fun i σ H hi p => SqT.same (hl i σ H hi p) hx) hs hd⟩
theorem rIx_seq {K : PySem.W.Frag} {H : Hp} {p : Addr} {xs : List V} {j : Nat} {v : V} {Q : VK} (h : SqA K H p xs) (e : xs[j]? = some v) (q : Q v H) : rIx K (.ref p) (nV j) H Q := by
  rcases h with h | h
  · exact .inl ⟨_, _, _, _, rfl, rfl, h, atI_nat e, q⟩
  · exact .inr (.inl ⟨_, _, _, _, rfl, rfl, h, atI_nat e, q⟩)
theorem map_at {α β : Type} {l : List α} {i : Nat} {x : α} (f : α → β) (h : l[i]? = some x) : (l.map f)[i]? = some (f x) := by
  rw [List.getElem?_map, h] <;> rfl
theorem of_map_at {α β : Type} {l : List α} {i : Nat} {y : β} {f : α → β} (h : (l.map f)[i]? = some y) : ∃ x, l[i]? = some x ∧ y = f x := by
  rw [List.getElem?_map] at h
  cases e : l[i]? with
  | none => rw [e] at h; cases h
  | some x => rw [e] at h; exact ⟨x, rfl, (Option.some.inj h).symm⟩
theorem take_snoc {α : Type} {l : List α} {i : Nat} {x : α} (h : l[i]? = some x) : l.take (i + 1) = l.take i ++ [x] := by
  rw [List.take_add_one, h] <;> rfl
end
end LW
end
section
set_option Elab.async false
set_option linter.all false
set_option maxRecDepth 100000
set_option maxHeartbeats 1000000
/-! names of the text's classes and methods -/
namespace LW
open PySem PySem.Spec PyProof.Rows L2
structure Cs where
  (cell vals clue runs few modu neig ends list evry nevr : Addr)
  (fCell fCellIn fVal fValCell fValRen fValIn fValEq fClue fCnt fWit fRen fBes fBool fEq fAnd fOr fSub fXor fInv fNeg : Addr)
def Cs.clues (c : Cs) : List Addr := [c.clue, c.runs, c.few, c.modu, c.neig, c.ends, c.list, c.evry, c.nevr]
def Cs.all (c : Cs) : List Addr := c.cell :: c.vals :: c.clues
def fieldNames : List Str := ["letters", "alphabet", "number", "steps", "told", "mark", "lengths", "most", "modulus", "rest", "pairs", "opening", "closing", "listed"]
def clsBody : Stmt → List Stmt
  | .ClassDef (body := b) .. => b
  | _ => []
def meth (i j : Nat) : Stmt := (clsBody (top i)).getD j (.Pass ⟨0, 0, 0, 0⟩)
def ops : List String := ["and", "or", "sub", "xor"]
end LW
end
section
set_option Elab.async false
set_option linter.all false
set_option maxRecDepth 100000
set_option maxHeartbeats 2000000
/-! a class asked for __ror__: the name stands in type itself, and comes bound to the class -/
namespace PySem.W
open PySem PySem.Calls PyProof.Rows Builtin
abbrev mwO (C : Addr) : Obj := { cls := .type "method-wrapper", data := .fields #[.builtin "type.__ror__", .ref C] }
theorem ror_name : ∀ n : String, n = "or" → dunderR n = ("__ror__" : Str) := by rintro n rfl; decide +kernel
theorem ror_type : typeOf (.builtin "type.__ror__") = pure (.type "wrapper_descriptor") := by show builtinType _ = _; rw [builtinType_eq_fast]; kernel_rfl
theorem ror_nac : (kfb_private% "nameAndClass") (Value.builtin "type.__ror__") = (pure (("__ror__" : Str), Value.type "type") : Sem (Str × Value)) := by kernel_rfl
theorem ror_sub : isSubtype (.type "type") (.type "type") = pure true := by rw [isSubtype_type]; kernel_rfl
section
variable {prog : Program} {w : World} {A : Around} {E : Value → Shared → Prop} {s : Shared} {K : Frag} {C D : Addr}
theorem ror_meta : findIn K (.type "type") "__ror__" = some (some (.builtin "type.__ror__")) := by show fastLookup _ _ = _; kernel_rfl
theorem ror_run {P : PySem.Fin → Shared → Prop} (L : Looks (model prog w) s.heap (typeOf (.ref C)) (.type "type")) (hq : P (.done (.ret (.ref s.heap.objs.size))) { s with heap := s.heap.push (mwO C) }) :
    wpAny (model prog w) A (Builtin.«wrapper_descriptor.__get__» ⟨[.builtin "type.__ror__", .ref C, .type "type"], []⟩) P E s := by
  unfold Builtin.«wrapper_descriptor.__get__»
  refine wpAny_bind (wpAny_of_eq (a := (.builtin "type.__ror__", some (.ref C), some (.type "type"))) (by first | rfl | kernel_rfl) ?_)
  show wpAny _ A ((kfb_private% "checkInstance") (.builtin "type.__ror__") (.ref C) >>= fun _ => newFields "method-wrapper" [.builtin "type.__ror__", .ref C] >>= fun r => ret r) P E _
  refine wpAny_bind ?_
  show wpAny _ A ((kfb_private% "nameAndClass") (.builtin "type.__ror__") >>= _) _ E _
  refine wpAny_bind (wpAny_of_eq ror_nac ?_)
  show wpAny _ A (isInstance (.ref C) (.type "type") >>= _) _ E _
  have LI : Looks (model prog w) s.heap (isInstance (.ref C) (.type "type")) true := L.andThen (Looks.of_pure ror_sub)
  refine wpAny_bind (LI.here ?_)
  refine PySem.W.KFB.if_not rfl ?_
  refine wpAny_pure ?_
  exact wpAny_bind (wpAny_newObj_type (wpAny_pure hq))
/-- what is asked of a class -/
def rorIn (K : Frag) (C : Addr) : Bool := nsIn K cStatics "thirdparty.any" == some none && typeIn K (.ref C) == some (.type "type") && findIn K (.ref C) "__ror__" == some none
theorem ror_tga {tk : Tok} {P : PySem.Fin → Shared → Prop} (X : K.In s.heap) (hm : rorIn K C = true) (hq : P (.done (.ret (.ref s.heap.objs.size))) { s with heap := s.heap.push (mwO C) }) :
    wpAny (model prog w) A (Builtin.«type.__getattribute__» ⟨[.ref C, .str "__ror__" tk], []⟩) P E s := by
  simp only [rorIn, Bool.and_eq_true, beq_iff_eq] at hm
  obtain ⟨⟨a, b⟩, d⟩ := hm
  have LT := looks_typeIn (M := model prog w) X b
  have hT : s.TypeIs (.builtin "type.__ror__") "wrapper_descriptor" := ror_type
  unfold Builtin.«type.__getattribute__»
  refine wpAny_bind (wpAny_pure (wpAny_bind ((looks_opaque X a).here (wpAny_bind (LT.here (wpAny_bind ((looks_findIn X ror_meta).here ?_)))))))
  refine wpAny_bind (wpAny_specialOf hT ESX.slot_wd.lookup ?_)
  dsimp only
  refine wpAny_bind (wpAny_specialOf hT GNX.wd_noset ?_)
  simp only [Option.isSome_none, Bool.false_eq_true, if_false]
  refine wpAny_bind (wpAny_specialOf hT GNX.wd_nodel ?_)
  refine wpAny_bind (wpAny_pure ?_)
  simp only [Option.isSome_none, Bool.false_eq_true, if_false]
  refine wpAny_bind ((looks_findIn X d).here ?_)
  dsimp only
  refine wpAny_bind (wpAny_holding ?_)
  refine wpAny_call (codeAny_call_builtin ESX.slot_wd.plain ESX.entry_wd (ESX.slot_wd.check _ _ _ _ _ _ _ _ hT (ESX.args_wd _ _ _) ?_))
  refine ror_run LT ?_
  exact wpAny_pure hq
end
end PySem.W
end
section
set_option Elab.async false
set_option linter.all false
set_option maxRecDepth 100000
set_option maxHeartbeats 2000000
/-! an attribute that a class lacks; own operators over several classes -/
namespace PySem.W
open PySem PySem.Calls PyProof.Rows Builtin
section
variable {α : Type} {prog : Program} {w : World} {A : Around} {E : Value → Shared → Prop} {s : Shared} {K : Frag}
theorem own_raise {msg : Str} {Q : α → Shared → Prop} (hh : A.handled = none)
    (h : ∀ h' tk e ob vs, (∀ b o, s.heap.get? b = some o → h'.get? b = some o) → h'.get? e = some ob → ob.cls = .type "AttributeError" → ob.data = .fields vs → E (.ref e) { s with heap := h', toks := tk }) (hm : msg.length ≤ sizeLine) :
    wpAny (model prog w) A (raiseErrorStr "AttributeError" msg : Sem α) Q E s := by
  unfold raiseErrorStr
  refine wpAny_bind (wpAny_mkStr (wpAny_bind ?_) hm)
  unfold newExc newTuple
  refine wpAny_bind (wpAny_newObj_type ?_ (by size_fits))
  refine wpAny_bind (m := firstArgMember _ _) (wpAny_of_eq (a := Value.none) (by simp only [firstArgMember, attrError_no_first]; rfl) ?_)
  rw [ownMembersOf_AttributeError]
  refine wpAny_newObj_type ?_ (by size_fits)
  obtain ⟨hp, g, d, tk, os⟩ := s
  have f1 := sub_AttributeError
  unfold raiseNew
  refine wpAny_bind (wpAny_handled ?_)
  rw [hh]
  first
    | refine wpAny_throw ?_
    | refine wpAny_bind (wpAny_pure (wpAny_throw ?_))
  dsimp only
  exact h _ _ _ _ _ (fun b ob hb => Heap.get?_push_of_some _ (Heap.get?_push_of_some _ hb)) (Heap.get?_push_size _ rfl) rfl rfl
/-- the message of a missing class attribute fits -/
def missFits (K : Frag) (C : Addr) (name : Str) : Bool := (clsIn K C).any fun cd => decide (cd.name.cps.foldl (fun k c => k + (Str.utf8Of c).length) 0 ≤ 100) && decide (((s!"type object '{cd.name.toString}' has no attribute '" : Str) ++ name ++ "'").length ≤ sizeLine)
/-- what is asked of a class that has no such attribute -/
def missIn (K : Frag) (C : Addr) (name : Str) : Bool := nsIn K cStatics "thirdparty.any" == some none && typeIn K (.ref C) == some (.type "type") && findIn K (.type "type") name == some none && findIn K (.ref C) name == some none && missFits K C name
theorem own_tga_miss {C : Addr} {name : Str} {tk : Tok} {Q : Fin → Shared → Prop} (X : K.In s.heap) (hm : missIn K C name = true) (hh : A.handled = none)
    (h : ∀ h' tk e ob vs, (∀ b o, s.heap.get? b = some o → h'.get? b = some o) → h'.get? e = some ob → ob.cls = .type "AttributeError" → ob.data = .fields vs → E (.ref e) { s with heap := h', toks := tk }) :
    wpAny (model prog w) A (Builtin.«type.__getattribute__» ⟨[.ref C, .str name tk], []⟩) Q E s := by
  simp only [missIn, Bool.and_eq_true, beq_iff_eq] at hm
  obtain ⟨⟨⟨⟨a, b⟩, c⟩, d⟩, e⟩ := hm
  obtain ⟨cd, hcd, hf⟩ := any_some e
  simp only [Bool.and_eq_true, decide_eq_true_eq] at hf
  obtain ⟨f1, f2⟩ := hf
  unfold Builtin.«type.__getattribute__»
  refine wpAny_bind (wpAny_pure (wpAny_bind ((looks_opaque X a).here (wpAny_bind ((looks_typeIn X b).here (wpAny_bind ((looks_findIn X c).here ?_)))))))
  refine wpAny_bind (wpAny_pure ?_)
  refine wpAny_bind ((looks_findIn X d).here ?_)
  dsimp only
  refine wpAny_bind (wpAny_rule (wpAny_bind ?_))
  unfold typeNameCut
  refine wpAny_bind ((looks_clsIn X hcd).here ?_)
  rw [if_pos f1]
  refine wpAny_pure ?_
  exact own_raise hh h f2
theorem own_ga_type : findIn K (.type "type") "__getattribute__" = some (some (.builtin "type.__getattribute__")) := by show fastLookup _ _ = _; kernel_rfl
theorem own_gat_type : findIn K (.type "type") "__getattr__" = some none := by show fastLookup _ _ = _; kernel_rfl
theorem own_gat_pure : typeLookup (.type "type") "__getattr__" = pure none := by rw [typeLookup_type, builtinLookup_eq_fast]; kernel_rfl
theorem own_sub_type : isSubtype (.type "type") (.type "type") = pure true := by rw [isSubtype_type]; kernel_rfl
theorem own_getBy_miss {C : Addr} {name : Str} {tk : Tok} {Q : Option Value → Shared → Prop} (X : K.In s.heap) (hm : missIn K C name = true) (hh : A.handled = none)
    (h : ∀ h' tk, (∀ b o, s.heap.get? b = some o → h'.get? b = some o) → Q none { s with heap := h', toks := tk }) :
    wpAny (model prog w) A (getAttrBy? (.ref C) (.str name tk)) Q E s := by
  have hm' := hm
  simp only [missIn, Bool.and_eq_true, beq_iff_eq] at hm'
  obtain ⟨⟨⟨⟨a, b⟩, c⟩, d⟩, e⟩ := hm'
  have LT := looks_typeIn (M := model prog w) X b
  unfold getAttrBy?
  refine wpAny_bind (wpAny_attempt ?_)
  unfold getAttrBy
  refine wpAny_holding (wpAny_bind (LT.here (wpAny_bind ((looks_findIn X own_ga_type).here ?_))))
  dsimp only
  rw [if_neg (by decide +kernel)]
  unfold getAttrByItsOwn
  refine wpAny_bind (wpAny_of_eq (a := none) rfl (wpAny_bind (wpAny_attempt (wpAny_holding ?_))))
  unfold callGetattribute
  rw [if_neg (by decide)]
  unfold boundAndCalled
  rw [KF.slot_tga.bind]
  refine wpAny_bind (wpAny_pure ?_)
  show wpAny _ _ (call (.builtin "type.__getattribute__") [.ref C, .str name tk]) _ _ _
  refine wpAny_call (codeAny_call_builtin KF.slot_tga.plain KF.entry_tga ?_)
  refine @check_slot (model prog w) _ _ s "type.__getattribute__" "type" "__getattribute__" (.ref C) [.str name tk] [] _ (by decide +kernel) (by decide +kernel) (LT.andThen (Looks.of_pure own_sub_type)) (KF.args_tga (.ref C) (.str name tk)) ?_
  refine own_tga_miss X hm hh fun h' tk' e' ob vs k he hcl hdt => ?_
  dsimp only
  unfold getattributeRaised
  have hT : (⟨h', s.gens, s.drawn, tk', s.os⟩ : Shared).TypeIs (.ref e') "AttributeError" := ⟨_, he, hcl⟩
  refine wpAny_bind (wpAny_isInstance hT sub_AttributeError ?_)
  rw [if_pos rfl]
  refine wpAny_bind (wpAny_of_eq (a := none) own_gat_pure ?_)
  unfold hookOrError attributeErrorLeaves
  dsimp only
  simp only [Bool.not_false, if_true]
  refine wpAny_bind (wpAny_throw ?_)
  refine wpAny_bind (wpAny_isInstance hT sub_AttributeError ?_)
  rw [if_pos rfl]
  exact wpAny_pure (h _ _ k)
theorem own_kept {x C : Addr} {ox : Obj} {od : Option Obj} {h h' : Heap} (I : InstAt h x ox C od) (k : ∀ b o, h.get? b = some o → h'.get? b = some o) : InstAt h' x ox C od := by
  refine ⟨k _ _ I.at_, I.cls, I.no, ?_⟩
  have := I.dict
  split at this
  · exact k _ _ this
  · exact this
  · exact this
theorem own_getBy_ror {C : Addr} {tk : Tok} {Q : Option Value → Shared → Prop} (X : K.In s.heap) (hm : rorIn K C = true) (h : Q (some (.ref s.heap.objs.size)) { s with heap := s.heap.push (mwO C) }) :
    wpAny (model prog w) A (getAttrBy? (.ref C) (.str "__ror__" tk)) Q E s := by
  have hm' := hm
  simp only [rorIn, Bool.and_eq_true, beq_iff_eq] at hm'
  obtain ⟨⟨a, b⟩, d⟩ := hm'
  have LT := looks_typeIn (M := model prog w) X b
  unfold getAttrBy?
  refine wpAny_bind (wpAny_attempt ?_)
  unfold getAttrBy
  refine wpAny_holding (wpAny_bind (LT.here (wpAny_bind ((looks_findIn X own_ga_type).here ?_))))
  dsimp only
  rw [if_neg (by decide +kernel)]
  unfold getAttrByItsOwn
  refine wpAny_bind (wpAny_of_eq (a := none) rfl (wpAny_bind (wpAny_attempt (wpAny_holding ?_))))
  unfold callGetattribute
  rw [if_neg (by decide)]
  unfold boundAndCalled
  rw [KF.slot_tga.bind]
  refine wpAny_bind (wpAny_pure ?_)
  show wpAny _ _ (call (.builtin "type.__getattribute__") [.ref C, .str "__ror__" tk]) _ _ _
  refine wpAny_call (codeAny_call_builtin KF.slot_tga.plain KF.entry_tga ?_)
  refine @check_slot (model prog w) _ _ s "type.__getattribute__" "type" "__getattribute__" (.ref C) [.str "__ror__" tk] [] _ (by decide +kernel) (by decide +kernel) (LT.andThen (Looks.of_pure own_sub_type)) (KF.args_tga (.ref C) (.str "__ror__" tk)) ?_
  refine ror_tga X hm ?_
  exact wpAny_pure (wpAny_pure h)
theorem mw_slot : Slot "method-wrapper" "__ne__" "method-wrapper.__ne__" :=
  .of (owner := "method-wrapper") (n := "__ne__") (by rw [typeLookup_type, builtinLookup_eq_fast]; kernel_rfl) (by decide +kernel) (by decide +kernel) (by decide +kernel)
    (by first | exact .inl (by decide +kernel) | exact .inr (by decide +kernel)) (by rw [isSubtype_type]; kernel_rfl)
theorem mw_entry : entryFor table "method-wrapper.__ne__" = some Builtin.«method_wrapper.__ne__» := entryFor_alias (id' := "method_wrapper.__ne__") (by rw [fastTable_eq_tree]; kernel_rfl) (by kernel_rfl) (by kernel_rfl) (by rw [fastTable_eq_tree]; kernel_rfl)
theorem mw_args (a b : Value) : argsOk "method-wrapper.__ne__" ⟨[a, b], []⟩ := by unfold argsOk; kernel_rfl
theorem mw_sub : isSubtype (.type "method-wrapper") (.type "method-wrapper") = pure true := by rw [isSubtype_type]; kernel_rfl
theorem mw_parts {n C : Addr} {Q : String × Value × Value → Shared → Prop} (h : s.heap.get? n = some (mwO C)) (q : Q ("type.__ror__", .builtin "type.__ror__", .ref C) s) : wpAny (model prog w) A (Builtin.Method_wrapper.mwParts (.ref n)) Q E s := by
  unfold Builtin.Method_wrapper.mwParts
  refine wpAny_bind (wpAny_field h rfl (x := .builtin "type.__ror__") rfl ?_)
  exact wpAny_bind (wpAny_field h rfl (x := .ref C) rfl (wpAny_pure q))
/-- two such bound names of two classes differ -/
theorem mw_differ {n1 n2 C D : Addr} {oC oD : Obj} {Q : Value → Shared → Prop} (hu : A.units < cLine) (h1 : s.heap.get? n1 = some (mwO C)) (h2 : s.heap.get? n2 = some (mwO D)) (hC : s.heap.get? C = some oC) (hD : s.heap.get? D = some oD) (hc : oC.cls = .type "type") (hne : C ≠ D) (q : Q (.bool true) s) :
    wpAny (model prog w) A (richCompare .NotEq (.ref n1) (.ref n2)) Q E s := by
  have t1 : s.TypeIs (.ref n1) "method-wrapper" := ⟨_, h1, rfl⟩
  have t2 : s.TypeIs (.ref n2) "method-wrapper" := ⟨_, h2, rfl⟩
  unfold richCompare
  simp only [oneThing_ref]
  refine wpAny_holding (wpAny_bind (wpAny_cRoomFor hu ?_))
  refine wpAny_bind (wpAny_typeOf t1 (wpAny_bind (wpAny_typeOf t2 ?_)))
  rw [if_neg (by decide)]
  refine wpAny_bind (wpAny_pure ?_)
  simp only [Bool.false_eq_true, if_false]
  have key : wpAny (model prog w) A (tryCompare (.ref n1) "__ne__" (.ref n2)) (fun r s' => r = some (.bool true) ∧ s' = s) E s := by
    unfold tryCompare
    refine wpAny_bind (wpAny_callSpecialIfBound?_slot t1 mw_slot (wpAny_call_entry mw_slot t1 mw_entry ?_ (mw_args _ _)))
    unfold Builtin.«method_wrapper.__ne__»
    show wpAny _ _ (slotArgs "__ne__" 1 ⟨[.ref n1, .ref n2], []⟩ >>= _) _ _ _
    refine wpAny_bind (wpAny_of_eq (a := (Value.ref n1, [Value.ref n2])) (by first | rfl | kernel_rfl) ?_)
    show wpAny _ _ (isInstance (.ref n2) (.type "method-wrapper") >>= _) _ _ _
    refine wpAny_bind (wpAny_isInstance t2 mw_sub ?_)
    refine PySem.W.KFB.if_not rfl ?_
    refine wpAny_bind (mw_parts h1 (wpAny_bind (mw_parts h2 ?_)))
    dsimp only
    rw [if_pos (by decide)]
    refine wpAny_bind (wpAny_isSame_ref_other hne hC hD (by rw [hc]; decide) ?_)
    exact wpAny_pure ⟨_, rfl, wpAny_pure ⟨rfl, rfl⟩⟩
  refine wpAny_bind (wpAny_mono key (fun r s' z => ?_) fun _ _ e => e)
  obtain ⟨rfl, rfl⟩ := z
  exact wpAny_pure q
theorem ror_differs {C D : Addr} {nm : String} {Q : Bool → Shared → Prop} (hu : A.units < cLine) (X : K.In s.heap) (hC : rorIn K C = true) (hD : rorIn K D = true) (hne : C ≠ D) (hnm : dunderR nm = ("__ror__" : Str)) (L6 : Looks (model prog w) s.heap (numberSlotInPython (.ref C) nm) true)
    (L7 : Looks (model prog w) s.heap (numberSlotInPython (.ref D) nm) true) (h : ∀ h' tk, (∀ b o, s.heap.get? b = some o → h'.get? b = some o) → Q true { s with heap := h', toks := tk }) : wpAny (model prog w) A (reflectedDiffers (.ref C) (.ref D) nm) Q E s := by
  unfold reflectedDiffers
  refine wpAny_bind (L6.here ?_)
  simp only [Bool.not_true, Bool.false_eq_true, if_false]
  refine wpAny_bind (L7.here ?_)
  simp only [Bool.not_true, Bool.false_eq_true, if_false]
  rw [hnm]
  refine wpAny_bind (wpAny_mkStr (wpAny_bind (own_getBy_ror X hD ?_)) (by decide))
  dsimp only
  have k1 : ∀ b o, s.heap.get? b = some o → (s.heap.push (mwO D)).get? b = some o := fun b o e => Heap.get?_push_of_some _ e
  refine wpAny_holding (wpAny_bind (own_getBy_ror (X.keeps k1) hC ?_))
  dsimp only
  have k2 : ∀ b o, s.heap.get? b = some o → ((s.heap.push (mwO D)).push (mwO C)).get? b = some o := fun b o e => Heap.get?_push_of_some _ (k1 b o e)
  have hC' := hC
  have hD' := hD
  simp only [rorIn, Bool.and_eq_true, beq_iff_eq] at hC' hD'
  obtain ⟨oC, eC, cC⟩ := Option.map_eq_some_iff.mp (show (K.lookup C).map (·.cls) = some (.type "type") from hC'.1.2)
  obtain ⟨oD, eD, cD⟩ := Option.map_eq_some_iff.mp (show (K.lookup D).map (·.cls) = some (.type "type") from hD'.1.2)
  have g1 : ((s.heap.push (mwO D)).push (mwO C)).get? s.heap.objs.size = some (mwO D) := Heap.get?_push_of_some _ (Heap.get?_push_size _ rfl)
  have g2 : ((s.heap.push (mwO D)).push (mwO C)).get? (s.heap.push (mwO D)).objs.size = some (mwO C) := Heap.get?_push_size _ rfl
  have hn : (s.heap.push (mwO D)).objs.size ≠ s.heap.objs.size := by rw [Heap.size_push]; exact Nat.succ_ne_self _
  refine wpAny_holding (wpAny_bind (wpAny_isSame_ref_other hn g2 g1 (show Value.type "method-wrapper" ≠ Value.type "tuple" by decide) ?_))
  rw [if_neg (by decide)]
  refine wpAny_bind (mw_differ hu g2 g1 (k2 _ _ (X _ _ eC)) (k2 _ _ (X _ _ eD)) cC hne ?_)
  exact wpAny_truthy_bool (h _ _ k2)
/-- nothing stands there -/
theorem own_try_none {x D : Addr} {ox : Obj} {od : Option Obj} {name : Str} {b : Value} {Q : Option Value → Shared → Prop} (X : K.In s.heap) (I : InstAt s.heap x ox D od) (hs : findIn K (.ref D) name = some none) (h : Q none s) : wpAny (model prog w) A (tryMethod (.ref x) name b) Q E s := by
  unfold tryMethod callSpecial?
  refine wpAny_bind (wpAny_bind ?_)
  unfold specialOf
  refine wpAny_bind (I.type.here ((looks_findIn X hs).here ?_))
  exact wpAny_pure (wpAny_pure h)
/-- two classes' number slots for one operator's name: both by the text's own def, no reflected one -/
def binIn (K : Frag) (C D : Addr) (nm : String) : Bool := selfFirst K C && selfFirst K D && findIn K (.ref C) (dunderR nm) == some none && findIn K (.ref D) (dunderR nm) == some none &&
  (C == D || (match subIn K (.ref D) (.ref C) with | some true => missIn K D (dunderR nm) || (nm == "or" && (rorIn K C && rorIn K D)) | some false => true | none => false))
theorem own_binop {x y C D f f2 : Addr} {ox oy : Obj} {od od2 : Option Obj} {op : Operator} {Q : Value → Shared → Prop} (hu : A.units < cLine) (X : K.In s.heap) (I : InstAt s.heap x ox C od) (J : InstAt s.heap y oy D od2) (hh : A.handled = none)
    (hb : binIn K C D op.info.2 = true) (hs : findIn K (.ref C) (PySem.dunder op.info.2) = some (some (.ref f))) (hf : isFn K (.ref f) = true) (hs2 : findIn K (.ref D) (PySem.dunder op.info.2) = some (some (.ref f2))) (hn : (dunderR op.info.2).length ≤ sizeLine)
    (h : ∀ h' tk, (∀ b o, s.heap.get? b = some o → h'.get? b = some o) → wpAny (model prog w) A (call (.ref f) [.ref x, .ref y]) (CmpBack Q) E { s with heap := h', toks := tk }) : wpAny (model prog w) A (binaryOp op (.ref x) (.ref y)) Q E s := by
  simp only [binIn, Bool.and_eq_true, beq_iff_eq] at hb
  obtain ⟨⟨⟨⟨c1, c2⟩, r1⟩, r2⟩, hcd⟩ := hb
  obtain ⟨cd, rest, hc1, hm1⟩ := ksp_first c1
  obtain ⟨cd2, rest2, hc2, hm2⟩ := ksp_first c2
  rcases hi : op.info with ⟨sym, nm'⟩
  rw [hi] at hs hs2 r1 r2 hcd hn
  dsimp only at hs hs2 r1 r2 hcd hn
  obtain ⟨hp, g, d, tk, os⟩ := s
  have L1 : Looks (model prog w) hp (typeOf (.ref x)) (.ref C) := I.type
  have L2 : Looks (model prog w) hp (typeOf (.ref y)) (.ref D) := J.type
  have L3 : Looks (model prog w) hp (fillsNumberSlot (.ref C) nm') true := fills_K X hc1 hm1 hs
  have L4 : Looks (model prog w) hp (fillsNumberSlot (.ref D) nm') true := fills_K X hc2 hm2 hs2
  have L6 : Looks (model prog w) hp (numberSlotInPython (.ref C) nm') true := ksp_inPy X hs r1 (.inl rfl)
  have L7 : Looks (model prog w) hp (numberSlotInPython (.ref D) nm') true := ksp_inPy X hs2 r2 (.inl rfl)
  simp only [binaryOp, hi]
  refine wpAny_holding (wpAny_bind ?_)
  unfold binaryOp1
  refine wpAny_bind (L1.at (wpAny_bind (L2.at (wpAny_bind (L3.at ?_)))))
  have fin : ∀ h' tk', (∀ b o, hp.get? b = some o → h'.get? b = some o) → wpAny (model prog w) A (tryMethod (.ref x) (PySem.dunder nm') (.ref y)) (fun r s' => ∃ v, r = some v ∧ Q v s') E ⟨h', g, d, tk', os⟩ := fun h' tk' k =>
    ksp_try (X.keeps k) (own_kept I k) hs hf (h h' tk' k)
  by_cases e : C = D
  · subst e
    simp only [beq_self_eq_true, if_true]
    refine wpAny_bind (wpAny_pure ?_)
    simp only [Bool.and_false, Bool.false_eq_true, if_false, Bool.false_and]
    refine wpAny_bind (wpAny_pure ?_)
    simp only [Bool.false_eq_true, if_false]
    refine wpAny_bind (wpAny_mono (fin hp tk fun _ _ z => z) (fun r s' hr' => ?_) fun _ _ e => e)
    obtain ⟨v, rfl, hq⟩ := hr'
    exact wpAny_pure (wpAny_pure hq)
  · have hne : (Value.ref C == Value.ref D) = false := Bool.eq_false_iff.mpr fun q => e (by cases beq_iff_eq.mp q; rfl)
    simp only [hne, Bool.false_eq_true, if_false]
    have hcd' : (match subIn K (Value.ref D) (Value.ref C) with
      | some true => missIn K D (dunderR nm') || (nm' == "or" && (rorIn K C && rorIn K D))
      | some false => true
      | none => false) = true := by
      rcases Bool.or_eq_true_iff.mp hcd with z | z
      · exact absurd (beq_iff_eq.mp z) e
      · exact z
    cases hsb : subIn K (Value.ref D) (Value.ref C) with
    | none => rw [hsb] at hcd'; cases hcd'
    | some b =>
      have L5 : Looks (model prog w) hp (isSubtype (.ref D) (.ref C)) b := looks_subIn X hsb
      cases b with
      | false =>
        ksp_lk
        refine wpAny_mono (fin hp tk fun _ _ z => z) (fun r s' hr' => ?_) fun _ _ e => e
        obtain ⟨v, rfl, hq⟩ := hr'
        ksp_lk
        exact hq
      | true =>
        rw [hsb] at hcd'
        refine wpAny_bind (L4.at ?_)
        simp only [Bool.and_self, if_true]
        refine wpAny_bind (L5.at ?_)
        simp only [if_true]
        rcases Bool.or_eq_true_iff.mp hcd' with hm | hm
        · refine wpAny_bind (m := reflectedDiffers _ _ _) ?_
          unfold reflectedDiffers
          refine wpAny_bind (L6.at ?_)
          simp only [Bool.not_true, Bool.false_eq_true, if_false]
          refine wpAny_bind (L7.at ?_)
          simp only [Bool.not_true, Bool.false_eq_true, if_false]
          refine wpAny_bind (wpAny_mkStr (wpAny_bind (own_getBy_miss X hm hh fun h' tk' k => ?_)) hn)
          dsimp only
          refine wpAny_pure ?_
          have X' : K.In h' := X.keeps k
          have L6' := L6.keeps k
          have L7' := L7.keeps k
          have fin' := fin h' tk' k
          ksp_lk
          refine wpAny_mono fin' (fun r s' hr' => ?_) fun _ _ e => e
          obtain ⟨v, rfl, hq⟩ := hr'
          ksp_lk
          exact hq
        · obtain ⟨n1, n2⟩ := Bool.and_eq_true_iff.mp hm
          obtain ⟨m1, m2⟩ := Bool.and_eq_true_iff.mp n2
          refine wpAny_bind (m := reflectedDiffers _ _ _) (ror_differs hu X m1 m2 e (ror_name _ (beq_iff_eq.mp n1)) L6 L7 fun h' tk' k => ?_)
          have X' : K.In h' := X.keeps k
          have fin' := fin h' tk' k
          simp only [if_true]
          refine wpAny_bind (wpAny_rule ?_)
          refine wpAny_bind (own_try_none X' (own_kept J k) r2 ?_)
          ksp_lk
          refine wpAny_mono fin' (fun r s' hr' => ?_) fun _ _ e => e
          obtain ⟨v, rfl, hq⟩ := hr'
          ksp_lk
          exact hq
end
end PySem.W
end
section
set_option Elab.async false
set_option linter.all false
set_option maxRecDepth 100000
set_option maxHeartbeats 2000000
/-! own == over several classes, and != by it -/
namespace PySem.W
open PySem PySem.Calls PyProof.Rows Builtin
section
variable {prog : Program} {w : World} {A : Around} {E : Value → Shared → Prop} {s : Shared} {K : Frag} {x y C D f f2 : Addr} {ox oy : Obj} {od od2 : Option Obj}
theorem own_tryEq {Q : Value → Shared → Prop} {v : Value} {name : Str} (X : K.In s.heap) (I : InstAt s.heap x ox C od) (hs : findIn K (.ref C) name = some (some (.ref f))) (hf : isFn K (.ref f) = true)
    (h : wpAny (model prog w) A (call (.ref f) [.ref x, v]) (CmpBack Q) E s) : wpAny (model prog w) A (tryCompare (.ref x) name v) (fun r s' => ∃ v, r = some v ∧ Q v s') E s := by
  unfold tryCompare
  refine wpAny_bind (ifBound_K X I hs hf (wpAny_mono h (fun v s' hv => ?_) fun _ _ e => e))
  cases v <;> first | exact hv.elim | exact wpAny_pure ⟨_, rfl, hv⟩
theorem own_ifBoundB {args : List Value} {Q : Option Value → Shared → Prop} {id : String} {name : Str} (X : K.In s.heap) (I : InstAt s.heap x ox C od) (hs : findIn K (.ref C) name = some (some (.builtin id))) (hb : ∀ self, bindSpecial (.builtin id) self = pure (.builtin id, [self]))
    (h : wpAny (model prog w) A (call (.builtin id) (.ref x :: args)) (fun v => Q (some v)) E s) : wpAny (model prog w) A (callSpecialIfBound? (.ref x) name args) Q E s := by
  simp only [callSpecialIfBound?, bindSpecialIfBound?]
  refine wpAny_holding (wpAny_bind (wpAny_bind (wpAny_bind (I.type.here ((looks_findIn X hs).here ?_)))))
  refine wpAny_bind (wpAny_askSetting (wpAny_ite ?_))
  have fin : wpAny (model prog w) A (call (.builtin id) ([.ref x] ++ args) >>= fun v => pure (some v)) Q E s := wpAny_bind (wpAny_mono h (fun v s' h' => wpAny_pure h') fun _ _ h' => h')
  split
  · rw [hb]
    exact wpAny_bind (wpAny_pure (wpAny_pure (by exact fin)))
  · rw [hb]
    exact wpAny_tryCatch (wpAny_bind (wpAny_pure (wpAny_pure (by exact fin))))
theorem own_tryNe {Q : Value → Shared → Prop} {v : Value} (hu : A.units + 1 < cLine) (X : K.In s.heap) (I : InstAt s.heap x ox C od) (hn : findIn K (.ref C) "__ne__" = some (some (.builtin "object.__ne__"))) (hob : mroIn K C (.type "object") = some true)
    (hs : findIn K (.ref C) "__eq__" = some (some (.ref f))) (hf : isFn K (.ref f) = true)
    (h : wpAny (model prog w) A.in1 (call (.ref f) [.ref x, v]) (fun r s' => ∃ b, r = .bool b ∧ Q (.bool (!b)) s') E s) : wpAny (model prog w) A (tryCompare (.ref x) "__ne__" v) (fun r s' => ∃ v, r = some v ∧ Q v s') E s := by
  unfold tryCompare
  have LT : Looks (model prog w) s.heap (typeOf (.ref x)) (.ref C) := I.type
  refine wpAny_bind (own_ifBoundB X I hn F.slot_object_ne.bind (wpAny_call (codeAny_call_builtin F.slot_object_ne.plain F.cmpEntry_ne ?_)))
  refine @check_slot (model prog w) _ _ s "object.__ne__" "object" "__ne__" (.ref x) [v] [] _ (by decide +kernel) (by decide +kernel) (LT.andThen (looks_mroIn X hob)) (F.cmpArgs_ne _ _) ?_
  unfold Builtin.«object.__ne__»
  have one : wpAny (model prog w) A.in1 (callSpecialIfBound? (.ref x) "__eq__" [v]) (fun r s' => ∃ b, r = some (.bool b) ∧ Q (.bool (!b)) s') E s := ifBound_K X I hs hf (wpAny_mono h (fun v s' ⟨b, e, q⟩ => ⟨b, by rw [e], q⟩) fun _ _ e => e)
  refine wpAny_bind (wpAny_pure (wpAny_bind (wpAny_cRoomFor hu (wpAny_bind (wpAny_mono one (fun r s' hr => ?_) fun _ _ e => e)))))
  obtain ⟨b, rfl, q⟩ := hr
  refine wpAny_bind (wpAny_truthy_bool ?_)
  exact wpAny_pure (wpAny_pure ⟨_, rfl, q⟩)
/-- two classes' place to each other -/
def ordIn (K : Frag) (C D : Addr) : Bool := C == D || (subIn K (.ref D) (.ref C)).isSome
theorem own_rich {op : CmpOp} {Q : Value → Shared → Prop} (hu : A.units < cLine) (X : K.In s.heap) (I : InstAt s.heap x ox C od) (J : InstAt s.heap y oy D od2) (hb : ordIn K C D = true) (hsym : (cmpInfo op).2.1 = (cmpInfo op).2.2)
    (h1 : wpAny (model prog w) A (tryCompare (.ref x) (cmpInfo op).2.1 (.ref y)) (fun r s' => ∃ v, r = some v ∧ Q v s') E s) (h2 : wpAny (model prog w) A (tryCompare (.ref y) (cmpInfo op).2.2 (.ref x)) (fun r s' => ∃ v, r = some v ∧ Q v s') E s) :
    wpAny (model prog w) A (richCompare op (.ref x) (.ref y)) Q E s := by
  unfold richCompare
  simp only [oneThing_ref]
  refine wpAny_holding (wpAny_bind (wpAny_cRoomFor hu ?_))
  refine wpAny_bind (I.type.here (wpAny_bind (J.type.here ?_)))
  have one : wpAny (model prog w) A (do
      if let some v ← tryCompare (.ref x) (cmpInfo op).2.1 (.ref y) then return v
      (pure .none : Sem Value)) Q E s := by
    refine wpAny_bind (wpAny_mono h1 (fun r s' z => ?_) fun _ _ e => e)
    obtain ⟨v, rfl, hq⟩ := z
    exact wpAny_pure hq
  split
  · rename_i q
    have e : ∃ b, subIn K (.ref D) (.ref C) = some b := by
      rcases Bool.or_eq_true_iff.mp hb with e | e
      · rw [beq_iff_eq.mp e] at q; simp at q
      · exact Option.isSome_iff_exists.mp e
    obtain ⟨b, e⟩ := e
    refine wpAny_bind ((looks_subIn X e).here ?_)
    cases b with
    | true =>
      simp only [if_true]
      refine wpAny_bind (wpAny_mono h2 (fun r s' z => ?_) fun _ _ e => e)
      obtain ⟨v, rfl, hq⟩ := z
      exact wpAny_bind (wpAny_rule (wpAny_pure hq))
    | false =>
      simp only [Bool.false_eq_true, if_false]
      refine wpAny_bind (wpAny_mono h1 (fun r s' z => ?_) fun _ _ e => e)
      obtain ⟨v, rfl, hq⟩ := z
      exact wpAny_pure hq
  · refine wpAny_bind (wpAny_pure ?_)
    simp only [Bool.false_eq_true, if_false]
    refine wpAny_bind (wpAny_mono h1 (fun r s' z => ?_) fun _ _ e => e)
    obtain ⟨v, rfl, hq⟩ := z
    exact wpAny_pure hq
end
end PySem.W
end
section
set_option Elab.async false
set_option linter.all false
set_option maxRecDepth 100000
set_option maxHeartbeats 2000000
/-! the head: what is looked at behind the top -/
namespace LW
open PySem PySem.Spec PyProof.Rows L2 LamX He
/-! ### names -/
def fnNames0 : List (Str × Nat) := [("reached", 2), ("numbered", 3), ("parts", 4), ("least_table", 5), ("both_told", 6), ("paired", 7), ("mirrored", 8), ("is_whole", 24), ("is_letters", 25), ("is_cell_string", 26), ("cell_told", 29), ("need_values", 33), ("is_word", 35), ("need_room", 36), ("need_mark", 45)]
def fnNames1 : List (Str × Nat) := [("need_items", 46), ("by_mark", 47), ("needed_cell", 48), ("table_of_runs", 49), ("table_of_words", 50), ("_law_pen", 60), ("_law_draw", 61), ("_law_pick", 62), ("_law_letters", 63), ("_law_text", 64), ("_law_just", 65), ("_law_all_but", 66), ("_law_marks_right", 67), ("_law_marked", 68), ("_law_parts_right", 69)]
def fnNames2 : List (Str × Nat) := [("_law_kinds", 70), ("_law_seen_right", 71), ("_law_joined_right", 72), ("law", 73)]
def fnNames : List (Str × Nat) := fnNames0 ++ fnNames1 ++ fnNames2
def clsNames0 : List Str := ["Cell", "Values", "Clue", "Runs", "Few", "Modulo", "Neighbours", "Ends", "Listed", "Every", "Never"]
def clsNames : List Str := clsNames0
def freeNames0 : List Str := ["len", "set", "tuple", "list", "int", "str", "dict", "isinstance", "range", "enumerate", "zip", "any", "all", "sum", "abs", "bool", "super"]
def freeNames : List Str := freeNames0
def intNames0 : List (Str × Int) := [("MOST_STATES", 64), ("MOST_LENGTH", 1000), ("MOST_RUNS", 8), ("LONGEST_RUN", 30), ("MOST_MARKS", 60), ("MOST_WORDS", 20), ("LONGEST_WORD", 30)]
def intNames : List (Str × Int) := intNames0
def metNames0 : List (Str × Str × Nat × Nat) := [("Cell", "__init__", 27, 0), ("Cell", "__contains__", 27, 10), ("Values", "__init__", 28, 1), ("Values", "cell", 28, 3), ("Values", "renamed", 28, 8), ("Values", "__contains__", 28, 9), ("Values", "__eq__", 28, 11), ("Clue", "__init__", 37, 1), ("Clue", "count", 37, 4), ("Clue", "within", 37, 6)]
def metNames1 : List (Str × Str × Nat × Nat) := [("Clue", "renamed", 37, 7), ("Clue", "beside", 37, 8), ("Clue", "__bool__", 37, 12), ("Clue", "__eq__", 37, 13), ("Clue", "__and__", 37, 14), ("Clue", "__or__", 37, 15), ("Clue", "__sub__", 37, 16), ("Clue", "__xor__", 37, 17), ("Clue", "__invert__", 37, 18), ("Clue", "__neg__", 37, 19)]
def metNames : List (Str × Str × Nat × Nat) := metNames0 ++ metNames1
def kndNames0 : List (Str × Nat) := [("Runs", 51), ("Few", 52), ("Modulo", 53), ("Neighbours", 54), ("Ends", 55), ("Listed", 56), ("Every", 57), ("Never", 58)]
def kndNames : List (Str × Nat) := kndNames0
def fnd : List FnD := (fnNames.map fun p => ⟨(p.1, none), p.1, p.1, defArgs (top p.2), defBody (top p.2), defScope (top p.2)⟩) ++
  metNames.map fun p => ⟨(p.1, some p.2.1), p.2.1, p.1 ++ "." ++ p.2.1, defArgs (meth p.2.2.1 p.2.2.2), defBody (meth p.2.2.1 p.2.2.2), defScope (meth p.2.2.1 p.2.2.2)⟩
/-! ### the classes' addresses -/
def cs (K : PySem.W.Frag) : Cs where
  cell := ga K "Cell"
  vals := ga K "Values"
  clue := ga K "Clue"
  runs := ga K "Runs"
  few := ga K "Few"
  modu := ga K "Modulo"
  neig := ga K "Neighbours"
  ends := ga K "Ends"
  list := ga K "Listed"
  evry := ga K "Every"
  nevr := ga K "Never"
  fCell := ma K (ga K "Cell") "__init__"
  fCellIn := ma K (ga K "Cell") "__contains__"
  fVal := ma K (ga K "Values") "__init__"
  fValCell := ma K (ga K "Values") "cell"
  fValRen := ma K (ga K "Values") "renamed"
  fValIn := ma K (ga K "Values") "__contains__"
  fValEq := ma K (ga K "Values") "__eq__"
  fClue := ma K (ga K "Clue") "__init__"
  fCnt := ma K (ga K "Clue") "count"
  fWit := ma K (ga K "Clue") "within"
  fRen := ma K (ga K "Clue") "renamed"
  fBes := ma K (ga K "Clue") "beside"
  fBool := ma K (ga K "Clue") "__bool__"
  fEq := ma K (ga K "Clue") "__eq__"
  fAnd := ma K (ga K "Clue") "__and__"
  fOr := ma K (ga K "Clue") "__or__"
  fSub := ma K (ga K "Clue") "__sub__"
  fXor := ma K (ga K "Clue") "__xor__"
  fInv := ma K (ga K "Clue") "__invert__"
  fNeg := ma K (ga K "Clue") "__neg__"
/-! ### looks -/
def methB (K : PySem.W.Frag) (C : Addr) (m : Str) (f : Addr) : Bool := eqO (PySem.W.findIn K (.ref C) m) (some (some (.ref f))) && (PySem.W.isFn K (.ref f) && PySem.W.keepIn K (.ref f))
def sp1B (K : PySem.W.Frag) (C : Addr) (m : Str) (f : Addr) : Bool := eqO (PySem.W.findIn K (.ref C) m) (some (some (.ref f))) && PySem.W.isFn K (.ref f)
def mkB (K : PySem.W.Frag) (C f : Addr) : Bool := PySem.W.makesIn K C && (eqO (PySem.W.findIn K (.ref C) "__init__") (some (some (.ref f))) && (PySem.W.isFn K (.ref f) && PySem.W.keepIn K (.ref C)))
def clsB (K : PySem.W.Frag) (C : Addr) : Bool := PySem.W.plainGet K C Str.empty && (PySem.W.hasDictIn K C && (PySem.W.plainOver K C && (eqO (PySem.W.findIn K (.ref C) "__setattr__") (some (some (.builtin "object.__setattr__"))) &&
  (eqO (PySem.W.findIn K (.ref C) "__class__") (some (some (.builtin "object.__class__"))) && (decide (PySem.W.mroIn K C (.type "object") = some true) && fieldNames.all fun f => eqO (PySem.W.findIn K (.ref C) f) (some none))))))
def clueB (K : PySem.W.Frag) (c : Cs) (C : Addr) : Bool := methB K C "count" c.fCnt && (methB K C "within" c.fWit && (methB K C "renamed" c.fRen && (methB K C "beside" c.fBes && (sp1B K C (PySem.dunder "and") c.fAnd && (sp1B K C (PySem.dunder "or") c.fOr && (sp1B K C (PySem.dunder "sub") c.fSub &&
  (sp1B K C (PySem.dunder "xor") c.fXor && (sp1B K C "__invert__" c.fInv && (sp1B K C "__neg__" c.fNeg && (sp1B K C "__bool__" c.fBool && (sp1B K C "__eq__" c.fEq && (eqO (PySem.W.findIn K (.ref C) "__ne__") (some (some (.builtin "object.__ne__"))) &&
  decide (PySem.W.kitOne K (.ref C) (.ref c.clue) = some true)))))))))))))
def pairB (K : PySem.W.Frag) (C D : Addr) : Bool := (ops.all fun nm => PySem.W.binIn K C D nm) && PySem.W.ordIn K C D
def mostB (K : PySem.W.Frag) (C : Addr) : Bool := PySem.W.readsIn K C (.type "type") && (eqO (PySem.W.specialIn K (.ref C) "__getattribute__") (some (some (.builtin "type.__getattribute__"))) && (match PySem.W.findCls K (.ref C) (.type "type") "MOST" with
  | some (.val u) => relB (.int 4) u
  | _ => false))
def mainFile : Str := PySem.Challenge.pw_linestrikes_k23_whole_kinds_by_one_anoth.main.file
/-- a kind's __init__: its cell, its code, what super() finds -/
def kindB (K : PySem.W.Frag) (C f f2 : Addr) (qual : Str) : Bool := mkB K C f && ((match K.lookup f with
  | some ⟨_, _, .func fd, _⟩ => PySem.W.codeIn K fd.code qual && ((match fd.closure with
    | [(_, cc)] => (match K.lookup cc with
      | some ⟨_, _, .cell (some (.ref D)), _⟩ => decide (D = C)
      | _ => false)
    | _ => false) && (match fd.code with
    | .ref cda => (match K.lookup cda with
      | some ⟨_, _, .fields vs, _⟩ => (match (vs[2]? : Option Value) with
        | some (.str file _) => mainFile == file
        | _ => false)
      | _ => false)
    | _ => false))
  | _ => false) && ((match PySem.W.clsIn K C with
    | some cd => eqO (PySem.W.alongIn K "__init__" ((cd.mro.dropWhile (· != .ref C)).drop 1)) (some (some (.ref f2)))
    | none => false) && decide (PySem.W.mroIn K C (.ref C) = some true)))
def dfl0 (K : PySem.W.Frag) (f : Addr) : Bool := match K.lookup f with
  | some ⟨_, _, .func fd, _⟩ => (match fd.defaults with
    | .none => true
    | _ => false)
  | _ => false
def dfl1 (K : PySem.W.Frag) (f : Addr) : Bool := match K.lookup f with
  | some ⟨_, _, .func fd, _⟩ => (match fd.defaults with
    | .ref T => (match K.lookup T with
      | some ⟨_, _, .seq its _, _⟩ => its.size == 1
      | _ => false)
    | _ => false)
  | _ => false
abbrev KnV : Type := Option (Str × Str × Arguments × FuncBody × Scope × Addr × List Str × Addr)
def kObs (K : PySem.W.Frag) (x : Str) : KnV := match K.lookup (ma K (ga K x) "__init__") with
  | some ⟨_, _, .func fd, _⟩ => some (fd.name, fd.qualname, fd.params, fd.body, fd.scope, fd.globals, fd.closure.map (·.1), fd.builtins)
  | _ => none
def kVal (x : Str) (i : Nat) : KnV := some ("__init__", x ++ "." ++ "__init__", defArgs (meth i 0), .stmts (defBody (meth i 0)), defScope (meth i 0), mainGlobals, ["__class__"], builtinsNs)
def lamDefs : List Defn := [("Runs", some "__init__"), ("Listed", some "__init__"), ("Neighbours", some "__init__")]
def okGlo (K : PySem.W.Frag) : Bool := (fnNames.all fun p => (Fa.glo p.1).ok K) && clsNames.all fun x => (Fa.glo x).ok K
def okFree (K : PySem.W.Frag) : Bool := freeNames.all fun x => (Fa.free x).ok K
def okInt (K : PySem.W.Frag) : Bool := (intNames.all fun p => (Fa.int p.1 p.2).ok K) && (Fa.str "ALPHABET" "abcdefghijklmnopqrstuvwxyz").ok K
def okFns (K : PySem.W.Frag) : Bool := fnd.all fun d => (Fa.code d.at_ d.qual).ok K && PySem.W.keepIn K (.ref (fAd K d.at_))
def okCls (K : PySem.W.Frag) : Bool := (cs K).all.all fun C => clsB K C
def okClu (K : PySem.W.Frag) : Bool := (cs K).clues.all fun C => clueB K (cs K) C
def okBin (K : PySem.W.Frag) : Bool := (cs K).clues.all fun C => (cs K).clues.all fun D => pairB K C D
def okMisc (K : PySem.W.Frag) : Bool := eqO (PySem.W.specialIn K (.builtin "object.__class__") "__get__") (some (some (.builtin "getset_descriptor.__get__"))) && (decide (PySem.W.takesIn K (.builtin "object.__class__") = some true) && (decide (PySem.W.kitOne K (.type "str") (.ref (cs K).cell) = some false) &&
  (mkB K (cs K).cell (cs K).fCell && (mkB K (cs K).vals (cs K).fVal && (mkB K (cs K).clue (cs K).fClue && (sp1B K (cs K).cell "__contains__" (cs K).fCellIn && (sp1B K (cs K).vals "__contains__" (cs K).fValIn && (sp1B K (cs K).vals "__eq__" (cs K).fValEq &&
  (methB K (cs K).vals "cell" (cs K).fValCell && (methB K (cs K).vals "renamed" (cs K).fValRen && (mostB K (cs K).vals && (PySem.W.ordIn K (cs K).vals (cs K).vals && (eqO (PySem.W.nsIn K cStatics "thirdparty.any") (some none) && (PySem.W.fnIn K (cs K).fClue &&
  decide (PySem.W.typeIn K (.ref (cs K).fClue) = some (.type "function"))))))))))))))))
def okKnd (K : PySem.W.Frag) : Bool := (kndNames.all fun p => kindB K (ga K p.1) (ma K (ga K p.1) "__init__") (cs K).fClue (p.1 ++ "." ++ "__init__")) && ((["Runs", "Few", "Neighbours", "Ends", "Listed", "Every", "Never"].all fun x => dfl0 K (ma K (ga K x) "__init__")) && dfl1 K (ma K (ga K "Modulo") "__init__"))
def okTab (K : PySem.W.Frag) : Bool := decide ((lamDefs.map fun p => (cT K p).2).Nodup)
def okAll (K : PySem.W.Frag) : Bool := okGlo K && (okFree K && (okInt K && (okFns K && (okCls K && (okClu K && (okBin K && (okMisc K && (okKnd K && okTab K))))))))
/-! ### the Hook -/
/-- the addresses of a list's objects -/
def at1 (g : Addr → Option Obj) (f : Obj → List Addr) (as : List Addr) : List Addr := as.flatMap fun a => match g a with
  | some o => f o
  | none => []
def refsNs (o : Obj) : List Addr := match o.data with
  | .dict es _ => es.toList.flatMap fun e => refV e.val
  | _ => []
def refsF (o : Obj) : List Addr := match o.data with
  | .func fd => refV fd.code ++ (refV fd.defaults ++ fd.closure.map (·.2))
  | _ => []
def refsC (o : Obj) : List Addr := match o.data with
  | .cls cd => [cd.ns]
  | _ => []
def selC (K : PySem.W.Frag) : List Addr := (("Marked" : Str) :: clsNames).map (ga K)
def selF (K : PySem.W.Frag) : List Addr := fnNames.map fun p => ga K p.1
def sel (g : Addr → Option Obj) (c f m : List Addr) (n : List Addr) : List Addr := mainGlobals :: cStatics :: (c ++ (n ++ (m ++ (f ++ (at1 g refsF m ++ at1 g refsF f)))))
def kOf (g : Addr → Option Obj) : PySem.W.Frag := frT g (sel g (selC (frG g [mainGlobals])) (selF (frG g [mainGlobals])) (at1 g refsNs (at1 g refsC (selC (frG g [mainGlobals])))) (at1 g refsC (selC (frG g [mainGlobals]))))
abbrev AlL : Type := Bool × List FnV × List KnV
def obsL (g : Addr → Option Obj) (K : PySem.W.Frag) : AlL := (okAll K && tabsB g lamDefs K, fnd.map fun d => fnObs K d.at_, kndNames.map fun p => kObs K p.1)
def valL : AlL := (true, fnd.map FnD.val, kndNames.map fun p => kVal p.1 p.2)
structure SaysL (h : Heap) (K : PySem.W.Frag) : Prop where
  ok : okAll K = true
  fns : (fnd.map fun d => fnObs K d.at_) = fnd.map FnD.val
  kns : (kndNames.map fun p => kObs K p.1) = kndNames.map fun p => kVal p.1 p.2
  hd : ∀ p ∈ lamDefs, PySem.W.codeHdIn K (cT K p).1 (cT K p).2 = true
  out : ∀ p ∈ lamDefs, K.lookup (cT K p).2 = none
  empty : ∀ p ∈ lamDefs, h.get? (cT K p).2 = some { cls := .none, data := .fields #[] }
theorem saysL_of {h : Heap} (e : obsL h.get? (kOf h.get?) = valL) : SaysL h (kOf h.get?) := by
  have e1 : (okAll (kOf h.get?) && tabsB h.get? lamDefs (kOf h.get?)) = true := congrArg (fun z : AlL => z.1) e
  obtain ⟨h1, h2⟩ := ba e1
  have key : ∀ p ∈ lamDefs, PySem.W.codeHdIn (kOf h.get?) (cT (kOf h.get?) p).1 (cT (kOf h.get?) p).2 = true ∧ ∃ o, h.get? (cT (kOf h.get?) p).2 = some o ∧ emptyTab o = true := fun p hp => by
    obtain ⟨h3, h4⟩ := ba (List.all_eq_true.mp h2 p hp)
    refine ⟨h3, ?_⟩
    cases q : h.get? (cT (kOf h.get?) p).2 with
    | none =>
      rw [q] at h4
      cases h4
    | some o =>
      rw [q] at h4
      exact ⟨o, rfl, h4⟩
  exact ⟨h1, congrArg (fun z : AlL => z.2.1) e, congrArg (fun z : AlL => z.2.2) e, fun p hp => (key p hp).1, fun p hp => by
    obtain ⟨_, o, q, z⟩ := key p hp
    exact frT_none q z, fun p hp => by
    obtain ⟨_, o, q, z⟩ := key p hp
    rw [q, emptyTab_eq z]⟩
def hookL : PySem.W.Hook where
  α := AlL
  obs := fun s => obsL s.heap.get? (kOf s.heap.get?)
  val := fun _ => valL
  says := fun _ h => ∃ K : PySem.W.Frag, K.In h ∧ SaysL h K
  of := fun _ _ e => ⟨_, frT_in, saysL_of e⟩
  keeps := fun _ _ _ ⟨K, hK, c⟩ k => ⟨K, PySem.W.Frag.In.keeps hK k, ⟨c.ok, c.fns, c.kns, c.hd, c.out, fun p hp => k _ _ (c.empty p hp)⟩⟩
def obsT (s : PySem.W.SharedT) : AlL := obsL (HandSHeadRun.getT s) (kOf (HandSHeadRun.getT s))
theorem obsT_eq (s : PySem.W.SharedT) : obsT s = hookL.obs s.abs := by
  have e : HandSHeadRun.getT s = s.abs.heap.get? := funext fun a => HandSHeadRun.getT_eq s a
  unfold obsT
  rw [e] <;> rfl
end LW
end
section
set_option Elab.async false
set_option linter.all false
set_option maxRecDepth 100000
set_option maxHeartbeats 0
/-! the head's run -/
namespace LWH
open PySem PySem.W PySem.Calls PyProof.Rows
abbrev R : OpenRow := OpenLaw.row PySem.Challenge.rw_linestrikes_k23_whole_kinds_by_one_anoth
abbrev qv : Program := view R.prog [73]
def names0 : List PySem.Str := ["_wall", "reached", "numbered", "parts", "least_table", "both_told", "paired", "mirrored", "shortest", "LineError", "BadInput", "NoAnswer", "BadValues", "BadNames", "BadCell", "BadWord", "BadClue", "BadNumber", "Unlike", "TooMany"]
def names1 : List PySem.Str := ["ALPHABET", "is_whole", "is_letters", "is_cell_string", "Cell", "Values", "cell_told", "MOST_STATES", "MOST_LENGTH", "need_values", "need_word", "is_word", "need_room", "Clue", "Marked", "MOST_RUNS", "LONGEST_RUN", "MOST_MARKS", "MOST_WORDS", "LONGEST_WORD"]
def names2 : List PySem.Str := ["need_mark", "need_items", "by_mark", "needed_cell", "table_of_runs", "table_of_words", "Runs", "Few", "Modulo", "Neighbours", "Ends", "Listed", "Every", "Never", "_law_pen", "_law_draw", "_law_pick", "_law_letters", "_law_text", "_law_just"]
def names3 : List PySem.Str := ["_law_all_but", "_law_marks_right", "_law_marked", "_law_parts_right", "_law_kinds", "_law_seen_right", "_law_joined_right"]
def names : List PySem.Str := names0 ++ names1 ++ names2 ++ names3
theorem run (w : World) : HandSHeadRun.RunEq R qv LW.hookL LW.obsT 20000 names w := by
  intro os
  kernel_rfl
end LWH
end
section
set_option Elab.async false
set_option linter.all false
set_option maxRecDepth 100000
set_option maxHeartbeats 2000000
namespace LW
open PySem PySem.Spec PyProof.Rows L2
/-! ### name = {..} on one line -/
section
variable {X : Cx}
theorem ps_setDc {i : Nat} {y : Str} {py : Pos} {kx vx tg iter : Expr} {ifs : List Expr} {scope : Scope} {own : List (Str × Nat)} {pos spos : Pos} {wi : TI} {g : TG} {tt : TT} {tk tv : TE} (hc : X.calm = true) (hN : X.N.Nodup) (hy : X.N[i]? = some y) (hyl : X.env.scope.names.lookup y = some .local)
    (hsw : swapsWith (.DictComp kx vx [⟨tg, iter, ifs, 0⟩] scope pos) (some (.Name y py)) spos.line X.env = pure true) (hi : PI X tg iter wi) (ok : BlkOk X.N X.env.scope scope own)
    (hg : ∀ (s : Shared) (H : Hp) (C : Addr) (cl : List (Str × Addr)) (fp : List Addr), PG (X.blk s H scope (compEnvC scope cl C X.env) fp) tg g) (ht : ∀ (s : Shared) (H : Hp) (C : Addr) (cl : List (Str × Addr)) (fp : List Addr), PTs (X.blk s H scope (compEnvC scope cl C X.env) fp) ifs tt)
    (hk : ∀ (s : Shared) (H : Hp) (C : Addr) (cl : List (Str × Addr)) (fp : List Addr), PE (X.blk s H scope (compEnvC scope cl C X.env) fp) kx tk)
    (he : ∀ (s : Shared) (H : Hp) (C : Addr) (cl : List (Str × Addr)) (fp : List Addr), PE (X.blk s H scope (compEnvC scope cl C X.env) fp) vx tv) (hs : ∀ x, foldedSetIterable iter X.env x = pure x := by intro _; rfl) :
    PS X (.Assign [.Name y py] (.DictComp kx vx [⟨tg, iter, ifs, 0⟩] scope pos) spos) (tAsg (tDc wi g tt tk tv (own.map (·.2))) (gName i)) := by
  refine ⟨fun pins s σ H D I h => ?_⟩
  rw [exec_Assign_Name_used _ _ _ _ hsw]
  refine wpAny_bind (wpAny_standAt (wpAny_bind ?_))
  show wpAny _ X.A (do let _ ← comprehension (.DictComp kx vx [⟨tg, iter, ifs, 0⟩] scope pos) scope X.env (firstIterPos [⟨tg, iter, ifs, 0⟩] pos) newDict false (eval iter X.env) (some (assign (.Name y py) X.env))) _ _ s
  have h : tDc wi g tt tk tv (own.map (·.2)) σ H (fun x H1 => gName i x σ H1 D.nx) := h
  refine wpAny_bind (thn (dc_core (Qf := fun _ s' => SP X pins D .next s') hc hN I hi ok hg ht hk he hs h fun L C s' m H' I' q hn f => ?_) fun _ s' hq => wpAny_pure (wpAny_pure hq))
  show wpAny _ _ (assign (.Name y py) X.env (.ref L)) _ _ _
  refine wpAny_assign_Name (store_ok2 (v := V.ref L) I' hN hy (.inl hyl) rfl (fun s2 I2 ⟨a, sb, ha⟩ => ?_) (.inr hyl))
  obtain ⟨f0, f1, f2, f3, f4, f5⟩ := f
  have haC : C ≠ a := by
    rcases ha with z | z
    · rw [z]; exact f1
    · exact fun e => f4 y a z e.symm
  refine ⟨m, hn.sameBut sb haC, fun h3 sb3 => ?_⟩
  exact ⟨_, H', I2.turned (t' := s2.toks) (fun b o hb e => (sb3.2 b hb).trans e) f0 f1 f3 f4 f5, q⟩
theorem sw_trueD {kx vx : Expr} {gs : List Comprehension} {scope : Scope} {pos py : Pos} {y : Str} {l : Nat} {env : Env} (hk : env.scope.kind = .function) (hy : env.scope.names.lookup y = some .local) (hl : (py.line == pos.line) = true)
    (ha : (scope.names.any fun (n, k) => n == y && (k == .local || k == .cell)) = false) : swapsWith (.DictComp kx vx gs scope pos) (some (.Name y py)) l env = pure true := by
  have ky : env.kindOf y = some .local := hy
  have hb : env.blockKind = .function := by unfold Env.blockKind; rw [hk]; rfl
  unfold swapsWith
  simp only [hb, ky, ha, Expr.pos, hl]
  rfl
end

/-! ### comprehensions: what is kept from turn to turn -/
/-- the heap without D -/
def hid (H : Hp) (D : Addr) : Hp := fun b => if b = D then none else H b
theorem hid_same {H : Hp} {D : Addr} : hid H D D = none := by unfold hid; rw [if_pos rfl]
theorem hid_ne {H : Hp} {D b : Addr} (h : b ≠ D) : hid H D b = H b := by unfold hid; rw [if_neg h]
theorem hid_upd {H : Hp} {D : Addr} {o : HO} : hid (upd H D o) D = hid H D := by
  funext b
  unfold hid
  by_cases h : b = D
  · rw [if_pos h, if_pos h]
  · rw [if_neg h, if_neg h, upd_ne h]
theorem hid_sub {H : Hp} {D : Addr} : Same (hid H D) H := fun b o e => by
  unfold hid at e
  split at e
  · cases e
  · exact e
theorem same_hid {H H' : Hp} {D : Addr} (h : Same H H') : Same (hid H D) (hid H' D) := fun b o e => by
  unfold hid at e ⊢
  split at e
  · cases e
  · rename_i hb
    rw [if_neg hb]
    exact h b o e
theorem same_to_hid {H H' : Hp} {D : Addr} (h : Same H H') (hD : H D = none) : Same H (hid H' D) := fun b o e => by
  rw [hid_ne (ne_of_none e hD)]
  exact h b o e
theorem sm_trans {H H1 H2 : Hp} (a : Same H H1) (b : Same H1 H2) : Same H H2 := fun c o h => b c o (a c o h)
/-- the word of a comprehension: the list at D holds acc; all that stood stands; R of the turn, acc and the heap -/
def LcPv (R : Nat → List V → Hp → Prop) (H1 : Hp) (D : Addr) (i : Nat) (H : Hp) : Prop := ∃ acc, H D = some (.lst acc) ∧ acc.length ≤ i ∧ Same H1 (hid H D) ∧ R i acc (hid H D)
section
variable {R : Nat → List V → Hp → Prop} {H1 H H3 H4 : Hp} {D : Addr} {i : Nat} {acc : List V} {y : V}
theorem pv_start (hD : H1 D = none) (r : R 0 [] (hid H1 D)) : LcPv R H1 D 0 (upd H1 D (.lst [])) :=
  ⟨[], upd_same, Nat.le_refl _, by rw [hid_upd]; exact same_to_hid (Same.refl _) hD, by rw [hid_upd]; exact r⟩
theorem pv_same (p : LcPv R H1 D i H) : Same H1 H := let ⟨_, _, _, h, _⟩ := p; sm_trans h hid_sub
/-- an item more: H the heap at the turn's start, H4 behind the element -/
theorem pv_push (hD : H D = some (.lst acc)) (hl : acc.length ≤ i) (hs : Same H1 (hid H D)) (h4 : Same H H4) (hi : i < 100000) (r : R (i + 1) (acc ++ [y]) (hid H4 D)) :
    ∃ acc, H4 D = some (.lst acc) ∧ acc.length < sizeLine ∧ LcPv R H1 D (i + 1) (upd H4 D (.lst (acc ++ [y]))) :=
  ⟨acc, h4 D _ hD, Nat.lt_of_le_of_lt hl (Nat.lt_trans hi (by decide)), acc ++ [y], upd_same, by rw [List.length_append]; exact Nat.succ_le_succ hl, by rw [hid_upd]; exact sm_trans hs (same_hid h4), by rw [hid_upd]; exact r⟩
theorem pv_skip (hD : H D = some (.lst acc)) (hl : acc.length ≤ i) (hs : Same H1 (hid H D)) (h4 : Same H H4) (r : R (i + 1) acc (hid H4 D)) : LcPv R H1 D (i + 1) H4 :=
  ⟨acc, h4 D _ hD, Nat.le_succ_of_le hl, sm_trans hs (same_hid h4), r⟩
end
/-- the items are just f of the turns -/
def RMap (f : Nat → V) : Nat → List V → Hp → Prop := fun i acc _ => acc = (List.range i).map f
theorem rmap_push {f : Nat → V} {i : Nat} {acc : List V} {y : V} {H H' : Hp} (r : RMap f i acc H) (e : y = f i) : RMap f (i + 1) (acc ++ [y]) H' := by
  unfold RMap at r ⊢
  rw [List.range_succ, List.map_append, r, e] <;> rfl
theorem map_range_getD {α : Type} (l : List α) (d : α) (f : α → V) : (List.range l.length).map (fun i => f (l.getD i d)) = l.map f := by
  apply List.ext_getElem (by simp)
  intro i h1 h2
  rw [List.getElem_map, List.getElem_map, List.getElem_range]
  rw [List.length_map] at h2
  rw [LS.getD_at h2]
/-- the items are lists (or tuples) just made, told by their contents -/
def RRows (tup : Bool) (f : Nat → List V) : Nat → List V → Hp → Prop := fun i acc H => acc.length = i ∧ ∀ j, j < i → ∃ p, acc[j]? = some (.ref p) ∧ H p = some (if tup = true then .tup (f j) else .lst (f j))
theorem rrows_push {tup : Bool} {f : Nat → List V} {i : Nat} {acc : List V} {p : Addr} {H H' : Hp} (r : RRows tup f i acc H) (h : Same H H') (e : H' p = some (if tup = true then .tup (f i) else .lst (f i))) : RRows tup f (i + 1) (acc ++ [.ref p]) H' := by
  obtain ⟨r1, r2⟩ := r
  refine ⟨by rw [List.length_append, r1] <;> rfl, fun j hj => ?_⟩
  by_cases hji : j < i
  · obtain ⟨q, e1, e2⟩ := r2 j hji
    exact ⟨q, by rw [List.getElem?_append_left (by rw [r1]; exact hji)]; exact e1, h _ _ e2⟩
  · have : j = i := by omega
    subst this
    refine ⟨p, ?_, e⟩
    rw [List.getElem?_append_right (by omega), r1]
    simp
theorem valV_map {α : Type} [DecidableEq α] (key : α → Key) (inj : ∀ x y, key x = key y → x = y) (f : α → V) (x : α) : ∀ o : List α, valV (o.map fun q => (key q, f q)) (key x) = if x ∈ o then some (f x) else none
  | [] => rfl
  | y :: r => by
    rw [List.map_cons]
    by_cases e : y = x
    · subst e
      rw [if_pos List.mem_cons_self]
      exact valV_pos rfl
    · rw [valV_neg (fun z => e (inj _ _ z)), valV_map key inj f x r]
      by_cases hx : x ∈ r
      · rw [if_pos hx, if_pos (List.mem_cons_of_mem _ hx)]
      · rw [if_neg hx, if_neg (fun z => (List.mem_cons.mp z).elim (fun z => e z.symm) hx)]
abbrev nK (n : Nat) : Key := .inl (n : Int)
theorem nK_inj (x y : Nat) (h : nK x = nK y) : x = y := by
  have := Sum.inl.inj h
  omega
def seenOf (o : List Nat) : List (Key × V) := o.map fun q => (nK q, V.bl true)
theorem small5 {n : Nat} (h : n ≤ 200000) : n < sizeLine := Nat.lt_of_le_of_lt h (by decide)
/-! ### dict comprehensions -/
theorem dc_it {J : It} {n : Nat} {G : Hp → Prop} {Y : Nat → Hp → V → Hp → Prop} (w : Walk J n G Y) {g : TG} {tt : TT} {tk tv : TE} {vs : List Nat} {σ : L2.St} {H1 : Hp} {D : Addr} {Qd : Hp → Prop} (Pv : Nat → Hp → Prop) (h0 : Pv 0 (upd H1 D (.dK []))) (hG : ∀ i H, i ≤ n → Pv i H → G H)
    (hs : ∀ i x H H', i < n → Pv i H → Y i H x H' → g x (wipe σ vs) H' fun σ2 H2 => wipe σ2 vs = wipe σ vs ∧ tt σ2 H2 fun b H3 =>
      if b = true then tk σ2 H3 fun y H4 => tv σ2 H4 fun z H5 => ∃ kvs k, y = kV k ∧ H5 D = some (.dK kvs) ∧ kvs.length < sizeLine ∧ Pv (i + 1) (upd H5 D (.dK (putK kvs k z))) else Pv (i + 1) H3) (hd : ∀ H, Pv n H → Qd H) :
    ∃ W : Nat → Nat → Hp → Prop, (∃ m, W 0 m (upd H1 D (.dK []))) ∧ ∀ i m H, W i m H →
      (J.stop i H ∧ Qd H) ∨ (J.go i H ∧ ∃ Nx : Hp → Prop, (∀ H', Nx H' → ∃ m', m' < m ∧ W (i + 1) m' H') ∧ ∀ x H', J.yld i H x H' → g x (wipe σ vs) H' fun σ2 H2 => wipe σ2 vs = wipe σ vs ∧ tt σ2 H2 fun b H3 =>
        if b = true then tk σ2 H3 fun y H4 => tv σ2 H4 fun z H5 => ∃ kvs k, y = kV k ∧ H5 D = some (.dK kvs) ∧ kvs.length < sizeLine ∧ Nx (upd H5 D (.dK (putK kvs k z))) else Nx H3) := by
  refine ⟨fun i m H => m = n - i ∧ i ≤ n ∧ Pv i H, ⟨n, by simp, Nat.zero_le _, h0⟩, ?_⟩
  rintro i m H ⟨rfl, hi, p⟩
  have q := hG i H hi p
  by_cases hlt : i < n
  · refine .inr ⟨w.goes i H hlt q, Pv (i + 1), fun H' p' => ⟨n - (i + 1), by omega, rfl, hlt, p'⟩, fun x H' y => hs i x H H' hlt p (w.yields i H x H' hlt q y)⟩
  · have e : i = n := by omega
    subst e
    exact .inl ⟨w.stops H q, hd H p⟩
/-- a comprehension over a list or a tuple -/
theorem lc_sq {K : PySem.W.Frag} {a : Addr} {xs : List V} {g : TG} {tt : TT} {te : TE} {vs : List Nat} {σ : L2.St} {H0 H1 : Hp} {Qd : Addr → Hp → Prop} (hx : SqA K H0 a xs) (h01 : Same H0 H1) (Pv : Addr → Nat → Hp → Prop) (h0 : ∀ D, H1 D = none → Pv D 0 (upd H1 D (.lst [])))
    (hG : ∀ D i H, H1 D = none → i ≤ xs.length → Pv D i H → Same H0 H)
    (hs : ∀ D i x H, H1 D = none → xs[i]? = some x → Pv D i H → g x (wipe σ vs) H fun σ2 H2 => wipe σ2 vs = wipe σ vs ∧ tt σ2 H2 fun b H3 =>
      if b = true then te σ2 H3 fun y H4 => ∃ acc, H4 D = some (.lst acc) ∧ acc.length < sizeLine ∧ Pv D (i + 1) (upd H4 D (.lst (acc ++ [y]))) else Pv D (i + 1) H3) (hd : ∀ D H, H1 D = none → Pv D xs.length H → Qd D H) :
    ((∃ ys, SqL K H1 a ys) ∧ ∀ D, H1 D = none → ∃ W : Nat → Nat → Hp → Prop, (∃ m, W 0 m (upd H1 D (.lst []))) ∧ ∀ i m H, W i m H →
      ((Itl K a).stop i H ∧ Qd D H) ∨ ((Itl K a).go i H ∧ ∃ Nx : Hp → Prop, (∀ H', Nx H' → ∃ m', m' < m ∧ W (i + 1) m' H') ∧ ∀ x H', (Itl K a).yld i H x H' → g x (wipe σ vs) H' fun σ2 H2 => wipe σ2 vs = wipe σ vs ∧ tt σ2 H2 fun b H3 =>
        if b = true then te σ2 H3 fun y H4 => ∃ acc, H4 D = some (.lst acc) ∧ acc.length < sizeLine ∧ Nx (upd H4 D (.lst (acc ++ [y]))) else Nx H3)) ∨
    ((∃ ys, SqT K H1 a ys) ∧ ∀ D, H1 D = none → ∃ W : Nat → Nat → Hp → Prop, (∃ m, W 0 m (upd H1 D (.lst []))) ∧ ∀ i m H, W i m H →
      ((Itt K a).stop i H ∧ Qd D H) ∨ ((Itt K a).go i H ∧ ∃ Nx : Hp → Prop, (∀ H', Nx H' → ∃ m', m' < m ∧ W (i + 1) m' H') ∧ ∀ x H', (Itt K a).yld i H x H' → g x (wipe σ vs) H' fun σ2 H2 => wipe σ2 vs = wipe σ vs ∧ tt σ2 H2 fun b H3 =>
        if b = true then te σ2 H3 fun y H4 => ∃ acc, H4 D = some (.lst acc) ∧ acc.length < sizeLine ∧ Nx (upd H4 D (.lst (acc ++ [y]))) else Nx H3)) := by
  rcases hx with hx | hx
  · exact .inl ⟨⟨xs, SqL.same h01 hx⟩, fun D nD => lc_list (K := K) (a := a) (xs := xs) (Pv D) (h0 D nD) (fun i H hi p => SqL.same (hG D i H nD hi p) hx) (fun i x H e p => hs D i x H nD e p) fun H p => hd D H nD p⟩
  · exact .inr ⟨⟨xs, SqT.same h01 hx⟩, fun D nD => lc_tup (K := K) (a := a) (xs := xs) (Pv D) (h0 D nD) (fun i H hi p => SqT.same (hG D i H nD hi p) hx) (fun i x H e p => hs D i x H nD e p) fun H p => hd D H nD p⟩
end LW
end
section
set_option Elab.async false
set_option linter.all false
set_option maxRecDepth 100000
namespace LW
open PySem PySem.Spec PyProof.Rows L2
theorem bt_tuple : bootBuiltins "tuple" = some (.type "tuple") := by decide +kernel
theorem bt_list : bootBuiltins "list" = some (.type "list") := by decide +kernel
theorem bt_int : bootBuiltins "int" = some (.type "int") := by decide +kernel
theorem bt_str : bootBuiltins "str" = some (.type "str") := by decide +kernel
theorem bt_dict : bootBuiltins "dict" = some (.type "dict") := by decide +kernel
theorem bt_bool : bootBuiltins "bool" = some (.type "bool") := by decide +kernel
theorem bt_set : bootBuiltins "set" = some (.type "set") := by decide +kernel
theorem bt_range : bootBuiltins "range" = some (.type "range") := by decide +kernel
theorem bt_enumerate : bootBuiltins "enumerate" = some (.type "enumerate") := by decide +kernel
theorem bt_zip : bootBuiltins "zip" = some (.type "zip") := by decide +kernel
theorem bt_len : bootBuiltins "len" = some (.builtin "len") := by decide +kernel
theorem bt_isinstance : bootBuiltins "isinstance" = some (.builtin "isinstance") := by decide +kernel
theorem bt_any : bootBuiltins "any" = some (.builtin "any") := by decide +kernel
theorem bt_all : bootBuiltins "all" = some (.builtin "all") := by decide +kernel
theorem bt_sum : bootBuiltins "sum" = some (.builtin "sum") := by decide +kernel
theorem bt_abs : bootBuiltins "abs" = some (.builtin "abs") := by decide +kernel
/-- a def of the module -/
abbrev FunG (K : PySem.W.Frag) (mg : Str → Option Value) (x : Str) (st : Stmt) : Prop := ∃ (f : Addr) (fd : FuncData), mg x = some (.ref f) ∧ Fun K x x st f fd
/-- what the walks ask of the text as the top has made it -/
structure Txt (K : PySem.W.Frag) (mg : Str → Option Value) : Prop where
  b_len : mg "len" = none
  b_set : mg "set" = none
  b_tuple : mg "tuple" = none
  b_list : mg "list" = none
  b_int : mg "int" = none
  b_str : mg "str" = none
  b_dict : mg "dict" = none
  b_isinstance : mg "isinstance" = none
  b_range : mg "range" = none
  b_enumerate : mg "enumerate" = none
  b_zip : mg "zip" = none
  b_any : mg "any" = none
  b_all : mg "all" = none
  b_sum : mg "sum" = none
  b_abs : mg "abs" = none
  b_bool : mg "bool" = none
  f_reached : FunG K mg "reached" (top 2)
  f_numbered : FunG K mg "numbered" (top 3)
  f_parts : FunG K mg "parts" (top 4)
  f_least_table : FunG K mg "least_table" (top 5)
  f_both_told : FunG K mg "both_told" (top 6)
  f_paired : FunG K mg "paired" (top 7)
  f_mirrored : FunG K mg "mirrored" (top 8)
  g_ALPHABET : ∃ t, mg "ALPHABET" = some (.str "abcdefghijklmnopqrstuvwxyz" t)
  f_is_whole : FunG K mg "is_whole" (top 24)
  f_is_letters : FunG K mg "is_letters" (top 25)
  f_is_cell_string : FunG K mg "is_cell_string" (top 26)
  f_cell_told : FunG K mg "cell_told" (top 29)
  g_MOST_STATES : ∃ t, mg "MOST_STATES" = some (.int 64 t)
  g_MOST_LENGTH : ∃ t, mg "MOST_LENGTH" = some (.int 1000 t)
  f_need_values : FunG K mg "need_values" (top 33)
  f_is_word : FunG K mg "is_word" (top 35)
  f_need_room : FunG K mg "need_room" (top 36)
  g_MOST_RUNS : ∃ t, mg "MOST_RUNS" = some (.int 8 t)
  g_LONGEST_RUN : ∃ t, mg "LONGEST_RUN" = some (.int 30 t)
  g_MOST_MARKS : ∃ t, mg "MOST_MARKS" = some (.int 60 t)
  g_MOST_WORDS : ∃ t, mg "MOST_WORDS" = some (.int 20 t)
  g_LONGEST_WORD : ∃ t, mg "LONGEST_WORD" = some (.int 30 t)
  f_need_mark : FunG K mg "need_mark" (top 45)
  f_need_items : FunG K mg "need_items" (top 46)
  f_by_mark : FunG K mg "by_mark" (top 47)
  f_needed_cell : FunG K mg "needed_cell" (top 48)
  f_table_of_runs : FunG K mg "table_of_runs" (top 49)
  f_table_of_words : FunG K mg "table_of_words" (top 50)
  f_law_pen : FunG K mg "_law_pen" (top 60)
  f_law_draw : FunG K mg "_law_draw" (top 61)
  f_law_pick : FunG K mg "_law_pick" (top 62)
  f_law_letters : FunG K mg "_law_letters" (top 63)
  f_law_text : FunG K mg "_law_text" (top 64)
  f_law_just : FunG K mg "_law_just" (top 65)
  f_law_all_but : FunG K mg "_law_all_but" (top 66)
  f_law_marks_right : FunG K mg "_law_marks_right" (top 67)
  f_law_marked : FunG K mg "_law_marked" (top 68)
  f_law_parts_right : FunG K mg "_law_parts_right" (top 69)
  f_law_kinds : FunG K mg "_law_kinds" (top 70)
  f_law_seen_right : FunG K mg "_law_seen_right" (top 71)
  f_law_joined_right : FunG K mg "_law_joined_right" (top 72)
  f_law : FunG K mg "law" (top 73)

/-! ### a def of the module and its promise -/
structure Cal (P : Program) (w : World) (K : PySem.W.Frag) (mg : Str → Option Value) (base : Heap) (x : Str) (k : Nat) (ps : List Str) (sp : Sp) : Prop where
  ex : ∃ (f : Addr) (fd : FuncData), mg x = some (.ref f) ∧ PySem.W.keepIn K (.ref f) = true ∧ Binds K fd ps [] ∧ FnOk P w K mg base CX0 k f fd ps sp
section
variable {P : Program} {w : World} {K : PySem.W.Frag} {mg : Str → Option Value} {base : Heap}
theorem FunG.cal {x : Str} {st : Stmt} {N ps : List Str} {k : Nat} {sp : Sp} (g : FunG K mg x st) (S : FnScope N ps (defScope st))
    (hb : ∀ (kV doc pm : Value) (an : Option Addr) (cdv ct : Value) (us : List Value), us.length = ps.length → bindArgs (PySem.W.fnOf x x (defArgs st) (defBody st) (defScope st) .none kV doc pm an cdv ct) ⟨us, []⟩ = pure (ps.zip us))
    (len : ∀ vs H Q E, sp vs H Q E → vs.length = ps.length)
    (hbody : ∀ (f : Addr) (cdv : Value) (A : Around) (outer : List Env) (s : Shared) (H : Hp) (vs : List V) (Q : VK) (E : XK), Room k (A.deeper (envOfC x (defScope st) s.heap.objs.size f cdv)) → sp vs H Q E →
      ∃ t, PSs (cxOf CX0 P w K mg base N x (defScope st) f cdv A outer s H E).nox (defBody st) t ∧ t { nx := fun _ H' => Q .non H', rt := Q } (L2.start N vs) H) : Cal P w K mg base x (k + 1) ps sp := by
  obtain ⟨f, fd, hm, F⟩ := g
  exact ⟨f, fd, hm, F.kp, F.binds hb, F.ok S len (hbody f)⟩
/-- the reading of a call by its promise -/
def tCal (sp : Sp) (t : TA) : TE := fun σ H Q => t σ H fun vs H1 => sp vs H1 Q E0
theorem pe_cal {X : Cx} {x : Str} {j k : Nat} {ps : List Str} {sp : Sp} {e : Expr} {es : List Expr} {t : TA} {p pos : Pos} (c : Cal X.prog X.w X.K X.mg X.base x j ps sp) (hj : j ≤ k) (hr : Room k X.A) (ha : PA X (e :: es) t) (hg : Gl X x := by rfl)
    (hdb : (x == ("__debug__" : Str)) = false := by decide) (he : starEach (e :: es) X.env = (false, eval e X.env) :: starEach es X.env := by rfl) (hpl : (backTo pos (starEach es X.env)).any (·.1) = false := by rfl) :
    PE X (.Call (.Name x p) (e :: es) [] pos) (tCal sp t) := by
  obtain ⟨f, fd, hm, hk, hb, F⟩ := c.ex
  have q := pe_call (p := p) (pos := pos) F (hr.mono hj) hg hm hk hb .nil pass0 ha hdb he hpl
  have e0 : tCall sp [] E0 t = tCal sp t := by
    funext σ H Q
    unfold tCall tCal
    congr 1
    funext vs H1
    rw [List.append_nil]
  rw [e0] at q
  exact q
end

/-! ### rules with K given (within comprehensions the context's own K cannot be read off) -/
section
variable {X : Cx} {e o value a b : Expr} {f : Str} {pos pos' apos cpos : Pos} {te ta tv to tb : TE} {t : TA} {es : List Expr}
theorem ix_seqK (K : PySem.W.Frag) (h : X.K = K := by rfl) : IxR X (rIx K) := by subst h; exact ix_seq
theorem ix_listK (K : PySem.W.Frag) (h : X.K = K := by rfl) : IxR X (rIxL K) := by subst h; exact ix_list
theorem ix_tupK (K : PySem.W.Frag) (h : X.K = K := by rfl) : IxR X (rIxT K) := by subst h; exact ix_tup
theorem pi_seqK (K : PySem.W.Frag) {tg : Expr} (he : PE X e te) (h : X.K = K := by rfl) : PI X tg e (iSeq K te) := by subst h; exact pi_seq he
theorem pi_listK (K : PySem.W.Frag) {tg : Expr} (he : PE X e te) (h : X.K = K := by rfl) : PI X tg e (iList K te) := by subst h; exact pi_list he
theorem pi_tupK (K : PySem.W.Frag) {tg : Expr} (he : PE X e te) (h : X.K = K := by rfl) : PI X tg e (iTup K te) := by subst h; exact pi_tup he
theorem pi_enumK (K : PySem.W.Frag) {p tpos : Pos} {elts : List Expr} {kk : Nat} (hm : X.mg "enumerate" = none) (ha : PA X [e] t) (hg : Gl X "enumerate" := by rfl) (h : X.K = K := by rfl) (hs : starEach [e] X.env = [(false, eval e X.env)] := by rfl) :
    PI X (.Tuple elts kk tpos) (.Call (.Name "enumerate" p) [e] [] pos) (iEnum K t) := by subst h; exact pi_enum hg hm ha hs
theorem call_lenK (K : PySem.W.Frag) (h : X.K = K := by rfl) : CallR X (.builtin "len") (fun xs H Q => ∃ x n, xs = [x] ∧ LenV K x H n ∧ Q (.int n) H) := by subst h; exact call_len
theorem call_tupleK (K : PySem.W.Frag) (h : X.K = K := by rfl) : CallR X (.type "tuple") (fun xs H Q => ∃ p ys, xs = [.ref p] ∧ ((SqL K H p ys ∧ ∀ l, H l = none → Q (.ref l) (upd H l (.tup ys))) ∨ (SqT K H p ys ∧ Q (.ref p) H))) := by subst h; exact call_tuple_of
theorem call_listK (K : PySem.W.Frag) (h : X.K = K := by rfl) : CallR X (.type "list") (fun xs H Q => ∃ p ys, xs = [.ref p] ∧ (SqL K H p ys ∨ SqT K H p ys) ∧ ∀ l, H l = none → Q (.ref l) (upd H l (.lst ys))) := by subst h; exact call_list_of
theorem cr_sumK (K : PySem.W.Frag) (hc : X.calm = true := by rfl) (h : X.K = K := by rfl) : CallR X (.builtin "sum") (rSum K) := by subst h; exact cr_sum hc
theorem cr_anyK (K : PySem.W.Frag) (hc : X.calm = true := by rfl) (h : X.K = K := by rfl) : CallR X (.builtin "any") (rAny K) := by subst h; exact cr_any hc
theorem cr_allK (K : PySem.W.Frag) (hc : X.calm = true := by rfl) (h : X.K = K := by rfl) : CallR X (.builtin "all") (rAll K) := by subst h; exact cr_all hc
theorem call_isiKK (K : PySem.W.Frag) (h : X.K = K := by rfl) : CallR X (.builtin "isinstance") (rIsi K) := by subst h; exact call_isi
theorem mt_indexK (K : PySem.W.Frag) (h : X.K = K := by rfl) : MtR X "list.index" (rIndex K) := by subst h; exact mt_index
theorem mt_joinK (K : PySem.W.Frag) (h : X.K = K := by rfl) : MtR X "str.join" (fun x xs H Q => ∃ a p, ∃ ys : List Str, x = .str a ∧ xs = [.ref p] ∧ (SqL K H p (ys.map V.str) ∨ SqT K H p (ys.map V.str)) ∧ (ys.map (·.length)).sum + ys.length * a.length ≤ 16777216 ∧ Q (.str (Txt.join a ys)) H) := by subst h; exact mt_join
theorem op_in_seqK (K : PySem.W.Frag) (h : X.K = K := by rfl) : OpR X (compareOp .In) (rIn K false) := by subst h; exact op_in_seq
theorem op_eqDK (K : PySem.W.Frag) (hu : X.A.units + 64 < cLine) (h : X.K = K := by rfl) : OpR X (compareOp .Eq) (rEqD K) := by subst h; exact op_eqD hu
theorem op_neDK (K : PySem.W.Frag) (hu : X.A.units + 64 < cLine) (h : X.K = K := by rfl) : OpR X (compareOp .NotEq) (rNeD K) := by subst h; exact op_neD hu
theorem sl_listK (K : PySem.W.Frag) (h : X.K = K := by rfl) : SlR X (rSlL K) := by subst h; exact sl_list
theorem pe_fldK (K : PySem.W.Frag) (he : PE X e ta) (hb : attributeBase e f X.env (eval e X.env) = eval e X.env := by rfl) (h : X.K = K := by rfl) : PE X (.Attribute e f pos) (tFld K ta f) := by subst h; exact pe_fld he hb
theorem ps_fldK (K : PySem.W.Frag) (ha : PE X o ta) (hv : PE X value tv) (hs : swapsWith value (some (.Attribute o f pos')) pos.line X.env = pure false := by rfl) (h : X.K = K := by rfl) : PS X (.Assign [.Attribute o f pos'] value pos) (sFld K ta tv f) := by subst h; exact ps_fld ha hv hs
theorem pg_tupK (K : PySem.W.Frag) {k n : Nat} {gs : TGs} (hp : PGs X es gs) (hc : X.calm = true := by rfl) (hn : (assignEach es X.env).length = n := by rfl) (hst : (assignEach es X.env).findIdx? (·.1) = none := by rfl) (h : X.K = K := by rfl) : PG X (.Tuple es k pos) (gTup K n gs) := by subst h; exact pg_tup hc hp hn hst
theorem pg_lstK (K : PySem.W.Frag) {k n : Nat} {gs : TGs} (hp : PGs X es gs) (hc : X.calm = true := by rfl) (hn : (assignEach es X.env).length = n := by rfl) (hst : (assignEach es X.env).findIdx? (·.1) = none := by rfl) (h : X.K = K := by rfl) : PG X (.Tuple es k pos) (gUnl K n gs) := by subst h; exact pg_unl hc hp hn hst
theorem pe_bmK (K : PySem.W.Frag) {T : String} {name : Str} {id : String} {r : V → List V → Hp → VK → Prop} (pa : PlainAttrs T) (slot : Slot T name id) (hty : typeOf (.builtin id) = pure (.type "method_descriptor")) (hm : MtR X id r) (ho : PE X o to) (ha : PA X (e :: es) t)
    (h : X.K = K := by rfl) (hbase : attributeBase o name X.env (eval o X.env) = eval o X.env := by rfl)
    (hfew : ((backTo cpos (starEach (e :: es) X.env)).all (fun x => !x.1) && (backToKw cpos (keywordEach [] X.env)).all (fun x => x.1.isSome)
      && decide ((e :: es).length + ([] : List Keyword).length + (if ([] : List Keyword).isEmpty then 0 else 1) < 30)) = true := by rfl)
    (hline : (apos.endLine == cpos.line) = true := by rfl) (hs : starEach (e :: es) X.env = (false, eval e X.env) :: starEach es X.env := by rfl) (hplain : (backTo cpos (starEach es X.env)).any (·.1) = false := by rfl) :
    PE X (.Call (.Attribute o name apos) (e :: es) [] cpos) (tBM K T r to t) := by subst h; exact pe_bm pa slot hty hm ho ha hbase hfew hline hs hplain
theorem pa_starK (K : PySem.W.Frag) {p : Pos} (he : PE X e te) (hr : PA X es t) (h : X.K = K := by rfl) (hs : starEach (.Starred e p :: es) X.env = (true, eval e X.env) :: starEach es X.env := by rfl) : PA X (.Starred e p :: es) (StX.tStar K te t) := by subst h; exact StX.pa_star he hr hs
end
end LW
end
section
set_option Elab.async false
set_option linter.all false
set_option maxRecDepth 100000
set_option maxHeartbeats 2000000
/-! rules for own operators -/
namespace LW
open PySem PySem.Spec PyProof.Rows L2
/-- the class at C answers the special name nm with the def at f -/
structure Sp1 (K : PySem.W.Frag) (C f : Addr) (nm : Str) : Prop where
  at_ : PySem.W.findIn K (.ref C) nm = some (some (.ref f))
  fn : PySem.W.isFn K (.ref f) = true
section
variable {X : Cx} {pins : List (Addr × Obj)} {σ : L2.St} {H : Hp} {s : Shared}
theorem inst_of {a C dx : Addr} {fs : List (Str × V)} (I : Inv X pins σ H s) (h : H a = some (.ins C dx fs)) : ∃ od, PySem.W.InstAt s.heap a (PySem.W.instObj C dx) C (some od) := by
  obtain ⟨mA, J, _⟩ := ins_get I.hok h
  obtain ⟨od, J, _⟩ := J.look
  exact ⟨od, J⟩
/-- the def at f is called with us -/
theorem run_own {k : Nat} {f : Addr} {sp : Sp} {us : List Value} {vs : List V} {Q : VK} (F : FnR X.prog X.w X.K X.mg X.base CX0 k f sp) (hr : Room k X.A) (I : Inv X pins σ H s) (r : Vals vs us) (h : sp vs H Q E0) : wpAny (model X.prog X.w) X.A (call (.ref f) us) (EP X pins σ Q) X.xe s :=
  wpAny_call (run_fnR F hr pass0 I r h)
theorem run_own1 {k : Nat} {f : Addr} {sp : Sp} {us : List Value} {vs : List V} {Q : VK} (F : FnR X.prog X.w X.K X.mg X.base CX0 k f sp) (hr : Room (k + 1) X.A) (I : Inv X pins σ H s) (r : Vals vs us) (h : sp vs H Q E0) : wpAny (model X.prog X.w) X.A.in1 (call (.ref f) us) (EP X pins σ Q) X.xe s := by
  have e := I.env0
  have e0 : Env0 X.prog X.w X.K X.mg X.base X.A.in1 X.stack s H := ⟨e.frames, e.mod, e.bs, e.bsz, e.funs, e.frf, e.hok, e.bare⟩
  refine wpAny_call (codeAny_mono (F X.A.in1 X.stack s H us vs Q E0 hr.in1 e0 r h) fun r s' hq => ?_)
  cases r with
  | error e => exact (show False from hq).elim
  | ok fl =>
    cases fl with
    | ret w => exact I.after hq
    | next => exact False.elim hq
    | brk => exact False.elim hq
    | cont => exact False.elim hq
theorem cmp_back {Q : VK} {v : Value} {s' : Shared} (h : EP X pins σ Q v s') : PySem.W.CmpBack (EP X pins σ Q) v s' := by
  obtain ⟨x, H1, I1, r, q⟩ := h
  cases v with
  | notImplemented => cases x <;> first | (obtain ⟨_, z⟩ := r; cases z; done) | (cases r; done)
  | _ => exact ⟨x, H1, I1, r, q⟩
end
/-! ### one operand -/
def rOw1 (K : PySem.W.Frag) (f : Addr) (nm : Str) (sp : Sp) : V → Hp → VK → Prop := fun x H Q => ∃ a C dx fs, x = .ref a ∧ H a = some (.ins C dx fs) ∧ Sp1 K C f nm ∧ sp [.ref a] H Q E0
section
variable {X : Cx} {k : Nat} {f : Addr} {sp : Sp}
theorem un_ownNeg (F : FnR X.prog X.w X.K X.mg X.base CX0 k f sp) (hr : Room k X.A) : UnR X (unaryOp .USub) (rOw1 X.K f "__neg__" sp) := by
  intro pins s σ H x v Q I rx h
  obtain ⟨a, C, dx, fs, rfl, e, S, q⟩ := h
  cases rx
  obtain ⟨od, J⟩ := inst_of I e
  obtain ⟨m, hF⟩ := I.fr
  exact PySem.W.ksp_neg hF I.ok.mod.kin J S.at_ S.fn (run_own (vs := [.ref a]) F hr I (.cons rfl .nil) q)
theorem un_ownInv (F : FnR X.prog X.w X.K X.mg X.base CX0 k f sp) (hr : Room k X.A) : UnR X (unaryOp .Invert) (rOw1 X.K f "__invert__" sp) := by
  intro pins s σ H x v Q I rx h
  obtain ⟨a, C, dx, fs, rfl, e, S, q⟩ := h
  cases rx
  obtain ⟨od, J⟩ := inst_of I e
  obtain ⟨m, hF⟩ := I.fr
  exact PySem.W.ksp_inv hF I.ok.mod.kin J S.at_ S.fn (run_own (vs := [.ref a]) F hr I (.cons rfl .nil) q)
/-! ### two operands -/
def rOw2 (K : PySem.W.Frag) (op : Operator) (f : Addr) (sp : Sp) : R2 := fun x y H Q => ∃ a b C D dx dy fs gs, x = .ref a ∧ y = .ref b ∧ H a = some (.ins C dx fs) ∧ H b = some (.ins D dy gs) ∧ Sp1 K C f (PySem.dunder op.info.2) ∧ (∃ f2, Sp1 K D f2 (PySem.dunder op.info.2)) ∧ PySem.W.binIn K C D op.info.2 = true ∧ sp [.ref a, .ref b] H Q E0
theorem op_own {op : Operator} (F : FnR X.prog X.w X.K X.mg X.base CX0 k f sp) (hr : Room k X.A) (hn : (dunderR op.info.2).length ≤ sizeLine) : OpR X (binaryOp op) (rOw2 X.K op f sp) := by
  intro pins s σ H x y u v Q I rx ry h
  obtain ⟨a, b, C, D, dx, dy, fs, gs, rfl, rfl, e1, e2, S, ⟨f2, S2⟩, hb, q⟩ := h
  cases rx
  cases ry
  obtain ⟨od, J⟩ := inst_of I e1
  obtain ⟨od2, J2⟩ := inst_of I e2
  refine PySem.W.own_binop (Nat.lt_of_le_of_lt (Nat.le_add_right _ _) hr.units) I.kIn J J2 hr.hd hb S.at_ S.fn S2.at_ hn fun h' tk kp => ?_
  have I' : Inv X pins σ H { s with heap := h', toks := tk } := I.kept kp
  exact wpAny_mono (run_own (vs := [.ref a, .ref b]) F hr I' (.cons rfl (.cons rfl .nil)) q) (fun _ _ z => cmp_back z) fun _ _ e => e
/-! ### == and != -/
/-- the two are compared either way round with the same promise -/
def rOwEq (K : PySem.W.Frag) (f : Addr) (sp : Sp) : R2 := fun x y H Q => ∃ a b C D dx dy fs gs, x = .ref a ∧ y = .ref b ∧ H a = some (.ins C dx fs) ∧ H b = some (.ins D dy gs) ∧ Sp1 K C f "__eq__" ∧ Sp1 K D f "__eq__" ∧ PySem.W.ordIn K C D = true ∧
  sp [.ref a, .ref b] H Q E0 ∧ sp [.ref b, .ref a] H Q E0
theorem op_ownEq (F : FnR X.prog X.w X.K X.mg X.base CX0 k f sp) (hr : Room k X.A) : OpR X (compareOp .Eq) (rOwEq X.K f sp) := by
  intro pins s σ H x y u v Q I rx ry h
  obtain ⟨a, b, C, D, dx, dy, fs, gs, rfl, rfl, e1, e2, S, S2, hb, q, q2⟩ := h
  cases rx
  cases ry
  obtain ⟨od, J⟩ := inst_of I e1
  obtain ⟨od2, J2⟩ := inst_of I e2
  refine PySem.W.cmp_ofEq (PySem.W.own_rich hr.units0 I.kIn J J2 hb rfl ?_ ?_)
  · exact PySem.W.own_tryEq I.kIn J S.at_ S.fn (wpAny_mono (run_own (vs := [.ref a, .ref b]) F hr I (.cons rfl (.cons rfl .nil)) q) (fun _ _ z => cmp_back z) fun _ _ e => e)
  · exact PySem.W.own_tryEq I.kIn J2 S2.at_ S2.fn (wpAny_mono (run_own (vs := [.ref b, .ref a]) F hr I (.cons rfl (.cons rfl .nil)) q2) (fun _ _ z => cmp_back z) fun _ _ e => e)
structure NeD (K : PySem.W.Frag) (C : Addr) : Prop where
  at_ : PySem.W.findIn K (.ref C) "__ne__" = some (some (.builtin "object.__ne__"))
  ob : PySem.W.mroIn K C (.type "object") = some true
def rOwNe (K : PySem.W.Frag) (f : Addr) (sp : Sp) : R2 := fun x y H Q => ∃ a b C D dx dy fs gs, x = .ref a ∧ y = .ref b ∧ H a = some (.ins C dx fs) ∧ H b = some (.ins D dy gs) ∧ Sp1 K C f "__eq__" ∧ Sp1 K D f "__eq__" ∧ NeD K C ∧ NeD K D ∧ PySem.W.ordIn K C D = true ∧
  sp [.ref a, .ref b] H (fun v H1 => ∃ c, v = .bl c ∧ Q (.bl (!c)) H1) E0 ∧ sp [.ref b, .ref a] H (fun v H1 => ∃ c, v = .bl c ∧ Q (.bl (!c)) H1) E0
theorem op_ownNe (F : FnR X.prog X.w X.K X.mg X.base CX0 k f sp) (hr : Room (k + 1) X.A) : OpR X (compareOp .NotEq) (rOwNe X.K f sp) := by
  intro pins s σ H x y u v Q I rx ry h
  obtain ⟨a, b, C, D, dx, dy, fs, gs, rfl, rfl, e1, e2, S, S2, N1, N2, hb, q, q2⟩ := h
  cases rx
  cases ry
  obtain ⟨od, J⟩ := inst_of I e1
  obtain ⟨od2, J2⟩ := inst_of I e2
  have hu : X.A.units + 1 < cLine := by have := hr.un; omega
  have back : ∀ v s', EP X pins σ (fun v H1 => ∃ c, v = .bl c ∧ Q (.bl (!c)) H1) v s' → ∃ b, v = .bool b ∧ EP X pins σ Q (.bool (!b)) s' := fun v s' z => by
    obtain ⟨x, H1, I1, r, c, rfl, q⟩ := z
    cases r
    exact ⟨c, rfl, .bl (!c), H1, I1, rfl, q⟩
  refine PySem.W.cmp_ofNotEq (PySem.W.own_rich hr.units0 I.kIn J J2 hb rfl ?_ ?_)
  · exact PySem.W.own_tryNe hu I.kIn J N1.at_ N1.ob S.at_ S.fn (wpAny_mono (run_own1 (vs := [.ref a, .ref b]) F hr I (.cons rfl (.cons rfl .nil)) q) back fun _ _ e => e)
  · exact PySem.W.own_tryNe hu I.kIn J2 N2.at_ N2.ob S2.at_ S2.fn (wpAny_mono (run_own1 (vs := [.ref b, .ref a]) F hr I (.cons rfl (.cons rfl .nil)) q2) back fun _ _ e => e)
/-! ### in, truth -/
def rOwIn (K : PySem.W.Frag) (f : Addr) (sp : Sp) (neg : Bool) : R2 := fun x y H Q => ∃ b C dy gs, y = .ref b ∧ H b = some (.ins C dy gs) ∧ Sp1 K C f "__contains__" ∧ sp [.ref b, x] H (fun v H1 => ∃ c, v = .bl c ∧ Q (.bl (c != neg)) H1) E0
theorem op_ownIn (F : FnR X.prog X.w X.K X.mg X.base CX0 k f sp) (hr : Room k X.A) : OpR X (compareOp .In) (rOwIn X.K f sp false) := by
  intro pins s σ H x y u v Q I rx ry h
  obtain ⟨b, C, dy, gs, rfl, e, S, q⟩ := h
  cases ry
  obtain ⟨od, J⟩ := inst_of I e
  obtain ⟨m, hF⟩ := I.fr
  refine PySem.W.in_K hF I.ok.mod.kin J S.at_ S.fn (wpAny_mono (run_own (vs := [.ref b, x]) F hr I (.cons rfl (.cons rx .nil)) q) (fun v s' z => ?_) fun _ _ e => e)
  obtain ⟨y, H1, I1, r, c, rfl, q⟩ := z
  cases r
  refine wpAny_truthy_bool ⟨.bl c, H1, I1, rfl, ?_⟩
  simpa using q
theorem op_ownNotIn (F : FnR X.prog X.w X.K X.mg X.base CX0 k f sp) (hr : Room k X.A) : OpR X (compareOp .NotIn) (rOwIn X.K f sp true) := by
  intro pins s σ H x y u v Q I rx ry h
  obtain ⟨b, C, dy, gs, rfl, e, S, q⟩ := h
  cases ry
  obtain ⟨od, J⟩ := inst_of I e
  obtain ⟨m, hF⟩ := I.fr
  refine PySem.W.notIn_K hF I.ok.mod.kin J S.at_ S.fn (wpAny_mono (run_own (vs := [.ref b, x]) F hr I (.cons rfl (.cons rx .nil)) q) (fun v s' z => ?_) fun _ _ e => e)
  obtain ⟨y, H1, I1, r, c, rfl, q⟩ := z
  cases r
  refine wpAny_truthy_bool ⟨.bl (!c), H1, I1, rfl, ?_⟩
  cases c <;> simpa using q
end
end LW
end
section
set_option Elab.async false
set_option linter.all false
set_option maxRecDepth 100000
set_option maxHeartbeats 2000000
/-! bool(x) of an own class -/
namespace LW
open PySem PySem.Spec PyProof.Rows L2
section
variable {prog : Program} {w : World} {A : Around} {E : Value → Shared → Prop} {s : Shared} {K : PySem.W.Frag} {x C D f : Addr} {ox od : Obj} {odd : Option Obj}
theorem bool_own {Q : Value → Shared → Prop} (X : K.In s.heap) (I : PySem.W.InstAt s.heap x ox C odd) (hs : PySem.W.findIn K (.ref C) "__bool__" = some (some (.ref f))) (hf : PySem.W.isFn K (.ref f) = true)
    (h : wpAny (model prog w) A.in1.in1 (call (.ref f) [.ref x]) (fun r s₁ => ∃ b, r = Value.bool b ∧ Q r s₁) E s) : wpAny (model prog w) A (call (.type "bool") [.ref x]) Q E s := by
  refine callType_codes (T := "bool") (Bi := Builtin.«object.__init__») (Q₁ := fun r s₁ => ∃ b, r = Value.bool b ∧ Q r s₁) PySem.F.called_bool (PySem.F.typeCall_bool_1 _) PySem.F.entry_object_init ?_ ?_
  · refine codeAny_of_tree ?_
    show wpAny _ A.in1.in1 (do checkBuiltinCall "bool.__new__" ⟨[.type "bool", .ref x], []⟩; again (.builtin "bool.__new__" ⟨[.type "bool", .ref x], []⟩)) _ _ s
    refine wpAny_bind (wpAny_of_eq (PySem.F.newCall_bool_1 _) (wpAny_pure ⟨plainId_quiet (by decide +kernel) _, codeAny_builtin PySem.F.entry_bool_new ?_⟩))
    rw [Around.under_plainId (by decide +kernel) _]
    unfold Builtin.«bool.__new__»
    refine wpAny_bind (wpAny_of_eq (a := true) (by first | rfl | kernel_rfl | (unfold isType; rw [isSubtype_type]; kernel_rfl)) ?_)
    refine PySem.W.KFB.if_not rfl ?_
    refine wpAny_bind (wpAny_of_eq (a := true) PySem.F.conv_sub_bool ?_)
    refine PySem.W.KFB.if_not rfl ?_
    have one : wpAny (model prog w) A.in1.in1 (truthy (.ref x)) (fun b s₁ => Q (.bool b) s₁) E s := by
      unfold truthy
      refine wpAny_bind (m := callSpecial? (.ref x) (Str.ofString "__bool__")) (PySem.W.special_fn X I hs (beq_iff_eq.mp hf) (wpAny_mono h (fun r s' hr => ?_) fun _ _ y => y))
      obtain ⟨b, rfl, q⟩ := hr
      exact wpAny_pure q
    refine wpAny_bind (wpAny_of_eq (a := [Value.ref x]) (by first | rfl | kernel_rfl) ?_)
    refine wpAny_bind (wpAny_mono one (fun b s' hq => ?_) fun _ _ y => y)
    exact wpAny_pure ⟨b, rfl, hq⟩
  · rintro obj s₁ ⟨b, rfl, hq⟩
    exact ⟨rfl, PySem.F.args_object_init_2 _ _, object_init_meets PySem.F.called_bool.init.lookup PySem.F.called_bool.made (by decide) prog w A.in1 _ s₁ ⟨rfl, rfl, hq⟩⟩
end
def rBoolOw (K : PySem.W.Frag) (f : Addr) (sp : Sp) : List V → Hp → VK → Prop := fun xs H Q => ∃ a C dx fs, xs = [.ref a] ∧ H a = some (.ins C dx fs) ∧ Sp1 K C f "__bool__" ∧ sp [.ref a] H (fun v H1 => ∃ c, v = .bl c ∧ Q (.bl c) H1) E0
theorem call_boolOw {X : Cx} {k : Nat} {f : Addr} {sp : Sp} (F : FnR X.prog X.w X.K X.mg X.base CX0 k f sp) (hr : Room (k + 2) X.A) : CallR X (.type "bool") (rBoolOw X.K f sp) := by
  intro pins s σ H xs us Q I r h
  obtain ⟨a, C, dx, fs, rfl, e, S, q⟩ := h
  obtain rfl := Vals.ref1 r
  obtain ⟨od, J⟩ := inst_of I e
  have hr2 : Room k X.A.in1.in1 := (show Room (k + 1) X.A.in1 from Room.in1 hr).in1
  refine bool_own I.kIn J S.at_ S.fn (wpAny_mono (wpAny_call (SlX.run_at (us := [.ref a]) (ws := [.ref a]) F hr2 I.env0.in1.in1 pass0 I (.cons rfl .nil) q)) (fun w s' z => ?_) fun _ _ x => x)
  obtain ⟨z', H', I', rz, c, rfl, qz⟩ := z
  cases rz
  exact ⟨c, rfl, .bl c, H', I', rfl, qz⟩
end LW
end
section
set_option Elab.async false
set_option linter.all false
set_option maxRecDepth 100000
set_option maxHeartbeats 2000000
/-! a lambda of one parameter handed to a def that calls it -/
namespace LW
open PySem PySem.Spec PyProof.Rows L2 LamX
/-- the lambda's names: its parameter, captured ones, globals -/
structure LamS1 (sc scope : Scope) (pn : Str) : Prop where
  kind : scope.kind = .function
  co : scope.isCoroutine = false
  gen : scope.isGenerator = false
  par : scope.names.lookup pn = some .local
  own : ∀ y ∈ scope.names, (y.2 = .local → y.1 = pn) ∧ y.2 ≠ .cell
  free : ∀ y ∈ scope.names, y.2 = .free → sc.names.lookup y.1 = some .cell ∨ sc.names.lookup y.1 = some .free
theorem LamS1.has {X : Cx} {scope : Scope} {pn : Str} (L : LamS1 X.env.scope scope pn) (ok : X.Ok) : ∀ y ∈ scope.names, y.2 = .free → ∃ c, X.env.cells.lookup y.1 = some c := fun y hy e => by
  rcases L.free y hy e with k | k
  · exact ok.has _ (.inl k)
  · exact ok.has _ (.inr k)
/-- the context of the lambda's body, entered at s from the frames outer -/
def lamCx1 (X : Cx) (pn : Str) (A : Around) (outer : List Env) (s : Shared) (H : Hp) (scope : Scope) (f c' : Addr) : Cx where
  prog := X.prog
  w := X.w
  K := X.K
  mg := X.mg
  base := X.base
  A := A.deeper (lamEnv X scope s.heap.objs.size f c')
  N := X.N ++ [pn]
  s_0 := s
  H_0 := H
  env := lamEnv X scope s.heap.objs.size f c'
  outer := outer
  stack := lamEnv X scope s.heap.objs.size f c' :: outer
  ex := []
  fn := fun _ => false
  calm := true
  pn := []
  xe := fun _ _ => False
section
variable {X : Cx} {pins : List (Addr × Obj)} {σ : L2.St} {H HZ : Hp} {s s1 : Shared}
theorem lam_start1 {pn : Str} {u : Value} {v : V} {A : Around} {outer : List Env} {scope : Scope} {f c' : Addr} {h₁ : Heap} {tk : Nat} (I : Inv X pins σ H s) (L : LamS1 X.env.scope scope pn) (hpn : pn ∉ X.N) (e0 : Env0 X.prog X.w X.K X.mg X.base A outer s1 HZ) (hd : A.handled = none)
    (un : Un (frs X.stack) [] H HZ s.heap s1.heap) (rv : RelV v u) (hns : h₁.Ns s1.heap.objs.size fun y => [(pn, u)].reverse.lookup y) (kp : ∀ b o, s1.heap.get? b = some o → h₁.get? b = some o) :
    Inv (lamCx1 X pn A outer s1 HZ scope f c') [] (σ ++ [some v]) HZ { s1 with heap := h₁, toks := tk } := by
  have hfree := L.has I.ok
  have cm : ∀ {y c}, (cloFrom X.env.cells scope.names []).lookup y = some c → X.env.cells.lookup y = some c := fun {y c} e => by
    rcases cloFrom_mem (PySem.mem_of_lookup e) with hm | ⟨h1, h2⟩
    · cases hm
    · obtain ⟨c1, hc⟩ := hfree _ h1 rfl
      have hc : X.env.cells.lookup y = some c1 := hc
      have e2 : c = c1 := by
        rw [h2, hc] <;> rfl
      rw [e2]
      exact hc
  have look : ∀ {y}, scope.names.lookup y = some .free → ∃ c, (cloFrom X.env.cells scope.names []).lookup y = some c := fun {y} hl => by
    have hy : (y, NameKind.free) ∈ scope.names := PySem.mem_of_lookup hl
    exact mem_lookup (cloFrom_has (cells := X.env.cells) (acc := []) hy)
  have cellK : ∀ {c : Addr} {v : Option Value}, H c = none → s.heap.IsCell c v → h₁.IsCell c v := fun {c v} n ⟨o, ho, hd⟩ => by
    obtain ⟨sl, q⟩ := un.any ho n (by simp)
    exact ⟨_, kp _ _ q, hd⟩
  have noA : ∀ b : Addr, b ∉ (lamCx1 X pn A outer s1 HZ scope f c').ex := fun b z => absurd (show b ∈ ([] : List Addr) from z) (by simp)
  refine ⟨⟨e0.mod, L.kind, rfl, rfl, Nat.le_refl _, fun y z c e1 e2 => I.ok.inj y z c (cm e1) (cm e2), fun y hy => ?_, fun y c z _ => ?_, fun _ => hd, Around.frames_deeper e0.frames, .inr ⟨rfl, rfl⟩, fun b z => absurd z (noA b), e0.bs, e0.bsz, fun b _ _ => noA b,
      fun b z => absurd z (noA b), e0.funs, e0.frf⟩,
    rfl, e0.bare, Un.kept kp, ⟨_, hns, fun i y v' e1 e2 e3 => ?_⟩, fun y c e => ?_, e0.hok.fresh (Nat.le_refl _), fun y c e => ?_, fun q hq => absurd (show q ∈ ([] : List (Addr × Obj)) ++ [] from hq) (by simp), e0.hok.kept kp, ?_⟩
  · have hy : scope.names.lookup y = some .cell ∨ scope.names.lookup y = some .free := hy
    rcases hy with hy | hy
    · exact absurd rfl (L.own _ (PySem.mem_of_lookup hy)).2
    · exact look hy
  · have z : false = true := z
    cases z
  · have e1 : (X.N ++ [pn])[i]? = some y := e1
    have e3 : Vis scope y := e3
    have len := I.len
    by_cases hi : i < X.N.length
    · rw [List.getElem?_append_left hi] at e1
      rw [List.getElem?_append_left (by omega)] at e2
      have hyN : y ∈ X.N := List.mem_of_getElem? e1
      rcases e3 with k | k | k
      · exact absurd ((L.own _ (PySem.mem_of_lookup k)).1 rfl) (fun z => hpn (by rw [← z]; exact hyN))
      · exact absurd rfl (L.own _ (PySem.mem_of_lookup k)).2
      · obtain ⟨m, hn, hl⟩ := I.loc
        have hvis : Vis X.env.scope y := (L.free _ (PySem.mem_of_lookup k) rfl).elim (fun k => .inr (.inl k)) (fun k => .inr (.inr k))
        obtain ⟨w', r, q⟩ := hl i y v' e1 e2 hvis
        obtain ⟨c2, h2⟩ := look k
        refine ⟨w', r, .inr ⟨.inr k, c2, h2, ?_⟩⟩
        have c1 := cm h2
        rcases q with ⟨k', _⟩ | ⟨_, c3, e', z⟩
        · have k' : X.env.scope.names.lookup y = some .local := k'
          rcases L.free _ (PySem.mem_of_lookup k) rfl with k2 | k2 <;> rw [show X.env.scope.names.lookup y = _ from k2] at k' <;> cases k'
        · rw [c1] at e'
          cases e'
          exact cellK (I.freeC y _ c1) z
    · have hi2 : i = X.N.length := by
        have := (List.getElem?_eq_some_iff.mp e1).1
        rw [List.length_append, List.length_singleton] at this
        omega
      subst hi2
      rw [List.getElem?_append_right (Nat.le_refl _), Nat.sub_self] at e1
      have ey : pn = y := Option.some.inj e1
      subst ey
      rw [List.getElem?_append_right (by omega), len, Nat.sub_self] at e2
      have ev : v = v' := Option.some.inj (Option.some.inj e2)
      subst ev
      exact ⟨u, rv, .inl ⟨L.par, by simp [List.lookup]⟩⟩
  · obtain ⟨w', z⟩ := I.cell y c (cm e)
    exact ⟨w', cellK (I.freeC y c (cm e)) z⟩
  · obtain ⟨v, o, ho, hd⟩ := I.cell y c (cm e)
    exact un.free c o ho (I.freeC y c (cm e)) (by simp)
  · have := I.len
    show (σ ++ [some v]).length = (X.N ++ [pn]).length
    rw [List.length_append, List.length_append, this] <;> rfl
/-- x(e), in the def that got the lambda; that def's context was entered at s -/
theorem pe_act1 {pn : Str} {Ng : List Str} {qg : Str} {sg : Scope} {g f c' : Addr} {cdg pm ctv : Value} {params : Arguments} {body : Expr} {scope : Scope} {k i : Nat} {a : Str} {tb : TE} {p1 p2 : Pos} {e : Expr} {te : TE}
    (I : Inv X pins σ H s) (L : LamS1 X.env.scope scope pn) (hpn : pn ∉ X.N) (hf : s.heap.get? f = some (PySem.W.kla_obj "<lambda>" (X.env.qual ++ "<lambda>") params body scope (cloFrom X.env.cells scope.names []) pm c' ctv)) (hfn : H f = none) (hfr : f ∉ frs X.stack)
    (hbind : ∀ u, bindArgs (PySem.W.kla_fn "<lambda>" (X.env.qual ++ "<lambda>") params body scope (cloFrom X.env.cells scope.names []) pm (.ref c') ctv) ⟨[u], []⟩ = pure [(pn, u)])
    (hr : Room (k + 1) (X.A.deeper (envOfC qg sg s.heap.objs.size g cdg)))
    (hbody : ∀ (A : Around) (outer : List Env) (s : Shared) (H : Hp), Room k (A.deeper (lamEnv X scope s.heap.objs.size f c')) → PE (lamCx1 X pn A outer s H scope f c') body tb)
    (he : PE (cxOf CX0 X.prog X.w X.K X.mg X.base Ng qg sg g cdg X.A X.stack s H E0).nox e te)
    (hN : Ng[i]? = some a) (hv : Vis sg a) (hd : (a == ("__debug__" : Str)) = false := by decide) (hcd : (a == ("__classdict__" : Str)) = false := by decide)
    (hst : starEach [e] (envOfC qg sg s.heap.objs.size g cdg) = (false, eval e (envOfC qg sg s.heap.objs.size g cdg)) :: starEach [] (envOfC qg sg s.heap.objs.size g cdg) := by rfl) :
    PE (cxOf CX0 X.prog X.w X.K X.mg X.base Ng qg sg g cdg X.A X.stack s H E0).nox (.Call (.Name a p1) [e] [] p2)
      (fun σZ HZ Q => σZ[i]? = some (some (.ref f)) ∧ te σZ HZ fun v H1 => H1 c' = some (CodeO c' (X.env.qual ++ "<lambda>")) ∧ tb (σ ++ [some v]) H1 Q) := by
  refine ⟨fun pinsZ sZ σZ HZ Q IZ h => ?_⟩
  obtain ⟨hs, ht⟩ := h
  refine wpAny_Call_Name_kw (thn ((pe_var (pos := p1) (i := i) hN hv hd hcd).run pinsZ sZ σZ HZ (fun v H1 => v = .ref f ∧ H1 = HZ) IZ ⟨.ref f, hs, rfl, rfl⟩) fun u s1 ⟨v, H1, I1, r1, q1⟩ => ?_)
  obtain ⟨ev, eH⟩ := q1
  subst ev
  rw [eH] at I1
  obtain rfl : u = Value.ref f := r1
  have of_ : ∀ {σ2 : L2.St} {H2 : Hp} {s2 : Shared} {pins2 : List (Addr × Obj)}, Inv (cxOf CX0 X.prog X.w X.K X.mg X.base Ng qg sg g cdg X.A X.stack s H E0).nox pins2 σ2 H2 s2 →
      s2.heap.get? f = some (PySem.W.kla_obj "<lambda>" (X.env.qual ++ "<lambda>") params body scope (cloFrom X.env.cells scope.names []) pm c' ctv) := fun J => J.base.keep f _ hf hfn hfr (fun z => nomatch (show f ∈ ([] : List Addr) from z))
  refine PySem.W.callWith_F (first := []) ⟨_, _, _, _, of_ I1⟩ ?_ hst (by rfl)
  show wpAny (model X.prog X.w) (X.A.deeper (envOfC qg sg s.heap.objs.size g cdg)) (spliced (backTo p2 (starEach [e] (envOfC qg sg s.heap.objs.size g cdg)))) _ _ s1
  rw [hst]
  show wpAny (model X.prog X.w) (X.A.deeper (envOfC qg sg s.heap.objs.size g cdg)) (spliced ((false, eval e (envOfC qg sg s.heap.objs.size g cdg)) :: backTo p2 (starEach [] (envOfC qg sg s.heap.objs.size g cdg)))) _ _ s1
  refine Calls.spliced_cons (thn (he.run pinsZ s1 σZ HZ _ I1 ht) fun iv s2 ⟨y, H2, I2, ry, hc, q2⟩ => Calls.spliced_nil ⟨⟨_, _, _, _, of_ I2⟩, ?_⟩)
  have un : Un (frs X.stack) [] H H2 s.heap s2.heap := I2.base
  obtain ⟨⟨oc, vs, t, hoc, hdc, hvc⟩, _, _⟩ := I2.hok c' _ hc
  have rc : codeAny (model X.prog X.w) (X.A.deeper (envOfC qg sg s.heap.objs.size g cdg)) (.call (.ref f) ⟨[iv], []⟩) (CR CX0 (envOfC qg sg s.heap.objs.size g cdg :: X.stack) X.prog X.w H2 s2 Q E0) s2 := by
    refine PySem.W.kla_callFunE hr.depth (of_ I2) rfl L.co L.gen rfl ⟨c', oc, vs, t, rfl, hoc, hdc, hvc⟩ ?_
    rw [hbind]
    refine wpAny_pure (wpAny_newFunctionEnv (fun y hy => (L.own y hy).2) (fun y hy => ?_) (fun h₁ hns hsb => ⟨I2.nolimit.fresh _ hsb, ?_⟩) L.kind)
    · rw [List.mem_singleton] at hy
      subst hy
      exact L.par
    show codeAny _ _ (.expr body (lamEnv X scope s2.heap.objs.size f c')) _ _
    have kp : ∀ b o, s2.heap.get? b = some o → h₁.get? b = some o := fun b o e => hsb.extBut b o (Nat.ne_of_lt (Heap.lt_size e)) (Heap.get?_push_of_some _ e)
    have J : Inv (lamCx1 X pn (X.A.deeper (envOfC qg sg s.heap.objs.size g cdg)) (envOfC qg sg s.heap.objs.size g cdg :: X.stack) s2 H2 scope f c') [] (σ ++ [some y]) H2 { s2 with heap := h₁, toks := s2.toks + [(pn, iv)].length } :=
      lam_start1 I L hpn I2.env0 hr.hd un ry hns kp
    refine PySem.W.kla_codeExpr (wpAny_mono ((hbody _ _ s2 H2 (hr.deeper _)).run [] _ _ H2 Q J q2) (fun v s' hq => ?_) fun e s' hq => hq.elim)
    obtain ⟨w', H', J', rv, q⟩ := hq
    exact ⟨w', H', J'.os, J'.bare, J'.base, J'.hok, rv, q⟩
  refine wpAny_call (codeAny_mono rc fun r s' hq => ?_)
  cases r with
  | error e => exact (show False from hq).elim
  | ok fl =>
    cases fl with
    | ret u => exact I2.after hq
    | next => exact False.elim hq
    | brk => exact False.elim hq
    | cont => exact False.elim hq
end
end LW
end
section
set_option Elab.async false
set_option linter.all false
set_option maxRecDepth 100000
namespace LW
open PySem L2
abbrev st_reached : Stmt := top 2
theorem sc_reached : FnScope ["steps", "order", "seen", "at", "later"] ["steps"] (defScope st_reached) := ⟨rfl, rfl, rfl, by decide +kernel, rfl, by decide +kernel, by decide +kernel⟩
/-- reached: the order of a table's states -/
def spReached (K : PySem.W.Frag) : Sp := fun vs H Q _ => ∃ (a : Addr) (st : List (List Nat)) (f : Nat) (o : List Nat), vs = [.ref a] ∧ RowsAt K H a st ∧ st.length ≤ 100000 ∧ (∀ r ∈ st, ∀ q ∈ r, q < st.length) ∧ 0 < st.length ∧
  LS.bfs (fun q => st.getD q []) f [0] 0 = some o ∧ ∀ p H', Same H H' → H p = none → H' p = some (.lst (o.map nV)) → Q (.ref p) H'
section
variable {P : Program} {w : World} {K : PySem.W.Frag} {mg : Str → Option Value} {base : Heap}
theorem c_reached (T : Txt K mg) : Cal P w K mg base "reached" 1 ["steps"] (spReached K) := by
  refine FunG.cal T.f_reached sc_reached (fun _ _ _ _ _ _ us hl => match us, hl with | [_], _ => rfl) (fun vs H Q E h => ?_) (fun f cdv A outer s H vs Q E hr h => ?_)
  · obtain ⟨a, st, f, o, rfl, _⟩ := h
    rfl
  · obtain ⟨a, st, fl, o, rfl, hR, hz, hlt, hpos, hb, k⟩ := h
    have hu := hu_of hr
    refine ⟨_, (pss_cons (ps_set (i := 1) sc_reached.nd rfl (Or.inl rfl) (pe_lst (pa_cons pe_int pa_nil)))
  (pss_cons (ps_set (i := 2) sc_reached.nd rfl (Or.inl rfl) (pe_disp (pps_cons pe_int pe_bl pps_nil) (by rfl) (by rfl) (fun z => by cases z) (by decide)))
  (pss_cons (ps_set (i := 3) sc_reached.nd rfl (Or.inl rfl) pe_int)
  (pss_cons (ps_while PassesOwn.never (pt_cmpR op_lt (pv 3) (pe_callB call_len (by rfl) T.b_len PySem.boot_len (pa_cons (pv 1) pa_nil)) (nomark _))
  (pss_cons (ps_for PassesOwn.never rfl (pi_seq (pe_ix ix_seq (pv 0) (pe_ix ix_list (pv 1) (pv 3) (fun _ _ => rfl)) (fun _ _ => rfl))) (pg_name (i := 4) sc_reached.nd rfl (Or.inl rfl))
  (pss_one (ps_if (pt_cmp (pc_dnotin hu (pv 4) (pv 2))) (pss_cons (ps_dput hu (pv 2) (pv 4) pe_bl rfl)
  (pss_one (ps_expr (pe_bm PySem.F.plainAttrs_list PySem.F.slot_list_append PySem.F.type_list_append mt_append (pv 1) (pa_cons (pv 4) pa_nil)))))
  pss_nil)))
  (pss_one (ps_aug (i := 3) sc_reached.nd rfl (Or.inl rfl) pe_int ip_add))))
  (pss_one (ps_ret (pv 1))))))), ?_⟩
    refine ⟨by show 1 ≤ sizeLine; decide, fun l hl => ?_⟩
    intro d hd
    refine ⟨upd_same, [(nK 0, .bl true)], rfl, by decide, ?_⟩
    have nld : l ≠ d := fun z => by subst z; rw [upd_same] at hd; cases hd
    have hd0 : H d = none := by rw [upd_ne (Ne.symm nld)] at hd; exact hd
    -- while at < len(order)
    refine ⟨fun m σ' H' => ∃ (o' : List Nat) (i : Nat) (v : Option V), σ' = [some (.ref a), some (.ref l), some (.ref d), some (nV i), v] ∧ LS.bfs (fun q => st.getD q []) m o' i = some o ∧ Same H H' ∧ H' l = some (.lst (o'.map nV)) ∧ H' d = some (.dK (seenOf o')) ∧
      (∀ q ∈ o', q < st.length) ∧ o'.Nodup, ⟨fl, [0], 0, none, rfl, hb, ?_, ?_, upd_same, ?_, by simp⟩, ?_⟩
    · exact sm_upd (sm_upd (sm_upd (Same.refl H) hl) hd0) hd0
    · rw [upd_ne nld, upd_ne nld, upd_same] <;> rfl
    · intro q hq
      rw [List.mem_singleton] at hq
      subst hq
      exact hpos
    rintro m σ' H1 ⟨o', i, v, rfl, eb, sm, el, ed, ho, nd⟩
    refine ⟨_, rfl, _, rfl, _, o'.length, rfl, .inl ⟨_, SqL.of el, by simp⟩, _, _, rfl, rfl, _, rfl, ?_⟩
    by_cases hi : i < o'.length
    · have hi' : ((i : Int) < (o'.length : Int)) := by omega
      rw [decide_eq_true hi']
      refine iteT ?_
      have eo : o'[i]? = some o'[i] := List.getElem?_eq_getElem hi
      obtain ⟨g, hg, eb'⟩ := LS.bfs_turn eb eo
      have hq : o'[i] < st.length := ho _ (List.getElem_mem hi)
      obtain ⟨rs, hrs, hrl, hrow⟩ := hR
      have er : rs[o'[i]]? = some rs[o'[i]] := List.getElem?_eq_getElem (by rw [hrl]; exact hq)
      have es : st[o'[i]]? = some st[o'[i]] := List.getElem?_eq_getElem hq
      have ex : st.getD o'[i] [] = st[o'[i]] := LS.getD_at hq
      have hr' := hrow _ _ _ er es
      refine ⟨fun σ2 H2 => ∃ (o2 : List Nat) (v : Option V), σ2 = [some (.ref a), some (.ref l), some (.ref d), some (nV (i + 1)), v] ∧ LS.bfs (fun q => st.getD q []) g o2 (i + 1) = some o ∧ Same H H2 ∧ H2 l = some (.lst (o2.map nV)) ∧ H2 d = some (.dK (seenOf o2)) ∧
        (∀ q ∈ o2, q < st.length) ∧ o2.Nodup, fun σ2 H2 ⟨o2, v, e1, e2, e3⟩ => ⟨g, hg, o2, i + 1, v, e1, e2, e3⟩, ?_⟩
      -- for later in steps[order[at]]
      have nl : H l = none := hl
      refine ⟨_, rfl, _, rfl, _, rfl, _, _, _, _, rfl, rfl, SqL.of el, atI_nat (map_at nV eo), rIx_seq (hrs.same sm) (map_at V.ref er) ⟨_, rfl, for_sq (H0 := H) hr' sm
        (fun j σ2 H2 => ∃ v : Option V, σ2 = [some (.ref a), some (.ref l), some (.ref d), some (nV i), v] ∧ Same H H2 ∧ H2 l = some (.lst ((LS.addNew o' (st[o'[i]].take j)).map nV)) ∧ H2 d = some (.dK (seenOf (LS.addNew o' (st[o'[i]].take j)))))
        ⟨v, rfl, sm, el, ed⟩ (fun j σ2 H2 _ ⟨_, _, z, _⟩ => z) ?_ ?_⟩⟩
      · rintro j x σ2 H2 hj ⟨v2, rfl, sm2, el2, ed2⟩
        obtain ⟨q, hq2, rfl⟩ := of_map_at hj
        have nd2 : (LS.addNew o' (st[o'[i]].take j)).Nodup := LS.nodup_addNew _ _ nd
        have hz2 : (LS.addNew o' (st[o'[i]].take j)).length ≤ 100000 := Nat.le_trans (LS.nodup_lt nd2 (n := st.length) fun q hq => by
          rcases (LS.mem_addNew _ _ _).mp hq with z | z
          · exact ho q z
          · exact hlt _ (List.getElem_mem _) q (List.mem_of_mem_take z)) hz
        have eA := LS.addNew_snoc (st[o'[i]].take j) o' q
        rw [← take_snoc hq2] at eA
        -- if later not in seen
        refine ⟨_, rfl, _, rfl, _, _, rfl, DGet.k (k := nK q) ed2, _, rfl, ?_⟩
        rw [show valV (seenOf (LS.addNew o' (st[o'[i]].take j))) (nK q) = _ from valV_map nK nK_inj (fun _ => V.bl true) q _]
        by_cases hm : q ∈ LS.addNew o' (st[o'[i]].take j)
        · rw [if_pos hm]
          refine iteF ?_
          rw [if_pos hm] at eA
          exact ⟨_, rfl, sm2, by rw [eA]; exact el2, by rw [eA]; exact ed2⟩
        · rw [if_neg hm]
          refine iteT ?_
          rw [if_neg hm] at eA
          refine ⟨_, rfl, _, rfl, _, _, rfl, DPut.k (k := nK q) ed2 (by unfold seenOf; rw [List.length_map]; exact small5 (by omega)), ?_⟩
          have nld2 : l ≠ d := nld
          refine ⟨_, rfl, .inl ⟨rfl, _, SqL.of (by rw [upd_ne nld2]; exact el2)⟩, _, rfl, _, _, _, rfl, rfl, (by rw [upd_ne nld2]; exact el2), (by rw [List.length_map]; exact small5 (by omega)), ?_⟩
          refine ⟨_, rfl, sm_upd (sm_upd sm2 hd0) hl, ?_, ?_⟩
          · rw [upd_same, eA, List.map_append] <;> rfl
          · rw [upd_ne (Ne.symm nld2), upd_same, eA]
            congr 2
            rw [putK_new _ (by rw [show valV (seenOf (LS.addNew o' (st[o'[i]].take j))) (nK q) = _ from valV_map nK nK_inj (fun _ => V.bl true) q _, if_neg hm])]
            unfold seenOf
            rw [List.map_append] <;> rfl
      · rintro σ2 H2 ⟨v2, rfl, sm2, el2, ed2⟩
        rw [List.length_map, List.take_length] at el2 ed2
        -- at += 1
        refine ⟨_, rfl, _, _, rfl, rfl, ?_⟩
        refine ⟨LS.addNew o' st[o'[i]], v2, rfl, ?_, sm2, el2, ed2, fun q hq => ?_, LS.nodup_addNew _ _ nd⟩
        · rw [← ex]; exact eb'
        · rcases (LS.mem_addNew _ _ _).mp hq with z | z
          · exact ho q z
          · exact hlt _ (List.getElem_mem _) q z
    · have hi' : ¬ ((i : Int) < (o'.length : Int)) := by omega
      rw [decide_eq_false hi']
      refine iteF ?_
      have e := LS.bfs_end eb (by omega)
      subst e
      exact ⟨_, rfl, k l _ sm hl el⟩
end
end LW
end
section
set_option Elab.async false
set_option linter.all false
set_option maxRecDepth 100000
namespace LW
open PySem L2
/-! ### numbered -/
abbrev st_numbered : Stmt := top 3
theorem sc_numbered : FnScope ["steps", "told", "order", "number", "rows", "at", "state", "later"] ["steps", "told"] (defScope st_numbered) := ⟨rfl, rfl, rfl, by decide +kernel, rfl, by decide +kernel, by decide +kernel⟩
/-- a tuple of tuples of numbers -/
def RowsT (H : Hp) (r : Addr) (st : List (List Nat)) : Prop := ∃ rs : List Addr, H r = some (.tup (rs.map V.ref)) ∧ rs.length = st.length ∧ ∀ (i : Nat) (a : Addr) (row : List Nat), rs[i]? = some a → st[i]? = some row → H a = some (.tup (row.map nV))
theorem RowsT.same {H H' : Hp} {r : Addr} {st : List (List Nat)} (h : RowsT H r st) (e : Same H H') : RowsT H' r st := by
  obtain ⟨rs, h1, h2, h3⟩ := h
  exact ⟨rs, e _ _ h1, h2, fun i a row e1 e2 => e _ _ (h3 i a row e1 e2)⟩
theorem RowsT.at {K : PySem.W.Frag} {H : Hp} {r : Addr} {st : List (List Nat)} (h : RowsT H r st) : RowsAt K H r st := by
  obtain ⟨rs, h1, h2, h3⟩ := h
  exact ⟨rs, .inr (SqT.of h1), h2, fun i a row e1 e2 => .inr (SqT.of (h3 i a row e1 e2))⟩
/-- what a table must be that the program walks -/
structure TbIn (T : LS.Tb) : Prop where
  len : T.to.length = T.st.length
  pos : 0 < T.st.length
  small : T.st.length ≤ 1000
  lt : ∀ r ∈ T.st, ∀ q ∈ r, q < T.st.length
  row : ∀ r ∈ T.st, r.length ≤ 1000
def spNumbered (K : PySem.W.Frag) : Sp := fun vs H Q _ => ∃ (a b : Addr) (T T' : LS.Tb), vs = [.ref a, .ref b] ∧ RowsAt K H a T.st ∧ SqA K H b (T.to.map V.bl) ∧ TbIn T ∧ LS.numberedM T = some T' ∧
  ∀ p r t H', Same H H' → H' p = some (.tup [.ref r, .ref t]) → RowsT H' r T'.st → H' t = some (.tup (T'.to.map V.bl)) → Q (.ref p) H'
/-- the numbers that a dict gives to the items of a list -/
def numOf (o : List Nat) (i : Nat) : List (Key × V) := (o.take i).map fun q => (nK q, nV (o.idxOf q))
section
variable {P : Program} {w : World} {K : PySem.W.Frag} {mg : Str → Option Value} {base : Heap}
theorem c_numbered (T : Txt K mg) : Cal P w K mg base "numbered" 2 ["steps", "told"] (spNumbered K) := by
  have c_reached := c_reached (P := P) (w := w) (base := base) T
  refine FunG.cal T.f_numbered sc_numbered (fun _ _ _ _ _ _ us hl => match us, hl with | [_, _], _ => rfl) (fun vs H Q E h => ?_) (fun f cdv A outer s H vs Q E hr h => ?_)
  · obtain ⟨a, b, T, T', rfl, _⟩ := h
    rfl
  · obtain ⟨a, b, Tb, Tb', rfl, hR, hB, hT, hM, k⟩ := h
    have hu := hu_of hr
    obtain ⟨o, eo, rfl⟩ : ∃ o, LS.reachedM Tb = some o ∧ LS.tabOf Tb.nx Tb.acc o = Tb' := by
      unfold LS.numberedM at hM
      cases e : LS.reachedM Tb with
      | none => rw [e] at hM; cases hM
      | some o => rw [e] at hM; exact ⟨o, rfl, Option.some.inj hM⟩
    have ho : o.Nodup ∧ (∀ x ∈ o, x < Tb.st.length) ∧ ∀ x ∈ o, ∀ y ∈ Tb.nx x, y ∈ o := by
      have := LS.bfs_spec (P := fun x => x < Tb.st.length) (fun x hx y hy => by
        unfold LS.Tb.nx at hy
        rw [LS.getD_at hx] at hy
        exact hT.lt _ (List.getElem_mem _) y hy) _ _ _ _ eo (by simp) (fun x hx => by rw [List.mem_singleton] at hx; subst hx; exact hT.pos) (fun j x hj _ => absurd hj (by omega))
      exact ⟨this.1, this.2.2.1, this.2.2.2⟩
    obtain ⟨nd, olt, ocl⟩ := ho
    have oz : o.length ≤ 1000 := Nat.le_trans (LS.nodup_lt nd olt) hT.small
--TERM numbered
    refine ⟨_, (pss_cons (ps_set (i := 2) sc_numbered.nd rfl (Or.inl rfl) (pe_cal c_reached (by decide) hr (pa_cons (pv 0) pa_nil)))
  (pss_cons (ps_set (i := 3) sc_numbered.nd rfl (Or.inr rfl) (pe_dc (own := [("at", 5), ("state", 6)]) rfl sc_numbered.nd (pi_enumK K T.b_enumerate (pa_cons (pv 2) pa_nil)) (blkOk_by (own := [("at", 5), ("state", 6)]) (by kernel_rfl)) (fun _ _ _ _ _ => (pg_tupK K (n := 2) (pgs_cons (pg_name (i := 5) sc_numbered.nd rfl (Or.inl rfl) (.inr rfl)) (pgs_cons (pg_name (i := 6) sc_numbered.nd rfl (Or.inl rfl) (.inr rfl)) pgs_nil)))) (fun _ _ _ _ _ => pts_nil) (fun _ _ _ _ _ => (pv 6)) (fun _ _ _ _ _ => (pv 5))))
  (pss_cons (ps_set (i := 4) sc_numbered.nd rfl (Or.inl rfl) (pe_callTy (call_tupleK K) (by rfl) T.b_tuple bt_tuple (pa_cons (pe_lc (own := [("state", 6)]) rfl sc_numbered.nd (pi_listK K (pv 2)) (blkOk_by (own := [("state", 6)]) (by kernel_rfl)) (fun _ _ _ _ _ => (pg_name (i := 6) sc_numbered.nd rfl (Or.inl rfl))) (fun _ _ _ _ _ => pts_nil) (fun _ _ _ _ _ => (pe_callTy (call_tupleK K) (by rfl) T.b_tuple bt_tuple (pa_cons (pe_lc (own := [("later", 7)]) rfl sc_numbered.nd (pi_seqK K (pe_ix (ix_seqK K) (pv 0) (pv 6) (fun _ _ => rfl))) (blkOk_by (own := [("later", 7)]) (by kernel_rfl)) (fun _ _ _ _ _ => (pg_name (i := 7) sc_numbered.nd rfl (Or.inl rfl))) (fun _ _ _ _ _ => pts_nil) (fun _ _ _ _ _ => (pe_dget hu (pv 3) (pv 7) (fun _ _ => rfl)))) pa_nil)))) pa_nil)))
  (pss_one (ps_ret (pe_tup (pa_cons (pv 4) (pa_cons (pe_callTy (call_tupleK K) (by rfl) T.b_tuple bt_tuple (pa_cons (pe_lc (own := [("state", 6)]) rfl sc_numbered.nd (pi_listK K (pv 2)) (blkOk_by (own := [("state", 6)]) (by kernel_rfl)) (fun _ _ _ _ _ => (pg_name (i := 6) sc_numbered.nd rfl (Or.inl rfl))) (fun _ _ _ _ _ => pts_nil) (fun _ _ _ _ _ => (pe_ix (ix_seqK K) (pv 1) (pv 6) (fun _ _ => rfl)))) pa_nil)) pa_nil)))))))), ?_⟩
--END
    -- order = reached(steps)
    refine ⟨_, rfl, a, Tb.st, _, o, rfl, hR, Nat.le_trans hT.small (by decide), hT.lt, hT.pos, eo, fun l H1 s1 nl el => ?_⟩
    -- number = {state: at for at, state in enumerate(order)}
    refine ⟨_, rfl, l, _, rfl, SqL.of el, fun d nd' => dc_it (walk_enum (K := K) (a := l) (xs := o.map nV)) (fun i H' => Same H1 (hid H' d) ∧ H' d = some (.dK (numOf o i))) ⟨by rw [hid_upd]; exact same_to_hid (Same.refl _) nd', upd_same⟩ (fun i H' _ p => SqL.of (hid_sub _ _ (p.1 _ _ el))) ?_ ?_⟩
    · rintro i x H2 H3 hi ⟨sm, ed⟩ ⟨t, x1, x2, rfl, nt, rfl, e1, e2⟩
      cases e1
      obtain ⟨q, e3, rfl⟩ := of_map_at e2
      have hi' : i < o.length := by rw [List.length_map] at hi; exact hi
      have ntd : d ≠ t := ne_of_none ed nt
      refine ⟨t, _, rfl, SqT.of upd_same, rfl, _, _, rfl, _, _, rfl, rfl, ?_⟩
      have ed' : ∀ u, upd H2 t u d = some (.dK (numOf o i)) := fun u => by rw [upd_ne ntd]; exact ed
      refine ⟨rfl, _, rfl, _, rfl, numOf o i, nK q, rfl, ed' _, ?_, ?_, ?_⟩
      · unfold numOf; rw [List.length_map, List.length_take]; exact small5 (by omega)
      · rw [hid_upd]
        exact sm_trans sm (same_hid (same_new nt))
      · rw [upd_same]
        congr 2
        have hv : valV (numOf o i) (nK q) = none := by
          unfold numOf
          rw [valV_map nK nK_inj (fun q => nV (o.idxOf q)) q, if_neg]
          intro hm
          obtain ⟨j, ej⟩ := List.mem_iff_getElem?.mp hm
          rw [List.getElem?_take] at ej
          split at ej
          · rename_i hj
            have := LS.idxOf_of nd ej
            have := LS.idxOf_of nd e3
            omega
          · cases ej
        rw [putK_new _ hv]
        unfold numOf
        rw [take_snoc e3, List.map_append]
        show _ = _ ++ [(nK q, nV (o.idxOf q))]
        rw [LS.idxOf_of nd e3]
    rintro H2 ⟨s2, ed⟩
    rw [List.length_map] at ed
    have s2' : Same H1 H2 := sm_trans s2 hid_sub
    have s02 : Same H H2 := sm_trans s1 s2'
    have el2 : H2 l = some (.lst (o.map nV)) := s2' _ _ el
    have look : ∀ q ∈ o, valV (numOf o o.length) (nK q) = some (nV (o.idxOf q)) := fun q hq => by
      unfold numOf
      rw [List.take_length, valV_map nK nK_inj (fun q => nV (o.idxOf q)) q, if_pos hq]
    obtain ⟨rs, hrs, hrl, hrow⟩ := id hR
    have row_lt : ∀ q, q < Tb.st.length → (Tb.nx q).length ≤ 1000 := fun q hq => by
      unfold LS.Tb.nx
      rw [LS.getD_at hq]
      exact hT.row _ (List.getElem_mem _)
    -- rows
    refine ⟨_, rfl, l, rfl, ⟨_, SqL.of el2⟩, fun D nD => lc_it (walk_list (K := K) (a := l) (xs := o.map nV)) (LcPv (RRows true fun i => (Tb.nx (o.getD i 0)).map fun y => nV (o.idxOf y)) H2 D) (pv_start nD ⟨rfl, fun j hj => absurd hj (Nat.not_lt_zero _)⟩) (fun i H' _ p => SqL.of (pv_same p _ _ el2)) ?_ ?_⟩
    · rintro i x _ H3 hi ⟨acc, eD, hl, sm, r⟩ ⟨rfl, ex⟩
      obtain ⟨q, eq', rfl⟩ := of_map_at ex
      have hi' : i < o.length := by rw [List.length_map] at hi; exact hi
      have hq : q ∈ o := List.mem_of_getElem? eq'
      have hqs := olt q hq
      have er : rs[q]? = some rs[q] := List.getElem?_eq_getElem (by rw [hrl]; exact hqs)
      have es : Tb.st[q]? = some (Tb.nx q) := by unfold LS.Tb.nx; rw [LS.getD_at hqs]; exact List.getElem?_eq_getElem hqs
      have s23 : Same H2 H3 := sm_trans sm hid_sub
      have s03 : Same H H3 := sm_trans s02 s23
      have hr3 : SqA K H3 rs[q] ((Tb.nx q).map nV) := (hrow _ _ _ er es).same s03
      refine ⟨rfl, _, rfl, _, rfl, rIx_seq (hrs.same s03) (map_at V.ref er) ⟨_, rfl, lc_sq (H0 := H3) hr3 (Same.refl _) (fun D2 => LcPv (RMap fun j => nV (o.idxOf ((Tb.nx q).getD j 0))) H3 D2) (fun D2 nD2 => pv_start nD2 rfl) (fun D2 j H' _ _ p => pv_same p) ?_ ?_⟩⟩
      · rintro D2 j y H5 nD2 ey ⟨acc2, eD2, hl2, sm2, r2⟩
        obtain ⟨p, ep, rfl⟩ := of_map_at ey
        have hj' : j < (Tb.nx q).length := (List.getElem?_eq_some_iff.mp ep).1
        have hp : p ∈ o := ocl q hq p (List.mem_of_getElem? ep)
        have e6 : (Tb.nx q).getD j 0 = p := by rw [List.getD_eq_getElem?_getD, ep] <;> rfl
        have ed5 : H5 d = some (.dK (numOf o o.length)) := sm_trans sm2 hid_sub _ _ (s23 _ _ ed)
        refine ⟨rfl, _, rfl, _, rfl, d, nV (o.idxOf p), rfl, ?_, ?_⟩
        · have := DGet.k (k := nK p) ed5
          rw [look p hp] at this
          exact this
        · exact pv_push eD2 hl2 sm2 (Same.refl _) (Nat.lt_of_lt_of_le hj' (Nat.le_trans (row_lt q hqs) (by decide))) (rmap_push r2 (by rw [e6]))
      · rintro D2 H5 nD2 ⟨acc2, eD2, hl2, sm2, r2⟩
        have s35 : Same H3 H5 := sm_trans sm2 hid_sub
        refine ⟨D2, _, rfl, .inl ⟨SqL.of eD2, fun p np => ?_⟩⟩
        refine pv_push eD hl sm (sm_upd s35 (s35.free np)) (Nat.lt_of_lt_of_le hi' (Nat.le_trans oz (by decide))) (rrows_push r (same_hid (sm_upd s35 (s35.free np))) ?_)
        have npD : p ≠ D := fun z => by rw [z, s35 _ _ eD] at np; cases np
        rw [hid_ne npD, upd_same]
        have e7 : o.getD i 0 = q := by rw [List.getD_eq_getElem?_getD, eq'] <;> rfl
        rw [if_pos rfl, e7]
        congr 2
        have : acc2 = (List.range (((Tb.nx q).map nV).length)).map fun j => nV (o.idxOf ((Tb.nx q).getD j 0)) := r2
        rw [this, List.length_map]
        exact map_range_getD (Tb.nx q) 0 fun y => nV (o.idxOf y)
    rintro H3 ⟨acc, eD, hl, sm, r⟩
    have s23 : Same H2 H3 := sm_trans sm hid_sub
    refine ⟨D, _, rfl, .inl ⟨SqL.of eD, fun rw' nrw => ?_⟩⟩
    have s34 : Same H3 (upd H3 rw' (.tup acc)) := same_new nrw
    have s04 : Same H (upd H3 rw' (.tup acc)) := sm_trans s02 (sm_trans s23 s34)
    have s14 : Same H1 (upd H3 rw' (.tup acc)) := sm_trans s2' (sm_trans s23 s34)
    -- return (rows, tuple([told[state] for state in order]))
    refine ⟨_, rfl, _, rfl, l, rfl, ⟨_, SqL.of (s14 _ _ el)⟩, fun D2 nD2 => lc_it (walk_list (K := K) (a := l) (xs := o.map nV)) (LcPv (RMap fun i => V.bl (Tb.acc (o.getD i 0))) (upd H3 rw' (.tup acc)) D2) (pv_start nD2 rfl) (fun i H' _ p => SqL.of (pv_same p _ _ (s14 _ _ el))) ?_ ?_⟩
    · rintro i x _ H5 hi ⟨acc2, eD2, hl2, sm2, r2⟩ ⟨rfl, ex⟩
      obtain ⟨q, eq', rfl⟩ := of_map_at ex
      have hi' : i < o.length := by rw [List.length_map] at hi; exact hi
      have hqs := olt q (List.mem_of_getElem? eq')
      have et : Tb.to[q]? = some (Tb.acc q) := by
        have hq' : q < Tb.to.length := by rw [hT.len]; exact hqs
        unfold LS.Tb.acc
        rw [LS.getD_at hq']
        exact List.getElem?_eq_getElem hq'
      have s5 : Same H H5 := sm_trans s04 (sm_trans sm2 hid_sub)
      refine ⟨rfl, _, rfl, _, rfl, rIx_seq (hB.same s5) (map_at V.bl et) ?_⟩
      exact pv_push eD2 hl2 sm2 (Same.refl _) (Nat.lt_of_lt_of_le hi' (Nat.le_trans oz (by decide))) (rmap_push r2 (by rw [List.getD_eq_getElem?_getD, eq'] <;> rfl))
    rintro H5 ⟨acc2, eD2, hl2, sm2, r2⟩
    have s45 : Same (upd H3 rw' (.tup acc)) H5 := sm_trans sm2 hid_sub
    refine ⟨D2, _, rfl, .inl ⟨SqL.of eD2, fun t nt => ⟨by show 2 ≤ sizeLine; decide, fun p np => ?_⟩⟩⟩
    have s56 : Same H5 (upd H5 t (.tup acc2)) := same_new nt
    have s67 := same_new (o := HO.tup [V.ref rw', V.ref t]) np
    have s57 := sm_trans s56 s67
    have e2 : acc2 = (LS.tabOf Tb.nx Tb.acc o).to.map V.bl := by
      have : acc2 = (List.range ((o.map nV).length)).map fun i => V.bl (Tb.acc (o.getD i 0)) := r2
      rw [this, List.length_map]
      unfold LS.tabOf
      rw [List.map_map]
      exact map_range_getD o 0 fun q => V.bl (Tb.acc q)
    refine k p rw' t _ (sm_trans s04 (sm_trans s45 s57)) upd_same ?_ (by rw [← e2]; exact s67 _ _ upd_same)
    obtain ⟨r3, r4⟩ := r
    rw [List.length_map] at r3 r4
    have key : ∀ i, i < o.length → ∃ p, acc[i]? = some (.ref p) ∧ H3 p = some (.tup (((Tb.nx (o.getD i 0)).map fun y => o.idxOf y).map nV)) := fun i hi => by
      obtain ⟨q, e1, e2⟩ := r4 i hi
      rw [if_pos rfl] at e2
      refine ⟨q, e1, ?_⟩
      rw [List.map_map]
      exact hid_sub _ _ e2
    have s37 : Same H3 _ := sm_trans s34 (sm_trans s45 s57)
    refine ⟨acc.map fun v => match v with | .ref a => a | _ => 0, ?_, ?_, fun i a' row e1 e2 => ?_⟩
    · rw [List.map_map]
      have e3 : acc.map (V.ref ∘ fun v => match v with | .ref a => a | _ => 0) = acc := by
        apply List.ext_getElem (by simp)
        intro i h1 h2
        obtain ⟨p', e4, _⟩ := key i (by omega)
        rw [List.getElem?_eq_getElem h2] at e4
        rw [List.getElem_map, Option.some.inj e4] <;> rfl
      rw [e3]
      exact s57 _ _ (s45 _ _ upd_same)
    · rw [List.length_map, r3]
      simp [LS.tabOf]
    · have hi : i < o.length := by
        have := (List.getElem?_eq_some_iff.mp e1).1
        rw [List.length_map, r3] at this
        exact this
      obtain ⟨p', e4, e5⟩ := key i hi
      rw [List.getElem?_map, e4] at e1
      have e6 : p' = a' := Option.some.inj e1
      subst e6
      have e7 : row = (Tb.nx (o.getD i 0)).map fun y => o.idxOf y := by
        unfold LS.tabOf at e2
        rw [List.getElem?_map, List.getElem?_eq_getElem hi] at e2
        rw [LS.getD_at hi]
        exact (Option.some.inj e2).symm
      rw [e7]
      exact s37 _ _ e5
end
end LW
end
section
set_option Elab.async false
set_option linter.all false
set_option maxRecDepth 100000
/-! sets of ints and texts made of a list or a text; how many they hold -/
namespace LW
open PySem PySem.Spec PyProof.Rows L2
/-- the keys met first -/
def inK (k : Key) (l : List Key) : Bool := l.any fun x => decide (x = k)
theorem inK_snoc (k y : Key) (l : List Key) : inK k (l ++ [y]) = (inK k l || decide (k = y)) := by
  unfold inK
  rw [List.any_append]
  by_cases e : k = y
  · subst e; simp
  · have e2 : ¬ y = k := fun q => e q.symm
    simp [e, e2]
def metK (val : Nat → Key) : Nat → List Key
  | 0 => []
  | i + 1 => if inK (val i) (metK val i) = true then metK val i else metK val i ++ [val i]
theorem metK_len (val : Nat → Key) : ∀ i, (metK val i).length ≤ i
  | 0 => Nat.le_refl _
  | i + 1 => by
    unfold metK
    have := metK_len val i
    split
    · omega
    · rw [List.length_append, List.length_singleton]; omega
def metS (val : Nat → Key) (i : Nat) (k : Key) : Bool := inK k (metK val i)
section
variable {prog : Program} {w : World} {A : Around} {R : Result → Shared → Prop} {I : Addr} {fp wr : List Addr} {G : Array GenState → Array GenState → Prop} {n : Nat} {P : Nat → Value → Prop} {St : Nat → Shared → Prop}
theorem scan_key {k : Key} {v : Value} (h : keyIs k v = true) : v.scannable = true := by
  rcases keyIs_shape h with ⟨i, t, rfl, rfl⟩ | ⟨x, t, rfl, rfl⟩ <;> rfl
theorem set_upd (W : WalksS prog w A.in1 I fp wr G n P St) (S : Addr) (hSf : S ∉ fp)
    (val : Nat → Key) (hval : ∀ i v, P i v → keyIs (val i) v = true) (hb : n + 1 < scanBound) :
    ∀ (k i : Nat) (s : Shared), n - i = k → i ≤ n → St i s →
      s.heap.SetOf (mixKind prog w) S (metS val i) (metK val i).length →
      (∀ s', Moved (S :: wr) G s s' → s'.heap.SetOf (mixKind prog w) S (metS val n) (metK val n).length → R (.ok (.ret .none)) s') →
      codeAny (model prog w) A (.builtin "set.update.loop" ⟨[.ref S, .ref I], []⟩) R s := by
  have hSw : S ∉ wr := fun h => hSf (W.sub _ h)
  have hsub : ∀ b ∈ wr, b ∈ S :: wr := fun b hb => List.mem_cons_of_mem _ hb
  intro k
  induction k with
  | zero =>
    intro i s hk hi hst hS hR
    have hin : i = n := by omega
    subst hin
    refine codeAny_builtin F.entry_set_update_loop ?_
    rw [Around.under_plainId F.plain_set_update_loop _]
    show wpAny _ A.in1 (pyNext (.ref I) >>= _) _ _ s
    refine wpAny_bind (W.done s _ _ hst fun s' hm => ?_)
    show wpAny _ A.in1 (ret Value.none) _ _ s'
    exact wpAny_pure (hR s' (hm.mono hsub) (by
      obtain ⟨o, es, ep, t, ho, rest⟩ := hS
      exact ⟨o, es, ep, t, hm.heap S _ hSw ho, rest⟩))
  | succ k ih =>
    intro i s hk hi hst hS hR
    have hlt : i < n := by omega
    refine codeAny_builtin F.entry_set_update_loop ?_
    rw [Around.under_plainId F.plain_set_update_loop _]
    show wpAny _ A.in1 (pyNext (.ref I) >>= _) _ _ s
    refine wpAny_bind (W.item i s _ _ hlt hst fun v s' hP hst' hm => ?_)
    have hv := hval i v hP
    have hS' : s'.heap.SetOf (mixKind prog w) S (metS val i) (metK val i).length := by
      obtain ⟨o, es, ep, tb, ho, rest⟩ := hS
      exact ⟨o, es, ep, tb, hm.heap S _ hSw ho, rest⟩
    show wpAny _ A.in1 (holding [v] (setAdd S v) >>= _) _ _ s'
    refine wpAny_bind (wpAny_holding ?_)
    unfold setAdd
    refine wpAny_holding ?_
    refine wpAny_bind ((mixKind prog w).pyHash (k := val i) hv ?_)
    have hroom : (metK val i).length + 1 < scanBound := by have := metK_len val i; omega
    refine wpAny_setAddHashed_of (knd := mixKind prog w) (s := { s' with toks := s'.toks + 1 }) hv (scan_key hv) hS' hroom fun h' hsb hS2 => ?_
    have hSi : h'.SetOf (mixKind prog w) S (metS val (i + 1)) (metK val (i + 1)).length := by
      have e0 : metK val (i + 1) = if inK (val i) (metK val i) = true then metK val i else metK val i ++ [val i] := rfl
      have e1 : metS val (i + 1) = fun k' => metS val i k' || decide (k' = val i) := by
        funext k'
        unfold metS
        rw [e0]
        by_cases hm : inK (val i) (metK val i) = true
        · rw [if_pos hm]
          by_cases e : k' = val i
          · subst e; simp [hm]
          · simp [e]
        · rw [if_neg hm, inK_snoc]
      have e2 : (metK val (i + 1)).length = if metS val i (val i) = true then (metK val i).length else (metK val i).length + 1 := by
        rw [e0]
        unfold metS
        by_cases hm : inK (val i) (metK val i) = true
        · rw [if_pos hm, if_pos hm]
        · rw [if_neg hm, if_neg hm, List.length_append] <;> rfl
      rw [e1, e2]
      exact hS2
    refine wpAny_pure ⟨plainId_quiet F.plain_set_update_loop _, ih (i + 1) _ (by omega) hlt (W.frame _ s' _ _ hst' (Nat.le_succ _) fun b hb o e => ?_) hSi fun s'' hm'' hS'' => ?_⟩
    · rw [hsb.2 b (fun h : b = S => hSf (by rw [← h]; exact hb))]; exact e
    · refine hR s'' (Moved.trans W.gtrans ((hm.mono hsub).then_heap (Nat.le_succ _) fun b o hb e => ?_) hm'') hS''
      rw [hsb.2 b (fun h : b = S => hb (by rw [h]; exact List.mem_cons_self))]; exact e
end
theorem sub_str_set : isSubtype (.type "str") (.type "set") = pure false := by rw [isSubtype_type]; kernel_rfl
theorem sub_str_frozenset : isSubtype (.type "str") (.type "frozenset") = pure false := by rw [isSubtype_type]; kernel_rfl
section
variable {prog : Program} {w : World} {A : Around} {E : Value → Shared → Prop} {s : Shared}
abbrev NewS (led : Bool) : Obj := { cls := .type "set", dict := none, data := .set #[] 0 (.fresh 0 0 led) }
def SetDone (prog : Program) (w : World) (s : Shared) (val : Nat → Key) (n : Nat) : Value → Shared → Prop := fun r s₂ => r = .none ∧ ∃ h' tk, s₂ = { s with heap := h', toks := tk } ∧
  h'.SetOf (mixKind prog w) s.heap.objs.size (metS val n) (metK val n).length ∧ (∀ b o, b < s.heap.objs.size → s.heap.get? b = some o → h'.get? b = some o)
def SetBody (prog : Program) (w : World) (A : Around) (E : Value → Shared → Prop) (s : Shared) (x : Value) (val : Nat → Key) (n : Nat) (led : Bool) : Prop :=
  wpAny (model prog w) A.in1.in1 (Builtin.«set.__init__» ⟨[.ref s.heap.objs.size, x], []⟩) (fun fin s' => match fin with
    | .done f => wants (SetDone prog w s val n) E (.ok f) s'
    | .again c' => c'.quiet = true ∧ codeAny (model prog w) A.in1 c' (wants (SetDone prog w s val n) E) s') (fun e s' => wants (SetDone prog w s val n) E (.error e) s') { s with heap := s.heap.push (NewS led) }
/-- set(x): the frame; the body of set.__init__ is what differs -/
theorem set_frame (x : Value) (val : Nat → Key) (n : Nat) {Q : Value → Shared → Prop}
    (hbody : ∀ led : Bool, SetBody prog w A E s x val n led)
    (h : ∀ (h' : Heap) (tk : Nat), h'.SetOf (mixKind prog w) s.heap.objs.size (metS val n) (metK val n).length →
      (∀ b o, b < s.heap.objs.size → s.heap.get? b = some o → h'.get? b = some o) → Q (.ref s.heap.objs.size) { s with heap := h', toks := tk }) :
    wpAny (model prog w) A (call (.type "set") [x]) Q E s := by
  obtain ⟨c, tl, hmro⟩ := F.called_set.mro
  have hmade := F.called_set.made
  have hsub := F.called_set.sub
  refine wpAny_call (codeAny_of_tree ?_)
  show wpAny _ _ (callAny (.type "set") _) _ _ _
  refine wpAny_pure ⟨Code.quiet_builtin _ (by decide +kernel), codeAny_builtin F.entry_type_call ?_⟩
  rw [Around.under_plain (weight_type_call_type "set" [x] []) rfl]
  have h1 := F.called_set.notType
  have h2 := F.called_set.canCreate
  have hct := PySem.F.typeCall_set_1 x
  repeat (any_goals (first | assumption | wp_step))

  refine codeAny_mono (code_set_new_1 x (E := E) (Q₁ := fun obj s₁ => ∃ led : Bool, obj = .ref s.heap.objs.size ∧ s₁ = { s with heap := s.heap.push (NewS led) }) fun led => ⟨led, rfl, rfl⟩) fun r s₁ hr => ?_
  cases r with
  | error e => exact hr
  | ok fl =>
    cases fl with
    | ret obj =>
      obtain ⟨led, rfl, rfl⟩ := hr
      have hS : (s.heap.push (NewS led)).get? s.heap.objs.size = some (NewS led) := Heap.get?_push_size _ rfl
      have hT : Shared.TypeIs { s with heap := s.heap.push (NewS led) } (.ref s.heap.objs.size) "set" := ⟨_, hS, rfl⟩
      have hli := F.called_set.init.lookup
      have hbi := F.called_set.init.bind (.ref s.heap.objs.size)
      repeat (any_goals (first | assumption | wp_step))
      refine codeAny_mono (codeAny_call_builtin (R := wants (SetDone prog w s val n) E) F.called_set.init.plain F.entry_set_init (check_set_init_1 hT ?_)) fun r₂ s₂ hr₂ => ?_
      · exact hbody led
      · cases r₂ with
        | error e => exact hr₂
        | ok fl₂ =>
          cases fl₂ with
          | ret r =>
            obtain ⟨rfl, h', tk, rfl, hS', hk'⟩ := hr₂
            repeat (any_goals (first | assumption | wp_step))
            exact h _ _ hS' hk'
          | _ => exact hr₂.elim
    | _ => exact hr.elim

theorem fresh_set {h : Heap} {a : Addr} {led : Bool} {val : Nat → Key} (hg : h.get? a = some (NewS led)) : h.SetOf (mixKind prog w) a (metS val 0) (metK val 0).length :=
  ⟨_, #[], 0, _, hg, ⟨rfl, rfl, rfl⟩, rfl, (fun e he => by simp at he), (fun k => by simp [metS, metK, inK]), (by decide), (by rfl), rfl⟩
theorem set_body_list {l : Addr} {items : Array Value} {val : Nat → Key} (hh : A.handled = none) (hl : s.heap.IsList l items) (hval : ∀ (i : Nat) (v : Value), items[i]? = some v → keyIs (val i) v = true) (hb : items.size + 1 < scanBound) (led : Bool) :
    SetBody prog w A E s (.ref l) val items.size led := by
  obtain ⟨ol, hol, hcl, nl, hdl⟩ := hl
  obtain ⟨ocls, odict, odata, oslots⟩ := ol
  simp only at hcl hdl
  subst hcl; subst hdl
  have hS : (s.heap.push (NewS led)).get? s.heap.objs.size = some (NewS led) := Heap.get?_push_size _ rfl
  have hT : Shared.TypeIs { s with heap := s.heap.push (NewS led) } (.ref s.heap.objs.size) "set" := ⟨_, hS, rfl⟩
  have hol' : (s.heap.push (NewS led)).get? l = some { cls := .type "list", dict := odict, data := .seq items nl, slots := oslots } := Heap.get?_push_of_some _ hol
  have hsls := PySem.F.sub_list_set
  have hslf := PySem.F.sub_list_frozenset
  have hne : (Value.type "list" == Value.type "dict") = false := by decide
  have hl1 : (s.heap.push (NewS led)).IsList l items := ⟨_, hol', rfl, nl, rfl⟩
  unfold SetBody Builtin.«set.__init__» noKeywords Builtin.Frozenset.updateFrom
  generalize hPI : pyIter = PI
  wp_walk
  subst hPI
  refine wpAny_pyIter_list hl1 ?_
  refine wpAny_bind (wpAny_runValue ?_)
  have hlS : l < s.heap.objs.size := Heap.lt_size hol
  have hh3 : A.in1.in1.in1.handled = none := by simp [hh]
  have hneI : l ≠ (s.heap.push (NewS led)).objs.size := by rw [Heap.size_push]; exact Nat.ne_of_lt (Nat.lt_succ_of_lt hlS)
  have hSf : s.heap.objs.size ∉ [(s.heap.push (NewS led)).objs.size, l] := by
    rw [Heap.size_push]; simp only [List.mem_cons, List.mem_singleton, List.not_mem_nil, or_false, not_or]
    exact ⟨Nat.ne_of_lt (Nat.lt_succ_self _), Nat.ne_of_gt hlS⟩
  refine set_upd ((Walks.list hh3 _ l hneI items).toS) s.heap.objs.size hSf val hval hb (items.size - 0) 0 _ (by omega) (Nat.zero_le _) ⟨⟨_, Heap.get?_push_size _ rfl, rfl, rfl⟩, (hl1.push _)⟩ ?hS0 ?hR
  case hS0 =>
    have hget : ((s.heap.push (NewS led)).push { cls := .type "list_iterator", data := .fields #[.ref l, .int 0 0] }).get? s.heap.objs.size = some (NewS led) := Heap.get?_push_of_some _ hS
    exact fresh_set hget
  case hR =>
    intro s' hm hS'
    obtain ⟨h', g', d', tk', os'⟩ := s'
    have eg : g' = s.gens := hm.gens
    have ed : d' = s.drawn := hm.drawn
    have eo : os' = s.os := hm.os
    subst eg; subst ed; subst eo
    show wpAny _ _ _ _ _ _
    refine wpAny_pure ?_
    show wpAny _ _ (ret Value.none) _ _ _
    refine wpAny_pure ⟨rfl, h', tk', rfl, hS', fun b o hb e => ?_⟩
    have hb1 : b ≠ s.heap.objs.size := Nat.ne_of_lt hb
    have hb2 : b ≠ (s.heap.push (NewS led)).objs.size := by rw [Heap.size_push]; exact Nat.ne_of_lt (Nat.lt_succ_of_lt hb)
    exact hm.heap b o (by simp only [List.mem_cons, List.mem_singleton, List.not_mem_nil, or_false, not_or]; exact ⟨hb1, hb2⟩) (Heap.get?_push_of_some _ (Heap.get?_push_of_some _ e))
theorem set_body_str {x : Str} {u : Tok} {val : Nat → Key} (hh : A.handled = none) (hval : ∀ (i c : Nat), x.cps[i]? = some c → val i = .inr ⟨#[c]⟩) (hb : x.cps.size + 1 < scanBound) (led : Bool) :
    SetBody prog w A E s (.str x u) val x.cps.size led := by
  have hS : (s.heap.push (NewS led)).get? s.heap.objs.size = some (NewS led) := Heap.get?_push_size _ rfl
  have hT : Shared.TypeIs { s with heap := s.heap.push (NewS led) } (.ref s.heap.objs.size) "set" := ⟨_, hS, rfl⟩
  have hsls := sub_str_set
  have hslf := sub_str_frozenset
  have hne : (Value.type "str" == Value.type "dict") = false := by decide
  unfold SetBody Builtin.«set.__init__» noKeywords Builtin.Frozenset.updateFrom
  generalize hPI : pyIter = PI
  wp_walk
  subst hPI
  refine wpAny_pyIter_str fun o St hW hst => ?_
  refine wpAny_bind (wpAny_runValue ?_)
  have hh3 : A.in1.in1.in1.handled = none := by simp [hh]
  have hSf : s.heap.objs.size ∉ [(s.heap.push (NewS led)).objs.size] := by
    rw [Heap.size_push]; simp only [List.mem_singleton]
    exact Nat.ne_of_lt (Nat.lt_succ_self _)
  refine set_upd ((hW _ hh3).toS) s.heap.objs.size hSf val (fun i v ⟨c, t, e1, e2⟩ => by rw [hval i c e1, e2]; exact keyIs_str _ _) hb (x.cps.size - 0) 0 _ (by omega) (Nat.zero_le _) hst ?hS0 ?hR
  case hS0 =>
    have hget : ((s.heap.push (NewS led)).push o).get? s.heap.objs.size = some (NewS led) := Heap.get?_push_of_some _ hS
    exact fresh_set hget
  case hR =>
    intro s' hm hS'
    obtain ⟨h', g', d', tk', os'⟩ := s'
    have eg : g' = s.gens := hm.gens
    have ed : d' = s.drawn := hm.drawn
    have eo : os' = s.os := hm.os
    subst eg; subst ed; subst eo
    show wpAny _ _ _ _ _ _
    refine wpAny_pure ?_
    show wpAny _ _ (ret Value.none) _ _ _
    refine wpAny_pure ⟨rfl, h', tk', rfl, hS', fun b o hb e => ?_⟩
    have hb1 : b ≠ s.heap.objs.size := Nat.ne_of_lt hb
    have hb2 : b ≠ (s.heap.push (NewS led)).objs.size := by rw [Heap.size_push]; exact Nat.ne_of_lt (Nat.lt_succ_of_lt hb)
    exact hm.heap b o (by simp only [List.mem_cons, List.not_mem_nil, or_false, not_or]; exact ⟨hb1, hb2⟩) (Heap.get?_push_of_some _ (Heap.get?_push_of_some _ e))
end

/-! ### len(set(x)) over the layer -/
/-- the members met first, of values that are keys -/
def uniqK (l : List Key) : List Key := metK (fun i => l.getD i (.inl 0)) l.length
section
variable {X : Cx}
/-- len(set(x)): x a text, or a list of ints and texts -/
def tLenSetK (K : PySem.W.Frag) (ta : TE) : TE := fun σ H Q => ta σ H fun x H1 =>
  (∃ (l : Addr) (ks : List Key), x = .ref l ∧ SqL K H1 l (ks.map kV) ∧ ks.length ≤ 4000 ∧ Q (.int (uniqK ks).length) H1) ∨
  (∃ t : Str, x = .str t ∧ t.length ≤ 4000 ∧ Q (.int (uniqK (t.cps.toList.map fun c => .inr ⟨#[c]⟩)).length) H1)
theorem keys_are : ∀ {ks : List Key} {us : List Value}, Vals (ks.map kV) us → ∀ (i : Nat) (v : Value), us[i]? = some v → keyIs (ks.getD i (.inl 0)) v = true
  | [], _, .nil, i, v, e => by simp at e
  | .inl k :: ks, _, .cons r t, 0, v, e => by
    obtain ⟨u, rfl⟩ := r
    cases e
    exact keyIs_int _ _
  | .inr k :: ks, _, .cons r t, 0, v, e => by
    obtain ⟨u, rfl⟩ := r
    cases e
    exact keyIs_str _ _
  | k :: ks, _, .cons r t, i + 1, v, e => keys_are t i v (by simpa using e)
theorem pe_lenSetK {a : Expr} {ta : TE} {p p2 q pos : Pos} (K : PySem.W.Frag) (hg : Gl X "len") (hm : X.mg "len" = none) (hg2 : Gl X "set") (hm2 : X.mg "set" = none) (ha : PE X a ta) (hK : X.K = K := by rfl) (hc : X.calm = true := by rfl)
    (na : starEach [a] X.env = (false, eval a X.env) :: starEach [] X.env := by rfl) : PE X (.Call (.Name "len" p) [.Call (.Name "set" p2) [a] [] q] [] pos) (tLenSetK K ta) := by
  subst hK
  refine ⟨fun pins s σ H Q I h => ?_⟩
  refine Call_ (ld_blt I hg hm PySem.boot_len ?_)
  refine PyProof.Rows.callWith_builtin1 (PyProof.Rows.args_cons ?_ rfl) rfl rfl
  refine Call_ (ld_blt I hg2 hm2 PyProof.Rows.boot_set ?_)
  refine PyProof.Rows.callWith_type1 (PyProof.Rows.args_cons (thn (ha.run pins s σ H _ I h) fun v s1 ⟨x, H1, I1, r1, q1⟩ => PyProof.Rows.args_nil ?_) na) na rfl
  have fin : ∀ (val : Nat → Key) (n : Nat), n ≤ 4000 → Q (.int (metK val n).length) H1 → ∀ (h' : Heap) (tk : Nat), h'.SetOf (mixKind X.prog X.w) s1.heap.objs.size (metS val n) (metK val n).length →
      (∀ b o, b < s1.heap.objs.size → s1.heap.get? b = some o → h'.get? b = some o) →
      wpAny (model X.prog X.w) X.A (spliced (backTo pos (starEach [] X.env))) (fun vs s₂ => wpAny (model X.prog X.w) X.A (call (.builtin "len") (Value.ref s1.heap.objs.size :: vs)) (EP X pins σ Q) X.xe s₂) X.xe { s1 with heap := h', toks := tk } := fun val n hn q h' tk hS hk => by
    refine PyProof.Rows.args_nil ?_
    have hle := metK_len val n
    obtain ⟨o, es, ep, t, ho, hex, hd, _, _, _, hf, hz⟩ := hS
    have I2 : Inv X pins σ H1 { s1 with heap := h', toks := tk } := I1.kept fun b o e => hk b o (Heap.lt_size e) e
    exact call_len_set ho hex hd hf (by rw [hz] <;> omega) ⟨.int (metK val n).length, H1, I2.tok _, ⟨_, by rw [hz]⟩, q⟩
  rcases q1 with ⟨l, ks, rfl, hq, hl, q⟩ | ⟨t, rfl, hl, q⟩
  · cases r1
    obtain ⟨its, r, pl, hz⟩ := I1.list hq
    have e : its.toArray.size = ks.length := by rw [List.size_toArray, ← r.length, List.length_map]
    refine set_frame _ (fun i => ks.getD i (.inl 0)) its.toArray.size (fun led => set_body_list (I1.ok.hd hc) pl.isList (fun i v hv => keys_are r i v (by simpa using hv)) (by rw [e]; unfold scanBound; omega) led) ?_
    rw [e]
    exact fin _ _ hl q
  · obtain ⟨u, rfl⟩ := r1
    have e : (t.cps.toList.map fun c => (.inr ⟨#[c]⟩ : Key)).length = t.cps.size := by rw [List.length_map, Array.length_toList]
    refine set_frame _ (fun i => (t.cps.toList.map fun c => (.inr ⟨#[c]⟩ : Key)).getD i (.inl 0)) t.cps.size (fun led => set_body_str (I1.ok.hd hc) (fun i c hc => ?_) (by unfold scanBound; have : t.cps.size ≤ 4000 := hl; omega) led) ?_
    · rw [List.getD_eq_getElem?_getD, List.getElem?_map, Array.getElem?_toList, hc] <;> rfl
    · refine fin _ _ hl ?_
      unfold uniqK at q
      rw [e] at q
      exact q
end
theorem metK_map {α : Type} [DecidableEq α] (f : α → Key) (inj : ∀ x y, f x = f y → x = y) (l : List α) : ∀ i, i ≤ l.length → metK (fun i => (l.map f).getD i (.inl 0)) i = (LS.uniq (l.take i)).map f
  | 0, _ => rfl
  | i + 1, hi => by
    have e1 : l[i]? = some l[i] := List.getElem?_eq_getElem hi
    have e2 : (l.map f).getD i (.inl 0) = f l[i] := by rw [List.getD_eq_getElem?_getD, List.getElem?_map, e1] <;> rfl
    show (if inK ((l.map f).getD i (.inl 0)) (metK _ i) = true then metK _ i else metK _ i ++ [(l.map f).getD i (.inl 0)]) = _
    rw [metK_map f inj l i (by omega), e2, take_snoc e1]
    unfold LS.uniq
    rw [LS.addNew_snoc]
    have e3 : inK (f l[i]) ((LS.addNew [] (l.take i)).map f) = decide (l[i] ∈ LS.addNew [] (l.take i)) := by
      unfold inK
      rw [List.any_map]
      by_cases hm : l[i] ∈ LS.addNew [] (l.take i)
      · rw [decide_eq_true hm]
        exact List.any_eq_true.mpr ⟨_, hm, by simp⟩
      · rw [decide_eq_false hm]
        refine List.any_eq_false.mpr fun x hx => ?_
        intro e
        have e := of_decide_eq_true (p := f x = f l[i]) e
        exact hm (inj _ _ e ▸ hx)
    rw [e3]
    by_cases hm : l[i] ∈ LS.addNew [] (l.take i)
    · rw [if_pos hm, if_pos (decide_eq_true hm)]
    · rw [if_neg hm, if_neg (by simp [hm]), List.map_append] <;> rfl
theorem uniqK_map {α : Type} [DecidableEq α] (f : α → Key) (inj : ∀ x y, f x = f y → x = y) (l : List α) : uniqK (l.map f) = (LS.uniq l).map f := by
  unfold uniqK
  rw [List.length_map, metK_map f inj l _ (Nat.le_refl _), List.take_length]
theorem uniq_of_nodup {α : Type} [DecidableEq α] {l : List α} (h : l.Nodup) : ∀ i, i ≤ l.length → LS.uniq (l.take i) = l.take i
  | 0, _ => rfl
  | i + 1, hi => by
    have e1 : l[i]? = some l[i] := List.getElem?_eq_getElem hi
    have ih := uniq_of_nodup h i (by omega)
    unfold LS.uniq at ih ⊢
    rw [take_snoc e1, LS.addNew_snoc, ih, if_neg]
    intro hm
    obtain ⟨j, hj, e⟩ := List.getElem_of_mem hm
    rw [List.length_take] at hj
    rw [List.getElem_take] at e
    exact absurd e (List.pairwise_iff_getElem.mp h j i (by omega) (by omega) (by omega))
end LW
end
section
set_option Elab.async false
set_option linter.all false
set_option maxRecDepth 100000
/-! a dict whose keys are pairs of an int and a tuple of ints; its values count it up -/
namespace LW
open PySem PySem.Spec PyProof.Rows L2
def nk (k : Nat × List Nat) : NestedKey := .tup [.num k.1, .tup (k.2.map fun n : Nat => NestedKey.num n)]
theorem nums_inj : ∀ {a b : List Nat}, (a.map fun n : Nat => NestedKey.num n) = b.map (fun n : Nat => NestedKey.num n) → a = b
  | [], [], _ => rfl
  | [], _ :: _, h => by cases h
  | _ :: _, [], h => by cases h
  | x :: a, y :: b, h => by
    rw [List.map_cons, List.map_cons] at h
    injection h with h1 h2
    injection h1 with h3
    rw [nums_inj h2, Int.ofNat.inj h3]
theorem nk_inj {a b : Nat × List Nat} (h : nk a = nk b) : a = b := by
  unfold nk at h
  injection h with h
  injection h with h1 h
  injection h1 with h1
  injection h with h2 _
  injection h2 with h2
  have e1 : a.1 = b.1 := Int.ofNat.inj h1
  have e2 : a.2 = b.2 := nums_inj h2
  obtain ⟨a1, a2⟩ := a
  obtain ⟨b1, b2⟩ := b
  simp only at e1 e2
  rw [e1, e2]
def NdO (P : Program) (w : World) (a : Addr) (ks : List ((Nat × List Nat) × Addr)) : HO := .ext fun h => (a == sysModules) = false ∧ ∃ xs : List (NestedKey × Addr × Value), xs.map (fun x => (x.1, x.2.1)) = ks.map (fun k => (nk k.1, k.2)) ∧
  (∀ (i : Nat) x, xs[i]? = some x → ∃ t, x.2.2 = .int (i : Nat) t) ∧ ∃ o es ep, h.get? a = some o ∧ o.ExactDict ∧ o.data = .dict es ep ∧ es.toList = xs.map (entryOfKey (nestedKind P w)) ∧ (xs.map (·.1)).Nodup
def KeyT (H : Hp) (k : Nat × List Nat) (b : Addr) : Prop := ∃ t, H b = some (.tup [nV k.1, .ref t]) ∧ H t = some (.tup (k.2.map nV))
theorem KeyT.same {H H' : Hp} {k : Nat × List Nat} {b : Addr} (h : KeyT H k b) (e : Same H H') : KeyT H' k b := let ⟨t, h1, h2⟩ := h; ⟨t, e _ _ h1, e _ _ h2⟩
section
variable {P : Program} {w : World} {H : Hp} {h : Heap} {a : Addr} {ks : List ((Nat × List Nat) × Addr)}
theorem ndO_ok (hd : (a == sysModules) = false) (xs : List (NestedKey × Addr × Value)) (h1 : xs.map (fun x => (x.1, x.2.1)) = ks.map (fun k => (nk k.1, k.2))) (h2 : ∀ (i : Nat) x, xs[i]? = some x → ∃ t, x.2.2 = .int (i : Nat) t)
    (h3 : ∃ o es ep, h.get? a = some o ∧ o.ExactDict ∧ o.data = .dict es ep ∧ es.toList = xs.map (entryOfKey (nestedKind P w)) ∧ (xs.map (·.1)).Nodup) : ObjOk P w H h a (NdO P w a ks) := by
  obtain ⟨o, es, ep, ho, r⟩ := h3
  refine ⟨⟨hd, xs, h1, h2, o, es, ep, ho, r⟩, ⟨o, ho⟩, fun k1 k2 p st => ?_⟩
  obtain ⟨p0, ys, p1, p2, o', es', ep', q, p3⟩ := p
  exact ⟨p0, ys, p1, p2, o', es', ep', st _ q, p3⟩
theorem nums_all : ∀ {ns : List Nat} {us : List Value}, Vals (ns.map nV) us → NestedAll h (ns.map fun n : Nat => NestedKey.num n) us
  | [], _, .nil => .nil
  | n :: ns, _, .cons r t => by
    obtain ⟨k, rfl⟩ := r
    exact .cons (.int _ _) (nums_all t)
theorem nums_depth : ∀ ns : List Nat, NestedKey.depthAll (ns.map fun n : Nat => NestedKey.num n) ≤ 1
  | [] => by simp [NestedKey.depthAll]
  | n :: ns => by
    have := nums_depth ns
    rw [List.map_cons, NestedKey.depthAll]
    have e : (NestedKey.num n).depth ≤ 1 := by simp [NestedKey.depth]
    omega
theorem KeyT.is (ok : HOk P w H h) {k : Nat × List Nat} {b : Addr} (e : KeyT H k b) : (nestedKind P w).is h (nk k) b := by
  obtain ⟨t, e1, e2⟩ := e
  obtain ⟨_, its, rv, o, ho, hc, n, hd⟩ := ok _ _ e1
  obtain ⟨_, its2, rv2, o2, ho2, hc2, n2, hd2⟩ := ok _ _ e2
  refine ⟨.tup ho hc hd ?_, ?_⟩
  · cases rv with
    | cons r rr =>
      cases rr with
      | cons r' rr =>
        cases rr
        obtain ⟨u, rfl⟩ := r
        cases r'
        refine .cons (.int _ _) (.cons (.tup ho2 hc2 hd2 ?_) .nil)
        simpa using nums_all rv2
  · have := nums_depth k.2
    simp only [nk, NestedKey.depth, NestedKey.depthAll]
    omega
end
section
variable {X : Cx} {pins : List (Addr × Obj)} {σ : L2.St} {H : Hp} {s : Shared} {a b : Addr} {ks : List ((Nat × List Nat) × Addr)} {k : Nat × List Nat} {A : Around} {E : Value → Shared → Prop}
theorem nd_get (I : Inv X pins σ H s) (e : H a = some (NdO X.prog X.w a ks)) (hk : ∀ p ∈ ks, KeyT H p.1 p.2) : (a == sysModules) = false ∧ ∃ xs : List (NestedKey × Addr × Value), xs.map (fun x => (x.1, x.2.1)) = ks.map (fun k => (nk k.1, k.2)) ∧
    (∀ (i : Nat) x, xs[i]? = some x → ∃ t, x.2.2 = .int (i : Nat) t) ∧ s.heap.DictOfH (nestedKind X.prog X.w) a xs := by
  obtain ⟨⟨h0, xs, h1, h2, o, es, ep, ho, hc, hd, he, hn⟩, _⟩ := I.hok _ _ e
  refine ⟨h0, xs, h1, h2, o, es, ep, ho, hc, hd, he, fun x hx => ?_, hn⟩
  obtain ⟨i, hi⟩ := List.mem_iff_getElem?.mp hx
  have q := map_at (fun x : NestedKey × Addr × Value => (x.1, x.2.1)) hi
  rw [h1] at q
  obtain ⟨p, hp, e2⟩ := of_map_at q
  injection e2 with e3 e4
  rw [e3, e4]
  exact (hk p (List.mem_of_getElem? hp)).is I.hok
theorem nd_setd {u r : Value} {Q : Value → Shared → Prop} (hu : A.units + 64 < cLine) (I : Inv X pins σ H s) (e : H a = some (NdO X.prog X.w a ks)) (hk : ∀ p ∈ ks, KeyT H p.1 p.2) (kb : KeyT H k b) (ry : u = .ref b) (rd : RelV (nV ks.length) r) (hl : ks.length < 100000)
    (h1 : ∀ i, (ks.map (·.1))[i]? = some k → ∀ (w' : Value) (s' : Shared), Inv X pins σ H s' → RelV (nV i) w' → Q w' s')
    (h2 : k ∉ ks.map (·.1) → ∀ (w' : Value) (s' : Shared), Inv X pins σ (upd H a (NdO X.prog X.w a (ks ++ [(k, b)]))) s' → RelV (nV ks.length) w' → Q w' s') :
    wpAny (model X.prog X.w) A (call (.builtin "dict.setdefault") [.ref a, u, r]) Q E s := by
  subst ry
  obtain ⟨h0, xs, hx, hv, dd⟩ := nd_get I e hk
  have hxl : xs.length = ks.length := by have := congrArg List.length hx; simpa using this
  have hkey : ∀ i : Nat, (xs[i]?).map (·.1) = ((ks.map (·.1))[i]?).map nk := fun i => by
    have q := congrArg (fun l => (l[i]?).map Prod.fst) hx
    simp only [List.getElem?_map, Option.map_map] at q ⊢
    exact q
  obtain ⟨o, es, ep, ho, hc, hdt, he, hi, hn⟩ := id dd
  refine call_setdefault_heap (by show A.in1.units + 8 < cLine; rw [Around.in1_units]; omega) (kb.is I.hok) h0 dd (fun p hp => ?_) (fun hp h' dd' sb => ?_) (by rw [hxl]; exact Nat.le_of_lt (Nat.lt_trans hl (by decide)))
  · -- there
    have hm : ∃ i : Nat, xs[i]? = some (nk k, p) := by
      apply Classical.byContradiction
      intro hne
      have := atKey_none_of_get (xs := xs) (k := nk k) fun j q hj => hne ⟨j, ?_⟩
      · rw [this] at hp; cases hp
      · rw [atKey_of_get hn hj] at hp
        cases hp
        exact hj
    obtain ⟨i, hi2⟩ := hm
    have q := hkey i
    rw [hi2] at q
    cases hq : (ks.map (·.1))[i]? with
    | none => rw [hq] at q; cases q
    | some k' =>
      rw [hq] at q
      have e1 : nk k = nk k' := Option.some.inj q
      have := nk_inj e1
      subst this
      exact h1 i hq _ _ (I.tok _) (hv i _ hi2)
  · have hnew : k ∉ ks.map (·.1) := fun hm => by
      obtain ⟨i, hi2⟩ := List.mem_iff_getElem?.mp hm
      have q := hkey i
      rw [hi2] at q
      cases hq : xs[i]? with
      | none => rw [hq] at q; cases q
      | some x =>
        rw [hq] at q
        have e1 : x.1 = nk k := Option.some.inj q
        have := atKey_of_get hn (i := i) (k := nk k) (p := x.2) (by rw [hq, ← e1])
        rw [this] at hp
        cases hp
    rw [storedH_new hp] at dd'
    obtain ⟨o', es', ep', ho', hc', hd', he', _, hn'⟩ := dd'
    refine h2 hnew _ _ (d_write (t' := s.toks + (nestedKind X.prog X.w).draws (nk k)) I (by rw [e]; exact True.intro) sb ⟨o', ho'⟩ (ndO_ok h0 (xs ++ [(nk k, b, r)]) ?_ ?_ ⟨o', es', ep', ho', hc', hd', he', hn'⟩)) rd
    · rw [List.map_append, List.map_append, hx] <;> rfl
    · intro i x hi2
      rcases Nat.lt_trichotomy i xs.length with z | z | z
      · rw [List.getElem?_append_left z] at hi2
        exact hv i x hi2
      · subst z
        simp at hi2
        subst hi2
        rw [hxl]
        exact rd
      · rw [List.getElem?_eq_none (by simp; omega)] at hi2
        cases hi2
end
section
variable {prog : Program} {w : World} {A : Around} {E : Value → Shared → Prop} {s : Shared} {d : Addr} {es : Array DictEntry} {ep : Nat}
theorem len_raw {Q : Value → Shared → Prop} (hd : (d == sysModules) = false) (hm : s.heap.DictRaw d es ep) (hfit : (es.size : Int) < 2 ^ 63)
    (h : Q (.int es.size (s.toks + 1)) { s with toks := s.toks + 1 + 1 }) : wpAny (model prog w) A (call (.builtin "len") [.ref d]) Q E s := by
  refine Calls.call_function_entry kind_len plain_len entry_len (args_len1 _) ?_
  unfold Builtin.«len»
  refine wpAny_bind (m := oneArg "len" _) (wpAny_pure ?_)
  refine wpAny_bind (m := callSpecial? (.ref d) (Str.ofString "__len__")) (wpAny_callSpecial?_slot (name := Str.ofString "__len__") hm.typeIs PySem.F.slot_dict_len (call_len_raw hd hm ?_))
  show wpAny _ _ _ _ _ { s with toks := s.toks + 1 }
  refine wpAny_bind (wpAny_holding (wpAny_pure ?_))
  refine wpAny_bind (wpAny_letGo ?_)
  show wpAny _ _ (if ((es.size : Nat) : Int) < 0 then _ else _) _ _ _
  rw [if_neg (by omega)]
  show wpAny _ _ (if ((es.size : Nat) : Int) ≥ 2 ^ 63 then _ else _) _ _ _
  rw [if_neg (by omega)]
  exact wpAny_bind (wpAny_mkInt (wpAny_pure ⟨_, rfl, h⟩))
end
def tNdNew (P : Program) (w : World) : TE := fun _ H Q => ∀ p, H p = none → Q (.ref p) (upd H p (NdO P w p []))
def tNdSet (P : Program) (w : World) (td ty tx : TE) : TE := fun σ H Q => td σ H fun x H1 => ∃ a ks1, x = .ref a ∧ H1 a = some (NdO P w a ks1) ∧ ty σ H1 fun y H2 => tx σ H2 fun z H3 => ∃ (ks : List ((Nat × List Nat) × Addr)) (k : Nat × List Nat) (b : Addr),
  H3 a = some (NdO P w a ks) ∧ y = .ref b ∧ z = nV ks.length ∧ KeyT H3 k b ∧ (∀ p ∈ ks, KeyT H3 p.1 p.2) ∧ ks.length < 100000 ∧ (∀ i, (ks.map (·.1))[i]? = some k → Q (nV i) H3) ∧ (k ∉ ks.map (·.1) → Q (nV ks.length) (upd H3 a (NdO P w a (ks ++ [(k, b)]))))
section
variable {X : Cx} {o e f : Expr} {td ty tx : TE} {pos apos cpos : Pos}
theorem pe_ndNew : PE X (.Dict [] [] pos) (tNdNew X.prog X.w) := ⟨fun pins s σ H Q I h =>
  wpAny_Dict_empty ⟨.ref s.heap.objs.size, _, I.laid (a := s.heap.objs.size) (o := NdO X.prog X.w s.heap.objs.size []) (t' := s.toks) (fun _ _ q => Heap.get?_push_of_some _ q) (Nat.le_refl _)
    (ndO_ok (beq_eq_false_iff_ne.mpr (Ne.symm (Nat.ne_of_lt I.big))) [] rfl (fun i x q => by cases q) ⟨_, #[], 0, Heap.get?_push_size _ rfl, ⟨rfl, rfl, rfl⟩, rfl, rfl, List.nodup_nil⟩), rfl, h _ (I.hok.fresh (Nat.le_refl _))⟩⟩
theorem nd_at {pins : List (Addr × Obj)} {σ : L2.St} {H : Hp} {s : Shared} {a : Addr} {ks : List ((Nat × List Nat) × Addr)} (I : Inv X pins σ H s) (e : H a = some (NdO X.prog X.w a ks)) :
    (a == sysModules) = false ∧ ∃ es ep, es.size = ks.length ∧ s.heap.DictRaw a es ep := by
  obtain ⟨⟨h0, xs, h1, _, o, es, ep, ho, hc, hd, he, _⟩, _⟩ := I.hok _ _ e
  refine ⟨h0, es, ep, ?_, o, ho, hc, hd⟩
  have := congrArg List.length he
  have h2 := congrArg List.length h1
  simp at this h2
  omega
theorem pe_ndSet (hu : X.A.units + 64 < cLine) (ho : PE X o td) (he : PE X e ty) (hf : PE X f tx) (m : M2 X o "setdefault" apos e f cpos) : PE X (.Call (.Attribute o "setdefault" apos) [e, f] [] cpos) (tNdSet X.prog X.w td ty tx) := by
  refine ⟨fun pins s σ H Q I h => ?_⟩
  refine wpAny_Call_method m.base m.few m.line PySem.F.plainAttrs_dict PySem.F.slot_dict_setdefault PySem.F.type_dict_setdefault (thn (ho.run pins s σ H _ I h) fun u s1 ⟨x, H1, I1, rx, a, ks1, ex, d, q1⟩ => ?_)
  subst ex
  obtain rfl : u = Value.ref a := rx
  obtain ⟨_, _, _, _, o', ho', hc', _⟩ := nd_at I1 d
  refine ⟨⟨o', ho', hc'.1⟩, fun b q => by cases q; exact ⟨o', ho', hc'.2.1⟩, ?_⟩
  rw [m.trees]
  refine Calls.callWith_builtin rfl (Calls.evalArgs_plain (Calls.spliced_cons (thn (he.run pins s1 σ H1 _ I1 q1) fun iv s2 ⟨y, H2, I2, ry, q2⟩ =>
    Calls.spliced_cons (thn (hf.run pins s2 σ H2 _ I2 q2) fun fv s3 ⟨z, H3, I3, rz, ks, k, b, ea, ey, ez, kb, hk, hl, q3, q4⟩ => Calls.spliced_nil ?_))))
  subst ey ez
  exact nd_setd hu I3 ea hk kb ry rz hl (fun i hi w' s4 I4 rw' => ⟨_, _, I4, rw', q3 i hi⟩) fun hn w' s4 I4 rw' => ⟨_, _, I4, rw', q4 hn⟩
theorem call_lenN : CallR X (.builtin "len") (fun xs H Q => ∃ a ks, xs = [.ref a] ∧ H a = some (NdO X.prog X.w a ks) ∧ ks.length < 100000 ∧ Q (nV ks.length) H) := by
  intro pins s σ H xs us Q I r h
  obtain ⟨a, ks, rfl, e, hl, q⟩ := h
  obtain ⟨u, rfl, rx⟩ := vals1 r
  cases rx
  obtain ⟨h0, es, ep, hz, hr⟩ := nd_at I e
  exact len_raw h0 hr (by omega) ⟨.int ks.length, H, I.tok _, ⟨_, by rw [hz]⟩, q⟩
theorem pe_ndNewP (P : Program) (w : World) (h1 : X.prog = P := by rfl) (h2 : X.w = w := by rfl) : PE X (.Dict [] [] pos) (tNdNew P w) := by subst h1 h2; exact pe_ndNew
theorem pe_ndSetP (P : Program) (w : World) (hu : X.A.units + 64 < cLine) (ho : PE X o td) (he : PE X e ty) (hf : PE X f tx) (m : M2 X o "setdefault" apos e f cpos) (h1 : X.prog = P := by rfl) (h2 : X.w = w := by rfl) :
    PE X (.Call (.Attribute o "setdefault" apos) [e, f] [] cpos) (tNdSet P w td ty tx) := by subst h1 h2; exact pe_ndSet hu ho he hf m
theorem call_lenNP (P : Program) (w : World) (h1 : X.prog = P := by rfl) (h2 : X.w = w := by rfl) : CallR X (.builtin "len") (fun xs H Q => ∃ a ks, xs = [.ref a] ∧ H a = some (NdO P w a ks) ∧ ks.length < 100000 ∧ Q (nV ks.length) H) := by subst h1 h2; exact call_lenN
end
end LW
end
section
set_option Elab.async false
set_option linter.all false
set_option maxRecDepth 100000
/-! zip of any two sources, the pair handed out being held or let go; enumerate of any source -/
namespace LW
open PySem PySem.Spec PyProof.Rows L2
/-- a zip, whatever pair it has handed out -/
abbrev ZipAny (h : Heap) (z TI TO : Addr) (f : Value) (b : Bool) : Prop :=
  h.get? z = some { cls := .type "zip", dict := none, data := .fields #[f, .bool b, .bool false, .ref TI, .ref TO], slots := #[] }
/-- what the first field may be -/
def OutF (f : Value) : Prop := f = .none ∨ ∃ T : Addr, f = rawInt T
section
variable {prog : Program} {w : World} {A : Around} {E : Value → Shared → Prop} {s : Shared} {z TI TO i1 i2 : Addr} {fp1 fp2 : List Addr} {n1 n2 i : Nat} {P1 P2 : Nat → Value → Prop} {St1 St2 : Nat → Heap → Prop} {a1 a2 : Value}
theorem alive_any {a : Addr} {Q : Option Obj → Shared → Prop} (h : Q (s.heap.get? a) s) : wpAny (model prog w) A (loadIfAlive a) Q E s := fun _ _ _ => h
theorem owned_any {f : Value} {b : Bool} {Q : Bool → Shared → Prop} (hz : ZipAny s.heap z TI TO f b) (hf : OutF f) (h1 : Q true s) (h2 : ∀ h', ZipAny h' z TI TO f true → Heap.SameBut z s.heap h' → Q false { s with heap := h' }) :
    wpAny (model prog w) A (Builtin.SmallTypes.ownedTupleIsFree (.ref z)) Q E s := by
  unfold Builtin.SmallTypes.ownedTupleIsFree
  rcases hf with rfl | ⟨T, rfl⟩
  · refine wpAny_bind (wpAny_field hz rfl (x := .none) rfl (wpAny_pure ?_))
    exact h1
  · refine wpAny_bind (wpAny_field hz rfl (x := rawInt T) rfl ?_)
    show wpAny _ _ (loadIfAlive ((T : Int).toNat) >>= _) _ _ _
    rw [Int.toNat_natCast]
    refine wpAny_bind (alive_any ?_)
    cases hg : s.heap.get? T with
    | none => exact wpAny_pure h1
    | some oT =>
      simp only [Option.isNone_some, Bool.false_eq_true, if_false]
      refine wpAny_bind (wpAny_field hz rfl (x := .bool b) rfl ?_)
      cases b with
      | true =>
        rw [if_neg (show ¬ ((Value.bool true != Value.bool true) = true) from Bool.false_ne_true)]
        exact wpAny_pure (h2 s.heap hz (Heap.SameBut.refl _ _))
      | false =>
        rw [if_pos (show (Value.bool false != Value.bool true) = true from rfl)]
        exact wpAny_bind (wpAny_setField_rec hz (by simp) fun h₁ hz₁ hs₁ => wpAny_pure (h2 h₁ hz₁ hs₁))

theorem zipA_item {f : Value} {b : Bool} {Q : Value → Shared → Prop} (S : ZipSep2 z TI TO i1 i2 fp1 fp2) (D1 : Draws prog w A i1 fp1 n1 P1 St1) (D2 : Draws prog w A i2 fp2 n2 P2 St2)
    (hz : ZipAny s.heap z TI TO f b) (hf : OutF f) (hTI : IsTupOf2 s.heap TI (.ref i1) (.ref i2)) (hTO : IsTupOf2 s.heap TO a1 a2) (st1 : St1 i s.heap) (st2 : St2 i s.heap) (hlt1 : i < n1) (hlt2 : i < n2)
    (hQ : ∀ x1 x2 h' tk f' b' b1 b2, P1 i x1 → P2 i x2 → ZipAny h' z TI TO f' b' → OutF f' → IsTupOf2 h' TO b1 b2 → St1 (i + 1) h' → St2 (i + 1) h' → IsTupOf2 h' s.heap.objs.size x1 x2 → h'.objs.size = s.heap.objs.size + 1 →
      (∀ c o, c ≠ z → c ≠ TO → c ≠ i1 → c ≠ i2 → s.heap.get? c = some o → h'.get? c = some o) → Q (.ref s.heap.objs.size) { s with heap := h', toks := tk }) :
    wpAny (model prog w) A (Builtin.«zip.__next__» ⟨[.ref z], []⟩) (fun fin s' => ∃ v, fin = .done (.ret v) ∧ Q v s') E s := by
  obtain ⟨hp, g, d, tk0, os⟩ := s
  show wpAny _ _ (field (.ref z) 2 >>= _) _ _ _
  refine wpAny_bind (wpAny_field hz rfl (x := .bool false) rfl ?_)
  show wpAny _ _ (field (.ref z) 3 >>= _) _ _ _
  refine wpAny_bind (wpAny_field hz rfl (x := .ref TI) rfl ?_)
  refine wpAny_bind (wpAny_seqItems hTI rfl ?_)
  show wpAny _ _ (Builtin.SmallTypes.ownedTupleIsFree (.ref z) >>= _) _ _ _
  refine wpAny_bind (owned_any hz hf ?_ fun h₁ hz₁ hs₁ => ?_)
  · -- its own pair again
    simp only [if_true]
    refine wpAny_bind (wpAny_rule ?_)
    refine wpAny_bind (wpAny_field hz rfl (x := .ref TO) rfl ?_)
    refine wpAny_bind (wpAny_setField_rec hz (by simp) fun g0 hz0 hs0 => ?_)
    replace hz0 : ZipAny g0 z TI TO .ellipsis b := hz0
    replace hs0 : Heap.SameBut z hp g0 := hs0
    refine wpAny_bind ?_
    simp only [List.zipIdx_cons, List.zipIdx_nil, List.forIn_cons, List.forIn_nil]
    refine wpAny_bind (wpAny_bind (wpAny_onRaise ?_))
    show wpAny _ _ (Builtin.SmallTypes.nextOf (.ref i1) >>= _) _ _ ⟨g0, g, d, tk0, os⟩
    refine wpAny_bind (D1.item i _ _ _ hlt1 (D1.over st1 hs0 S.zf1) fun x1 p1 tk1 hx1 sn1 hp1 => wpAny_pure ?_)
    replace hp1 : Heap.SameBut i1 g0 p1 := hp1
    have hU1 : IsTupOf2 p1 TO a1 a2 := hp1.extBut _ _ S.Ti1 (hs0.extBut _ _ S.TOz hTO)
    refine wpAny_bind (wpAny_seqItems (s := ⟨p1, g, d, tk1, os⟩) hU1 rfl ?_)
    refine wpAny_bind (updateSeq_IsTupOf2 (s := ⟨p1, g, d, tk1, os⟩) hU1 fun g1 hT1 hs1 => ?_)
    replace hT1 : IsTupOf2 g1 TO x1 a2 := hT1
    replace hs1 : Heap.SameBut TO p1 g1 := hs1
    refine wpAny_bind (wpAny_letGo (wpAny_pure ?_))
    refine wpAny_bind (wpAny_bind (wpAny_onRaise ?_))
    show wpAny _ _ (Builtin.SmallTypes.nextOf (.ref i2) >>= _) _ _ ⟨g1, g, d, tk1, os⟩
    refine wpAny_bind (D2.item i _ _ _ hlt2 (D2.over (D2.over (D2.over st2 hs0 S.zf2) hp1 S.sep1_2) hs1 S.Tf2) fun x2 p2 tk2 hx2 sn2 hp2 => wpAny_pure ?_)
    replace hp2 : Heap.SameBut i2 g1 p2 := hp2
    have hU2 : IsTupOf2 p2 TO x1 a2 := hp2.extBut _ _ S.Ti2 hT1
    refine wpAny_bind (wpAny_seqItems (s := ⟨p2, g, d, tk2, os⟩) hU2 rfl ?_)
    refine wpAny_bind (updateSeq_IsTupOf2 (s := ⟨p2, g, d, tk2, os⟩) hU2 fun g2 hT2 hs2 => ?_)
    replace hT2 : IsTupOf2 g2 TO x1 x2 := hT2
    replace hs2 : Heap.SameBut TO p2 g2 := hs2
    refine wpAny_bind (wpAny_letGo (wpAny_pure (wpAny_pure ?_)))
    refine wpAny_bind (wpAny_seqItems (s := ⟨g2, g, d, tk2, os⟩) hT2 rfl ?_)
    refine wpAny_bind (wpAny_newTuple ?_)
    have hsz : g2.objs.size = hp.objs.size := by rw [hs2.1, hp2.1, hs1.1, hp1.1, hs0.1]
    have hzz : ZipAny g2 z TI TO .ellipsis b := hs2.extBut _ _ S.TOz.symm (hp2.extBut _ _ S.zi2 (hs1.extBut _ _ S.TOz.symm (hp1.extBut _ _ S.zi1 hz0)))
    have hzlt : z < g2.objs.size := Heap.lt_size hzz
    show wpAny _ _ (Builtin.SmallTypes.ownedTupleHandOut (.ref z) (.ref g2.objs.size) >>= _) _ _ ⟨g2.push { cls := .type "tuple", data := .seq #[x1, x2] }, g, d, tk2, os⟩
    refine wpAny_bind ?_
    unfold Builtin.SmallTypes.ownedTupleHandOut
    have hz6 : ZipAny (g2.push { cls := .type "tuple", data := .seq #[x1, x2] }) z TI TO .ellipsis b := Heap.get?_push_of_some _ hzz
    refine wpAny_bind (wpAny_setField_rec hz6 (by simp) fun h7 hz7 hs7 => ?_)
    replace hz7 : ZipAny h7 z TI TO (rawInt g2.objs.size) b := hz7
    refine wpAny_setField_rec hz7 (by simp) fun h8 hz8 hs8 => ?_
    replace hz8 : ZipAny h8 z TI TO (rawInt g2.objs.size) false := hz8
    replace hs7 : Heap.SameBut z (g2.push { cls := .type "tuple", data := .seq #[x1, x2] }) h7 := hs7
    replace hs8 : Heap.SameBut z h7 h8 := hs8
    have up : ∀ c o, c ≠ z → g2.get? c = some o → h8.get? c = some o := fun c o c1 e => hs8.extBut _ _ c1 (hs7.extBut _ _ c1 (Heap.get?_push_of_some _ e))
    have hT8 : IsTupOf2 h8 g2.objs.size x1 x2 := hs8.extBut _ _ (Nat.ne_of_gt hzlt) (hs7.extBut _ _ (Nat.ne_of_gt hzlt) (Heap.get?_push_size _ rfl))
    have hq8 : h8.objs.size = g2.objs.size + 1 := by rw [hs8.1, hs7.1, Heap.size_push]
    have o1 : St1 (i + 1) h8 := D1.frame _ _ _ (D1.over (D1.over (D1.over sn1 hs1 S.Tf1) hp2 S.sep2_1) hs2 S.Tf1) fun c hc o e => up c o (fun q => S.zf1 (q ▸ hc)) e
    have o2 : St2 (i + 1) h8 := D2.frame _ _ _ (D2.over sn2 hs2 S.Tf2) fun c hc o e => up c o (fun q => S.zf2 (q ▸ hc)) e
    rw [hsz] at hz8 hT8 hq8
    refine wpAny_pure ⟨_, rfl, ?_⟩
    show Q (.ref g2.objs.size) ⟨h8, g, d, tk2, os⟩
    rw [hsz]
    exact hQ x1 x2 h8 tk2 _ _ x1 x2 hx1 hx2 hz8 (.inr ⟨_, rfl⟩) (up _ _ S.TOz hT2) o1 o2 hT8 hq8 fun c o cz cT c1 c2 e => up c o cz (hs2.extBut _ _ cT (hp2.extBut _ _ c2 (hs1.extBut _ _ cT (hp1.extBut _ _ c1 (hs0.extBut _ _ cz e)))))
  · -- a pair apart
    replace hs₁ : Heap.SameBut z hp h₁ := hs₁
    simp only [Bool.false_eq_true, if_false]
    refine wpAny_bind ?_
    rw [← Array.forIn_toList]
    simp only [List.forIn_cons, List.forIn_nil]
    refine wpAny_bind (wpAny_bind (wpAny_holding ?_))
    show wpAny _ _ (Builtin.SmallTypes.nextOf (.ref i1) >>= _) _ _ _
    refine wpAny_bind (D1.item i ⟨h₁, g, d, tk0, os⟩ _ _ hlt1 (D1.over st1 hs₁ S.zf1) fun x1 p1 tk1 hx1 sn1 hp1 => wpAny_pure ?_)
    replace hp1 : Heap.SameBut i1 h₁ p1 := hp1
    refine wpAny_pure ?_
    refine wpAny_bind (wpAny_bind (wpAny_holding ?_))
    show wpAny _ _ (Builtin.SmallTypes.nextOf (.ref i2) >>= _) _ _ _
    refine wpAny_bind (D2.item i ⟨p1, g, d, tk1, os⟩ _ _ hlt2 (D2.over (D2.over st2 hs₁ S.zf2) hp1 S.sep1_2) fun x2 p2 tk2 hx2 sn2 hp2 => wpAny_pure ?_)
    replace hp2 : Heap.SameBut i2 p1 p2 := hp2
    refine wpAny_pure (wpAny_pure ?_)
    show wpAny _ _ (newTuple [x1, x2] >>= _) _ _ _
    refine wpAny_bind (wpAny_newTuple ?_)
    have hsz : p2.objs.size = hp.objs.size := by rw [hp2.1, hp1.1, hs₁.1]
    have hz3 : ZipAny p2 z TI TO f true := hp2.extBut _ _ S.zi2 (hp1.extBut _ _ S.zi1 hz₁)
    have hk : ∀ c o, c ≠ z → c ≠ i1 → c ≠ i2 → hp.get? c = some o → p2.get? c = some o := fun c o c1 c2 c3 e => hp2.extBut _ _ c3 (hp1.extBut _ _ c2 (hs₁.extBut _ _ c1 e))
    refine wpAny_pure ⟨_, rfl, ?_⟩
    show Q (.ref p2.objs.size) _
    have hT : IsTupOf2 (p2.push { cls := .type "tuple", data := .seq #[x1, x2] }) p2.objs.size x1 x2 := Heap.get?_push_size _ rfl
    have hq : (p2.push { cls := .type "tuple", data := .seq #[x1, x2] }).objs.size = p2.objs.size + 1 := Heap.size_push ..
    have o1 : St1 (i + 1) (p2.push { cls := .type "tuple", data := .seq #[x1, x2] }) := D1.frame _ _ _ (D1.over sn1 hp2 S.sep2_1) fun c _ o e => Heap.get?_push_of_some _ e
    have o2 : St2 (i + 1) (p2.push { cls := .type "tuple", data := .seq #[x1, x2] }) := D2.frame _ _ _ sn2 fun c _ o e => Heap.get?_push_of_some _ e
    rw [hsz] at hT hq ⊢
    exact hQ x1 x2 _ tk2 f true a1 a2 hx1 hx2 (Heap.get?_push_of_some _ hz3) hf (Heap.get?_push_of_some _ (hk _ _ S.TOz S.Ti1 S.Ti2 hTO)) o1 o2 hT hq fun c o c1 _ c3 c4 e => Heap.get?_push_of_some _ (hk c o c1 c3 c4 e)
theorem zipA_end {f : Value} {b : Bool} {Q : Fin → Shared → Prop} (S : ZipSep2 z TI TO i1 i2 fp1 fp2) (D1 : Draws prog w A i1 fp1 n1 P1 St1) (D2 : Draws prog w A i2 fp2 n2 P2 St2)
    (hz : ZipAny s.heap z TI TO f b) (hf : OutF f) (hTI : IsTupOf2 s.heap TI (.ref i1) (.ref i2)) (hTO : IsTupOf2 s.heap TO a1 a2) (st1 : St1 i s.heap) (st2 : St2 i s.heap) (hle1 : i ≤ n1) (hle2 : i ≤ n2) (hend : i = n1 ∨ i = n2)
    (hE : ∀ h' tk e, (∀ c o, c ≠ z → c ≠ TO → c ≠ i1 → c ≠ i2 → s.heap.get? c = some o → h'.get? c = some o) → (∃ o, h'.get? e = some o ∧ o.cls = .type "StopIteration") → E (.ref e) { s with heap := h', toks := tk }) :
    wpAny (model prog w) A (Builtin.«zip.__next__» ⟨[.ref z], []⟩) Q E s := by
  obtain ⟨hp, g, d, tk0, os⟩ := s
  show wpAny _ _ (field (.ref z) 2 >>= _) _ _ _
  refine wpAny_bind (wpAny_field hz rfl (x := .bool false) rfl ?_)
  show wpAny _ _ (field (.ref z) 3 >>= _) _ _ _
  refine wpAny_bind (wpAny_field hz rfl (x := .ref TI) rfl ?_)
  refine wpAny_bind (wpAny_seqItems hTI rfl ?_)
  show wpAny _ _ (Builtin.SmallTypes.ownedTupleIsFree (.ref z) >>= _) _ _ _
  refine wpAny_bind (owned_any hz hf ?_ fun h₁ hz₁ hs₁ => ?_)
  · simp only [if_true]
    refine wpAny_bind (wpAny_rule ?_)
    refine wpAny_bind (wpAny_field hz rfl (x := .ref TO) rfl ?_)
    refine wpAny_bind (wpAny_setField_rec hz (by simp) fun g0 hz0 hs0 => ?_)
    replace hz0 : ZipAny g0 z TI TO .ellipsis b := hz0
    replace hs0 : Heap.SameBut z hp g0 := hs0
    refine wpAny_bind ?_
    simp only [List.zipIdx_cons, List.zipIdx_nil, List.forIn_cons, List.forIn_nil]
    refine wpAny_bind (wpAny_bind (wpAny_onRaise ?_))
    show wpAny _ _ (Builtin.SmallTypes.nextOf (.ref i1) >>= _) _ _ ⟨g0, g, d, tk0, os⟩
    by_cases hlt1 : i < n1
    · refine wpAny_bind (D1.item i _ _ _ hlt1 (D1.over st1 hs0 S.zf1) fun x1 p1 tk1 hx1 sn1 hp1 => wpAny_pure ?_)
      replace hp1 : Heap.SameBut i1 g0 p1 := hp1
      have hU1 : IsTupOf2 p1 TO a1 a2 := hp1.extBut _ _ S.Ti1 (hs0.extBut _ _ S.TOz hTO)
      refine wpAny_bind (wpAny_seqItems (s := ⟨p1, g, d, tk1, os⟩) hU1 rfl ?_)
      refine wpAny_bind (updateSeq_IsTupOf2 (s := ⟨p1, g, d, tk1, os⟩) hU1 fun g1 hT1 hs1 => ?_)
      replace hT1 : IsTupOf2 g1 TO x1 a2 := hT1
      replace hs1 : Heap.SameBut TO p1 g1 := hs1
      refine wpAny_bind (wpAny_letGo (wpAny_pure ?_))
      have hi2 : i = n2 := by omega
      refine wpAny_bind (wpAny_bind (wpAny_onRaise ?_))
      show wpAny _ _ (Builtin.SmallTypes.nextOf (.ref i2) >>= _) _ _ ⟨g1, g, d, tk1, os⟩
      refine wpAny_bind (D2.done ⟨g1, g, d, tk1, os⟩ _ _ (by rw [← hi2]; exact (D2.over (D2.over (D2.over st2 hs0 S.zf2) hp1 S.sep1_2) hs1 S.Tf2)) fun q e hq he => ?_)
      replace hq : Heap.ExtBut i2 g1 q := hq
      obtain ⟨oe, hoe, hce⟩ := he
      replace hoe : q.get? e = some oe := hoe
      have hzq : ZipAny q z TI TO .ellipsis b := hq _ _ S.zi2 (hs1.extBut _ _ S.TOz.symm (hp1.extBut _ _ S.zi1 hz0))
      have hez : e ≠ z := fun x => by subst x; rw [hzq] at hoe; cases hoe; simp at hce
      refine wpAny_setField_rec (s := ⟨q, g, d, tk1, os⟩) hzq (by simp) fun q' _ hq' => ?_
      replace hq' : Heap.SameBut z q q' := hq'
      exact hE q' tk1 e (fun c o cz cT c1 c2 x => hq'.extBut _ _ cz (hq _ _ c2 (hs1.extBut _ _ cT (hp1.extBut _ _ c1 (hs0.extBut _ _ cz x))))) ⟨oe, hq'.extBut _ _ hez hoe, hce⟩
    · have hi1 : i = n1 := by omega
      refine wpAny_bind (D1.done ⟨g0, g, d, tk0, os⟩ _ _ (by rw [← hi1]; exact (D1.over st1 hs0 S.zf1)) fun q e hq he => ?_)
      replace hq : Heap.ExtBut i1 g0 q := hq
      obtain ⟨oe, hoe, hce⟩ := he
      replace hoe : q.get? e = some oe := hoe
      have hzq : ZipAny q z TI TO .ellipsis b := hq _ _ S.zi1 hz0
      have hez : e ≠ z := fun x => by subst x; rw [hzq] at hoe; cases hoe; simp at hce
      refine wpAny_setField_rec (s := ⟨q, g, d, tk0, os⟩) hzq (by simp) fun q' _ hq' => ?_
      replace hq' : Heap.SameBut z q q' := hq'
      exact hE q' tk0 e (fun c o cz cT c1 c2 x => hq'.extBut _ _ cz (hq _ _ c1 (hs0.extBut _ _ cz x))) ⟨oe, hq'.extBut _ _ hez hoe, hce⟩
  · replace hs₁ : Heap.SameBut z hp h₁ := hs₁
    simp only [Bool.false_eq_true, if_false]
    refine wpAny_bind ?_
    rw [← Array.forIn_toList]
    simp only [List.forIn_cons, List.forIn_nil]
    refine wpAny_bind (wpAny_bind (wpAny_holding ?_))
    show wpAny _ _ (Builtin.SmallTypes.nextOf (.ref i1) >>= _) _ _ _
    by_cases hlt1 : i < n1
    · refine wpAny_bind (D1.item i ⟨h₁, g, d, tk0, os⟩ _ _ hlt1 (D1.over st1 hs₁ S.zf1) fun x1 p1 tk1 hx1 sn1 hp1 => wpAny_pure ?_)
      replace hp1 : Heap.SameBut i1 h₁ p1 := hp1
      have hi2 : i = n2 := by omega
      refine wpAny_pure ?_
      refine wpAny_bind (wpAny_bind (wpAny_holding ?_))
      show wpAny _ _ (Builtin.SmallTypes.nextOf (.ref i2) >>= _) _ _ _
      refine wpAny_bind (D2.done ⟨p1, g, d, tk1, os⟩ _ _ (by rw [← hi2]; exact D2.over (D2.over st2 hs₁ S.zf2) hp1 S.sep1_2) fun q e hq he => ?_)
      exact hE q tk1 e (fun c o cz cT c1 c2 x => hq _ _ c2 (hp1.extBut _ _ c1 (hs₁.extBut _ _ cz x))) he
    · have hi1 : i = n1 := by omega
      refine wpAny_bind (D1.done ⟨h₁, g, d, tk0, os⟩ _ _ (by rw [← hi1]; exact D1.over st1 hs₁ S.zf1) fun q e hq he => ?_)
      exact hE q tk0 e (fun c o cz cT c1 c2 x => hq _ _ c1 (hs₁.extBut _ _ cz x)) he

theorem zipA_next {f : Value} {b : Bool} {Q : Option Value → Shared → Prop} (S : ZipSep2 z TI TO i1 i2 fp1 fp2) (D1 : Draws prog w A.in1 i1 fp1 n1 P1 St1) (D2 : Draws prog w A.in1 i2 fp2 n2 P2 St2)
    (hz : ZipAny s.heap z TI TO f b) (hf : OutF f) (hTI : IsTupOf2 s.heap TI (.ref i1) (.ref i2)) (hTO : IsTupOf2 s.heap TO a1 a2) (st1 : St1 i s.heap) (st2 : St2 i s.heap) (hlt1 : i < n1) (hlt2 : i < n2)
    (hQ : ∀ x1 x2 h' tk f' b' b1 b2, P1 i x1 → P2 i x2 → ZipAny h' z TI TO f' b' → OutF f' → IsTupOf2 h' TO b1 b2 → St1 (i + 1) h' → St2 (i + 1) h' → IsTupOf2 h' s.heap.objs.size x1 x2 → h'.objs.size = s.heap.objs.size + 1 →
      (∀ c o, c ≠ z → c ≠ TO → c ≠ i1 → c ≠ i2 → s.heap.get? c = some o → h'.get? c = some o) → Q (some (.ref s.heap.objs.size)) { s with heap := h', toks := tk }) :
    wpAny (model prog w) A (pyNext (.ref z)) Q E s := by
  have hT : s.TypeIs (.ref z) "zip" := ⟨_, hz, rfl⟩
  unfold pyNext
  exact wpAny_bind (wpAny_attempt (wpAny_callSpecial?_slot (name := Str.ofString "__next__") hT PySem.F.slot_zip_next
    (wpAny_call_entry PySem.F.slot_zip_next hT PySem.F.entry_zip_next
      (zipA_item S D1 D2 hz hf hTI hTO st1 st2 hlt1 hlt2 fun x1 x2 h' tk f' b' b1 b2 c1 c2 c3 c4 c5 c6 c7 c8 c9 c10 => wpAny_pure (hQ x1 x2 h' tk f' b' b1 b2 c1 c2 c3 c4 c5 c6 c7 c8 c9 c10)) (PySem.F.args_zip_next_1 _))))
theorem zipA_stop {f : Value} {b : Bool} {Q : Option Value → Shared → Prop} (S : ZipSep2 z TI TO i1 i2 fp1 fp2) (D1 : Draws prog w A.in1 i1 fp1 n1 P1 St1) (D2 : Draws prog w A.in1 i2 fp2 n2 P2 St2)
    (hz : ZipAny s.heap z TI TO f b) (hf : OutF f) (hTI : IsTupOf2 s.heap TI (.ref i1) (.ref i2)) (hTO : IsTupOf2 s.heap TO a1 a2) (st1 : St1 i s.heap) (st2 : St2 i s.heap) (hle1 : i ≤ n1) (hle2 : i ≤ n2) (hend : i = n1 ∨ i = n2)
    (hQ : ∀ h' tk, (∀ c o, c ≠ z → c ≠ TO → c ≠ i1 → c ≠ i2 → s.heap.get? c = some o → h'.get? c = some o) → Q none { s with heap := h', toks := tk }) : wpAny (model prog w) A (pyNext (.ref z)) Q E s := by
  have hT : s.TypeIs (.ref z) "zip" := ⟨_, hz, rfl⟩
  unfold pyNext
  refine wpAny_bind (wpAny_attempt (wpAny_callSpecial?_slot (name := Str.ofString "__next__") hT PySem.F.slot_zip_next
    (wpAny_call_entry PySem.F.slot_zip_next hT PySem.F.entry_zip_next (zipA_end S D1 D2 hz hf hTI hTO st1 st2 hle1 hle2 hend fun h' tk e hk he => ?_) (PySem.F.args_zip_next_1 _))))
  obtain ⟨o, ho, hc⟩ := he
  refine wpAny_bind (wpAny_isInstance (T := "StopIteration") (b := true) ⟨o, ho, hc⟩ isSubtype_stop ?_)
  exact wpAny_pure (hQ _ _ hk)
/-- the pair is let go, or kept by a name -/
theorem zipA_go {f : Value} {b : Bool} {tg : Expr} {T : Addr} {Q : Unit → Shared → Prop} (hz : ZipAny s.heap z TI TO f b) (hf : OutF f) (hQ : ∀ h' f', ZipAny h' z TI TO f' b → OutF f' → Heap.SameBut z s.heap h' → Q () { s with heap := h' }) :
    wpAny (model prog w) A (letOwnedTupleGo tg (.ref z) (.ref T)) Q E s := by
  have keep := hQ s.heap f hz hf (Heap.SameBut.refl _ _)
  unfold letOwnedTupleGo
  cases tg <;> first
    | exact wpAny_pure keep
    | (refine wpAny_bind (wpAny_load hz ?_)
       show wpAny _ _ (if (["enumerate", "zip", "dict_itemiterator", "dict_reverseitemiterator", "odict_iterator", "itertools.zip_longest", "itertools.pairwise"].contains "zip" && some f == some (rawInt T)) = true then _ else _) _ _ _
       split
       · refine wpAny_bind (wpAny_rule ?_)
         exact wpAny_setField_rec hz (by simp) fun h₁ hz₁ hs₁ => hQ h₁ .none hz₁ (.inl rfl) hs₁
       · exact wpAny_pure keep)
end
end LW
end
section
set_option Elab.async false
set_option linter.all false
set_option maxRecDepth 100000
set_option maxHeartbeats 1000000
/-! sources (a list, a tuple, a text); enumerate and zip over them -/
namespace LW
open PySem PySem.Spec PyProof.Rows L2
inductive Sk where
  | lst (a : Addr) | tup (a : Addr) | txt (x : Str)
/-- a text's signs -/
def chars (x : Str) : List V := x.cps.toList.map fun c => .str ⟨#[c]⟩
theorem chars_len (x : Str) : (chars x).length = x.cps.size := by unfold chars; rw [List.length_map, Array.length_toList]
theorem chars_at (x : Str) (i : Nat) : (chars x)[i]? = (x.cps[i]?).map fun c => V.str ⟨#[c]⟩ := by unfold chars; rw [List.getElem?_map, Array.getElem?_toList]
def Sk.v : Sk → V
  | .lst a => .ref a
  | .tup a => .ref a
  | .txt x => .str x
def Sk.Is (K : PySem.W.Frag) (H : Hp) : Sk → List V → Prop
  | .lst a, xs => SqL K H a xs
  | .tup a, xs => SqT K H a xs
  | .txt x, xs => xs = chars x
theorem Sk.Is.same {K : PySem.W.Frag} {H H' : Hp} (e : Same H H') : ∀ {S : Sk} {xs : List V}, S.Is K H xs → S.Is K H' xs
  | .lst _, _, h => SqL.same e h
  | .tup _, _, h => SqT.same e h
  | .txt _, _, h => h
/-- the iterator's object -/
def Sk.itO (t : Tok) : Sk → Obj
  | .lst a => { cls := .type "list_iterator", data := .fields #[.ref a, .int 0 0] }
  | .tup a => { cls := .type "tuple_iterator", data := .fields #[.ref a, .int 0 0] }
  | .txt x => { cls := .type (strIterType x), data := .fields #[.str x t, .int 0 0] }
def Sk.itSt (t : Tok) (it : Addr) (i : Nat) (h : Heap) : Sk → Prop
  | .lst a => h.IsListIter it a i
  | .tup a => h.IsTupleIter it a i
  | .txt x => h.IsStrIter it (strIterType x) x t i
def Sk.u (t : Tok) : Sk → Value
  | .lst a => .ref a
  | .tup a => .ref a
  | .txt x => .str x t
def Sk.rest : Sk → List Addr
  | .lst a => [a]
  | .tup a => [a]
  | .txt _ => []
theorem Sk.of_val {S : Sk} {u : Value} (r : RelV S.v u) : ∃ t, u = S.u t := by
  cases S with
  | lst a => exact ⟨0, r⟩
  | tup a => exact ⟨0, r⟩
  | txt x => obtain ⟨t, e⟩ := r; exact ⟨t, e⟩
theorem Sk.obj {S : Sk} {t : Tok} {it : Addr} {i : Nat} {h : Heap} (x : S.itSt t it i h) : ∃ o, h.get? it = some o ∧ ∀ v, o.data ≠ .cell v := by
  cases S <;> obtain ⟨o, ho, hc, hd⟩ := x <;> exact ⟨o, ho, fun v q => by rw [hd] at q; cases q⟩
theorem Sk.keep {S : Sk} {t : Tok} {it : Addr} {i : Nat} {h h' : Heap} (x : S.itSt t it i h) (k : ∀ o, h.get? it = some o → h'.get? it = some o) : S.itSt t it i h' := by
  cases S <;> obtain ⟨o, ho, r⟩ := x <;> exact ⟨o, k o ho, r⟩
theorem Sk.start {S : Sk} {t : Tok} {it : Addr} {h : Heap} (e : h.get? it = some (S.itO t)) : S.itSt t it 0 h := by
  cases S <;> exact ⟨_, e, rfl, rfl⟩
/-- what the walk's source is in the heap -/
structure Drawn (P : Program) (w : World) (A : Around) (S : Sk) (t : Tok) (xs : List V) (it : Addr) (h : Heap) where
  St : Nat → Heap → Prop
  Pd : Nat → Value → Prop
  o : Heap → Prop
  dr : Draws P w A it (it :: S.rest) xs.length Pd St
  into : ∀ i h', S.itSt t it i h' → (∀ b ∈ S.rest, ∀ o, h.get? b = some o → h'.get? b = some o) → St i h'
  out : ∀ i h', St i h' → S.itSt t it i h'
  rel : ∀ i v, Pd i v → ∃ x, xs[i]? = some x ∧ RelV x v
theorem drawn {X : Cx} {pins : List (Addr × Obj)} {σ : L2.St} {H : Hp} {s : Shared} (I : Inv X pins σ H s) {A : Around} (hA : A.handled = none) {S : Sk} {t : Tok} {xs : List V} {it : Addr} (h : S.Is X.K H xs) (hit : it ∉ S.rest) : Nonempty (Drawn X.prog X.w A S t xs it s.heap) := by
  cases S with
  | lst a =>
    obtain ⟨its, rv, p, _⟩ := I.list h
    have hl := rv.length
    have e : its.toArray.size = xs.length := by simp [hl]
    refine ⟨⟨fun i h' => h'.IsListIter it a i ∧ h'.IsList a its.toArray, fun i v => its.toArray[i]? = some v, fun _ => True, ?_, fun i h' x k => ⟨x, p.isList.at fun o q => k a (List.mem_singleton.mpr rfl) o q⟩, fun i h' x => x.1, fun i v hv => ?_⟩⟩
    · have D := Draws.list (prog := X.prog) (w := X.w) hA it a (fun z => hit (by rw [← z]; exact List.mem_singleton.mpr rfl)) its.toArray
      rw [e] at D
      exact D
    · have hi : i < xs.length := by rw [← e]; exact (Array.getElem?_eq_some_iff.mp hv).1
      obtain ⟨u, hu, ru⟩ := rv.get (List.getElem?_eq_getElem hi)
      refine ⟨_, List.getElem?_eq_getElem hi, ?_⟩
      rw [List.getElem?_toArray] at hv
      rw [hu] at hv
      cases hv
      exact ru
  | tup a =>
    obtain ⟨its, rv, p, _⟩ := I.tuple h
    have hl := rv.length
    have e : its.toArray.size = xs.length := by simp [hl]
    have p2 : s.heap.IsTuple a its.toArray := p
    refine ⟨⟨fun i h' => h'.IsTupleIter it a i ∧ h'.IsTuple a its.toArray, fun i v => its.toArray[i]? = some v, fun _ => True, ?_, fun i h' x k => ⟨x, p2.at fun o q => k a (List.mem_singleton.mpr rfl) o q⟩, fun i h' x => x.1, fun i v hv => ?_⟩⟩
    · have D := Draws.tuple (prog := X.prog) (w := X.w) hA it a (fun z => hit (by rw [← z]; exact List.mem_singleton.mpr rfl)) its.toArray
      rw [e] at D
      exact D
    · have hi : i < xs.length := by rw [← e]; exact (Array.getElem?_eq_some_iff.mp hv).1
      obtain ⟨u, hu, ru⟩ := rv.get (List.getElem?_eq_getElem hi)
      refine ⟨_, List.getElem?_eq_getElem hi, ?_⟩
      rw [List.getElem?_toArray] at hv
      rw [hu] at hv
      cases hv
      exact ru
  | txt x =>
    have h : xs = chars x := h
    subst h
    refine ⟨⟨fun i h' => h'.IsStrIter it (strIterType x) x t i, fun i v => ∃ c u, x.cps[i]? = some c ∧ v = .str ⟨#[c]⟩ u, fun _ => True, ?_, fun i h' z _ => z, fun i h' z => z, fun i v hv => ?_⟩⟩
    · have D := Draws.text (prog := X.prog) (w := X.w) hA it x t
      rw [← chars_len x] at D
      exact D
    · obtain ⟨c, u, hc, rfl⟩ := hv
      exact ⟨.str ⟨#[c]⟩, by rw [chars_at, hc] <;> rfl, ⟨u, rfl⟩⟩
theorem src_lt {X : Cx} {pins : List (Addr × Obj)} {σ : L2.St} {H : Hp} {s : Shared} (I : Inv X pins σ H s) {S : Sk} {xs : List V} (h : S.Is X.K H xs) : ∀ b ∈ S.rest, b < s.heap.objs.size := by
  cases S with
  | lst a =>
    obtain ⟨its, rv, p, _⟩ := I.list h
    intro b hb
    rw [List.mem_singleton.mp hb]
    exact p.lt
  | tup a =>
    obtain ⟨its, rv, p, _⟩ := I.tuple h
    intro b hb
    rw [List.mem_singleton.mp hb]
    obtain ⟨o, ho, _⟩ := p
    exact Heap.lt_size ho
  | txt x => intro b hb; cases hb
theorem begins {X : Cx} {pins : List (Addr × Obj)} {σ : L2.St} {H : Hp} {s : Shared} (I : Inv X pins σ H s) {S : Sk} {t : Tok} {xs : List V} (h : S.Is X.K H xs) : ∃ G : Heap → Prop, Begins (S.u t) (S.itO t) G ∧ G s.heap := by
  cases S with
  | lst a =>
    obtain ⟨its, rv, p, _⟩ := I.list h
    exact ⟨_, begins_list a its.toArray, p.isList⟩
  | tup a =>
    obtain ⟨its, rv, p, _⟩ := I.tuple h
    exact ⟨_, begins_tuple a its.toArray, p⟩
  | txt x => exact ⟨_, begins_text x t, trivial⟩
theorem Sk.uniq {X : Cx} {pins : List (Addr × Obj)} {σ : L2.St} {H : Hp} {s : Shared} (I : Inv X pins σ H s) {S : Sk} {xs ys : List V} (h : S.Is X.K H xs) (h' : S.Is X.K H ys) : xs = ys := by
  cases S with
  | lst a => exact I.list_inj h h'
  | tup a => exact I.tuple_inj h h'
  | txt x => exact (show xs = chars x from h).trans (show ys = chars x from h').symm

/-! ### zip -/
def ItZ (K : PySem.W.Frag) (S1 S2 : Sk) : It :=
  ⟨fun i H => ∃ xs ys, S1.Is K H xs ∧ S2.Is K H ys ∧ i < xs.length ∧ i < ys.length,
    fun i H v H' => ∃ T x y, v = .ref T ∧ H T = none ∧ H' = upd H T (.tup [x, y]) ∧ (∀ xs, S1.Is K H xs → xs[i]? = some x) ∧ ∀ ys, S2.Is K H ys → ys[i]? = some y,
    fun i H => ∃ xs ys, S1.Is K H xs ∧ S2.Is K H ys ∧ i ≤ xs.length ∧ i ≤ ys.length ∧ (i = xs.length ∨ i = ys.length)⟩
theorem turn_zipS {P : Program} {w : World} {K : PySem.W.Frag} {tg : Expr} {S1 S2 : Sk} {t1 t2 : Tok} {N : Addr} (l1 : ∀ b ∈ S1.rest, b < N) (l2 : ∀ b ∈ S2.rest, b < N) :
    Turn P w K tg (ItZ K S1 S2) [N + 4, N + 2, N + 3, N, N + 1] (N + 4) (fun i h => (∃ f b, ZipAny h (N + 4) (N + 2) (N + 3) f b ∧ OutF f) ∧ IsTupOf2 h (N + 2) (.ref N) (.ref (N + 1)) ∧ (∃ x y, IsTupOf2 h (N + 3) x y) ∧ S1.itSt t1 N i h ∧ S2.itSt t2 (N + 1) i h) where
  mem := by simp
  obj := fun i h st c hc => by
    obtain ⟨⟨f, b, hz, _⟩, hTI, ⟨x, y, hTO⟩, h1, h2⟩ := st
    have e' : c = N + 4 ∨ c = N + 2 ∨ c = N + 3 ∨ c = N ∨ c = N + 1 := by simpa using hc
    rcases e' with q | q | q | q | q
    · rw [q]; exact ⟨_, hz, fun v q => nomatch q⟩
    · rw [q]; exact ⟨_, hTI, fun v q => nomatch q⟩
    · rw [q]; exact ⟨_, hTO, fun v q => nomatch q⟩
    · rw [q]; exact Sk.obj h1
    · rw [q]; exact Sk.obj h2
  keep := fun i h h' st k => by
    obtain ⟨⟨f, b, hz, hf⟩, hTI, ⟨x, y, hTO⟩, h1, h2⟩ := st
    exact ⟨⟨f, b, k _ (by simp) _ hz, hf⟩, k _ (by simp) _ hTI, ⟨x, y, k _ (by simp) _ hTO⟩, Sk.keep h1 fun o q => k _ (by simp) o q, Sk.keep h2 fun o q => k _ (by simp) o q⟩
  item := by
    intro X hP hw hK hc i pins s σ H E I hf st hg
    subst hP hw hK
    obtain ⟨⟨f, b, hz, hof⟩, hTI, ⟨x0, y0, hTO⟩, h1, h2⟩ := st
    obtain ⟨xs, ys, hq1, hq2, hi1, hi2⟩ := hg
    have nm : ∀ {S : Sk} (l : ∀ b ∈ S.rest, b < N) (j : Nat), N + j ∉ S.rest := fun l j hm => absurd (l _ hm) (Nat.not_lt.mpr (Nat.le_add_right N j))
    have hh : X.A.in1.handled = none := I.ok.hd hc
    obtain ⟨D1⟩ := drawn (t := t1) I hh hq1 (nm l1 0)
    obtain ⟨D2⟩ := drawn (t := t2) I hh hq2 (nm l2 1)
    have S := zip_sep2 (N := N) (fp1 := S1.rest) (fp2 := S2.rest) l1 l2
    have hzl : N + 4 < s.heap.objs.size := Heap.lt_size hz
    refine zipA_next S D1.dr D2.dr hz hof hTI hTO (D1.into i _ h1 fun _ _ _ q => q) (D2.into i _ h2 fun _ _ _ q => q) hi1 hi2 fun u1 u2 h' tk f' b' b1 b2 p1 p2 z' of' TO' s1' s2' hT hsz hk => ?_
    obtain ⟨x, hx, rx⟩ := D1.rel _ _ p1
    obtain ⟨y, hy, ry⟩ := D2.rel _ _ p2
    refine ⟨_, rfl, zipA_go (s := { s with heap := h', toks := tk }) z' of' fun h'' f'' z'' of'' sb => ?_⟩
    replace sb : Heap.SameBut (N + 4) h' h'' := sb
    have hT2 : h''.get? s.heap.objs.size = some { cls := .type "tuple", data := .seq #[u1, u2] } := (sb.2 _ (Nat.ne_of_gt hzl)).trans hT
    have new : ObjOk X.prog X.w (upd H s.heap.objs.size (.tup [x, y])) h'' s.heap.objs.size (.tup [x, y]) :=
      ⟨by show 2 ≤ sizeLine; decide, [u1, u2], .cons rx (.cons ry .nil), ⟨_, hT2, rfl, _, rfl⟩⟩
    have I1 : Inv X pins σ (upd H s.heap.objs.size (.tup [x, y])) { s with heap := h'', toks := tk } :=
      I.turnedNew (t' := tk) (ch := [N + 4, N + 2, N + 3, N, N + 1]) (fun c o hb q => (sb.2 c (fun q' => hb (by simp [q']))).trans (hk c o (fun q' => hb (by simp [q'])) (fun q' => hb (by simp [q'])) (fun q' => hb (by simp [q'])) (fun q' => hb (by simp [q'])) q)) hf (Nat.le_refl _) new
    refine ⟨.ref s.heap.objs.size, _, I1, rfl, ⟨_, x, y, rfl, I.hok.fresh (Nat.le_refl _), rfl, fun l hl => by rw [Sk.uniq I hl hq1]; exact hx, fun l hl => by rw [Sk.uniq I hl hq2]; exact hy⟩, ⟨⟨f'', b', z'', of''⟩, ?_, ⟨b1, b2, ?_⟩, ?_, ?_⟩, fun c hcm => ?_⟩
    · exact (sb.2 _ S.TIz).trans (hk _ _ S.TIz S.TITO S.TIi1 S.TIi2 hTI)
    · exact (sb.2 _ S.TOz).trans TO'
    · exact Sk.keep (D1.out _ _ s1') fun o q => (sb.2 _ (Ne.symm S.zi1)).trans q
    · exact Sk.keep (D2.out _ _ s2') fun o q => (sb.2 _ (Ne.symm S.zi2)).trans q
    · have hlt : c < s.heap.objs.size := by
        have e' : c = N + 4 ∨ c = N + 2 ∨ c = N + 3 ∨ c = N ∨ c = N + 1 := by simpa using hcm
        rcases e' with q | q | q | q | q
        · rw [q]; exact hzl
        · rw [q]; exact Nat.lt_of_le_of_lt (Nat.add_le_add_left (by decide : 2 ≤ 4) N) hzl
        · rw [q]; exact Nat.lt_of_le_of_lt (Nat.add_le_add_left (by decide : 3 ≤ 4) N) hzl
        · rw [q]; exact Nat.lt_of_le_of_lt (Nat.le_add_right N 4) hzl
        · rw [q]; exact Nat.lt_of_le_of_lt (Nat.add_le_add_left (by decide : 1 ≤ 4) N) hzl
      rw [upd_ne (Nat.ne_of_lt hlt)]
      exact (hf c hcm).1
  done := by
    intro X hP hw hK hc i pins s σ H E I hf st hg
    subst hP hw hK
    obtain ⟨⟨f, b, hz, hof⟩, hTI, ⟨x0, y0, hTO⟩, h1, h2⟩ := st
    obtain ⟨xs, ys, hq1, hq2, hi1, hi2, he⟩ := hg
    have nm : ∀ {S : Sk} (l : ∀ b ∈ S.rest, b < N) (j : Nat), N + j ∉ S.rest := fun l j hm => absurd (l _ hm) (Nat.not_lt.mpr (Nat.le_add_right N j))
    have hh : X.A.in1.handled = none := I.ok.hd hc
    obtain ⟨D1⟩ := drawn (t := t1) I hh hq1 (nm l1 0)
    obtain ⟨D2⟩ := drawn (t := t2) I hh hq2 (nm l2 1)
    have S := zip_sep2 (N := N) (fp1 := S1.rest) (fp2 := S2.rest) l1 l2
    exact zipA_stop S D1.dr D2.dr hz hof hTI hTO (D1.into i _ h1 fun _ _ _ q => q) (D2.into i _ h2 fun _ _ _ q => q) hi1 hi2 he fun h' tk hk => ⟨rfl, I.turnedL (t' := tk) (ch := [N + 4, N + 2, N + 3, N, N + 1]) (fun c o hb q =>
      hk c o (fun q' => hb (by simp [q'])) (fun q' => hb (by simp [q'])) (fun q' => hb (by simp [q'])) (fun q' => hb (by simp [q'])) q) hf⟩
  self := fun A i s Q E st h => by
    obtain ⟨⟨f, b, hz, _⟩, _⟩ := st
    have hT : s.TypeIs (.ref (N + 4)) "zip" := ⟨_, hz, rfl⟩
    refine wpAny_pyIter_slot hT PySem.F.slot_zip_iter (wpAny_call_entry PySem.F.slot_zip_iter hT PySem.F.entry_zip_iter ?_ (PySem.F.args_zip_iter_1 _))
    show wpAny _ _ (ret (.ref _)) _ _ s
    exact wpAny_pure ⟨_, rfl, "zip", _, hT, PySem.F.slot_zip_next.lookup, h⟩
def iZipS (K : PySem.W.Frag) (ta : TA) : TI := fun σ H R => ta σ H fun vs H1 => ∃ S1 S2 xs ys, vs = [Sk.v S1, Sk.v S2] ∧ S1.Is K H1 xs ∧ S2.Is K H1 ys ∧ R (ItZ K S1 S2) H1
theorem pi_zipS {X : Cx} {e e2 tg : Expr} {ta : TA} {p pos : Pos} (K : PySem.W.Frag) (hm : X.mg "zip" = none) (ha : PA X [e, e2] ta) (hg : Gl X "zip" := by rfl) (hK : X.K = K := by rfl)
    (hs : starEach [e, e2] X.env = (false, eval e X.env) :: starEach [e2] X.env := by rfl) (hpl : (backTo pos (starEach [e2] X.env)).any (·.1) = false := by rfl) :
    PI X tg (.Call (.Name "zip" p) [e, e2] [] pos) (iZipS K ta) := by
  subst hK
  refine ⟨fun pins s σ H R I h => ?_⟩
  refine Call_ (ld_blt I hg hm PyProof.Rows.boot_zip (PyProof.Rows.callWith_type1 (thn (ha.run pos pins s σ H _ I h) fun us s1 ⟨vs, H1, I1, r1, q1⟩ => ?_) hs hpl))
  obtain ⟨S1, S2, xs, ys, rfl, h1, h2, q⟩ := q1
  cases r1 with
  | cons r rr =>
    cases rr with
    | cons r' rr =>
      cases rr
      obtain ⟨t1, rfl⟩ := Sk.of_val r
      obtain ⟨t2, rfl⟩ := Sk.of_val r'
      obtain ⟨G1, B1, g1⟩ := begins (t := t1) I1 h1
      obtain ⟨G2, B2, g2⟩ := begins (t := t2) I1 h2
      refine zip_begins2 B1 B2 g1 g2 fun h' hz hTI hTO e1 e2 hsz hk => ?_
      have I2 : Inv X pins σ H1 { s1 with heap := h' } := I1.kept (t' := s1.toks) hk
      have T := turn_zipS (P := X.prog) (w := X.w) (K := X.K) (tg := tg) (S1 := S1) (S2 := S2) (t1 := t1) (t2 := t2) (N := s1.heap.objs.size) (src_lt I1 h1) (src_lt I1 h2)
      have st : (fun (i : Nat) (h : Heap) => (∃ f b, ZipAny h (s1.heap.objs.size + 4) (s1.heap.objs.size + 2) (s1.heap.objs.size + 3) f b ∧ OutF f) ∧ IsTupOf2 h (s1.heap.objs.size + 2) (.ref s1.heap.objs.size) (.ref (s1.heap.objs.size + 1)) ∧
          (∃ x y, IsTupOf2 h (s1.heap.objs.size + 3) x y) ∧ S1.itSt t1 s1.heap.objs.size i h ∧ S2.itSt t2 (s1.heap.objs.size + 1) i h) 0 h' :=
        ⟨⟨_, _, hz, .inl rfl⟩, hTI, ⟨_, _, hTO⟩, Sk.start e1, Sk.start e2⟩
      refine T.self X.A 0 { s1 with heap := h' } _ _ st ?_
      refine ⟨s1.heap.objs.size + 4, [s1.heap.objs.size + 4, s1.heap.objs.size + 2, s1.heap.objs.size + 3, s1.heap.objs.size, s1.heap.objs.size + 1], _, _, H1, rfl, I2, T, st, fun c hcm => ?_, q⟩
      have e' : c = s1.heap.objs.size + 4 ∨ c = s1.heap.objs.size + 2 ∨ c = s1.heap.objs.size + 3 ∨ c = s1.heap.objs.size ∨ c = s1.heap.objs.size + 1 := by simpa using hcm
      have hle : s1.heap.objs.size ≤ c := by
        rcases e' with z | z | z | z | z
        · rw [z]; exact Nat.le_add_right _ _
        · rw [z]; exact Nat.le_add_right _ _
        · rw [z]; exact Nat.le_add_right _ _
        · rw [z]; exact Nat.le_refl _
        · rw [z]; exact Nat.le_add_right _ _
      have := I1.fpOk hle (I1.hok.fresh hle)
      exact this
theorem walk_zipS {K : PySem.W.Frag} {S1 S2 : Sk} {xs ys : List V} {n : Nat} (hn : n = min xs.length ys.length) : Walk (ItZ K S1 S2) n (fun H => S1.Is K H xs ∧ S2.Is K H ys) (YPair (fun i => xs[i]?) (fun i => ys[i]?)) := by
  subst hn
  refine ⟨fun i _ hi q => ⟨xs, ys, q.1, q.2, by omega, by omega⟩, fun _ q => ⟨xs, ys, q.1, q.2, by omega, by omega, by omega⟩, fun i H v H' _ q y => ?_⟩
  obtain ⟨T, x, y, h1, h2, h3, h4, h5⟩ := y
  exact ⟨T, x, y, h1, h2, h3, h4 _ q.1, h5 _ q.2⟩

/-! ### enumerate -/
set_option maxHeartbeats 1000000 in
theorem meets_enum1 {v : Value} {o : Obj} {G : Heap → Prop} (B : Begins v o G) :
    Meets (Builtin.«enumerate.__new__» ⟨[.type "enumerate", v], []⟩) (fun _ R s => G s.heap ∧
      R (.ok (.ret (.ref (s.heap.push o).objs.size))) { s with heap := (s.heap.push o).push { cls := .type "enumerate", data := .fields #[.none, .bool false, .ref s.heap.objs.size, rawInt 0, .none, .none] } }) :=
  .of_wp fun prog w A R s h => by
    obtain ⟨hp, g, d, tk, os⟩ := s; obtain ⟨h1, h⟩ := h
    have hsub := sub_enumerate
    have q1 : ∀ {A' : Around} {E : Value → Shared → Prop} {Q : Value → Shared → Prop}, Q (.ref hp.objs.size) ⟨hp.push o, g, d, tk, os⟩ → wpAny (model prog w) A' (pyIter v) Q E ⟨hp, g, d, tk, os⟩ :=
      fun q => B.iter prog w _ _ ⟨hp, g, d, tk, os⟩ _ h1 q
    wp_walk using q1
    refine wpAny_stack_any fun st => wpAny_pure ?_
    split
    · rename_i c _ _ _ _ _
      cases (c == Value.type "enumerate")
      · wp_walk using q1
        exact ⟨_, rfl, h⟩
      · wp_walk using q1
        exact ⟨_, rfl, h⟩
    · wp_walk using q1
      exact ⟨_, rfl, h⟩
section
variable {prog : Program} {w : World} {A : Around} {E : Value → Shared → Prop} {s : Shared}
theorem enum_begins1 {v : Value} {o : Obj} {G : Heap → Prop} {Q : Value → Shared → Prop} (B : Begins v o G) (h1 : G s.heap)
    (h : ∀ h', IsEnum h' (s.heap.objs.size + 1) s.heap.objs.size 0 .none → h'.get? s.heap.objs.size = some o → h'.objs.size = s.heap.objs.size + 2 →
      (∀ b o, s.heap.get? b = some o → h'.get? b = some o) → Q (.ref (s.heap.objs.size + 1)) { s with heap := h' }) :
    wpAny (model prog w) A (call (.type "enumerate") [v]) Q E s := by
  refine callType_new PySem.F.called_enumerate (by decide) (PySem.F.typeCall_enumerate_1 _) (PySem.F.newCall_enumerate_1 _) (fun obj => PySem.F.args_object_init_2 obj _) PySem.F.entry_enumerate_new
    (meets_enum1 B) ⟨h1, ?_⟩
  have hz : (s.heap.push o).objs.size = s.heap.objs.size + 1 := Heap.size_push ..
  show _ ∧ _
  rw [hz]
  have he : IsEnum ((s.heap.push o).push { cls := .type "enumerate", data := .fields #[.none, .bool false, .ref s.heap.objs.size, rawInt 0, .none, .none] }) (s.heap.objs.size + 1) s.heap.objs.size 0 .none := by
    have := Heap.get?_push_size (s.heap.push o) (o := { cls := .type "enumerate", data := .fields #[.none, .bool false, .ref s.heap.objs.size, rawInt 0, .none, .none] }) rfl
    rw [hz] at this; exact this
  refine ⟨⟨_, he, rfl⟩, h _ he (Heap.get?_push_of_some _ (Heap.get?_push_size _ B.free)) (by rw [Heap.size_push, hz]) fun b o x => Heap.get?_push_of_some _ (Heap.get?_push_of_some _ x)⟩
end
def ItE (K : PySem.W.Frag) (S : Sk) : It :=
  ⟨fun i H => ∃ xs, S.Is K H xs ∧ i < xs.length, fun i H v H' => ∃ T x, v = .ref T ∧ H T = none ∧ H' = upd H T (.tup [.int (i : Nat), x]) ∧ ∀ xs, S.Is K H xs → xs[i]? = some x, fun i H => ∃ xs, S.Is K H xs ∧ i = xs.length⟩
theorem turn_enumS {P : Program} {w : World} {K : PySem.W.Frag} {elts : List Expr} {kk : Nat} {tpos : Pos} {S : Sk} {t : Tok} {N : Addr} (l1 : ∀ b ∈ S.rest, b < N) :
    Turn P w K (.Tuple elts kk tpos) (ItE K S) [N + 1, N] (N + 1) (fun i h => (∃ old, IsEnum h (N + 1) N ((i : Nat) : Int) old) ∧ S.itSt t N i h) where
  mem := by simp
  obj := fun i h st b hb => by
    obtain ⟨⟨old, he⟩, hi⟩ := st
    have e' : b = N + 1 ∨ b = N := by simpa using hb
    rcases e' with z | z
    · rw [z]; exact ⟨_, he, fun v q => nomatch q⟩
    · rw [z]; exact Sk.obj hi
  keep := fun i h h' st k => let ⟨⟨old, he⟩, hi⟩ := st; ⟨⟨old, k _ (by simp) _ he⟩, Sk.keep hi fun o q => k _ (by simp) o q⟩
  item := by
    intro X hP hw hK hc i pins s σ H E I hf st hg
    subst hP hw hK
    obtain ⟨⟨old, he⟩, hit⟩ := st
    obtain ⟨xs, hq, hi⟩ := hg
    have nm : ∀ (j : Nat), N + j ∉ S.rest := fun j hm => absurd (l1 _ hm) (Nat.not_lt.mpr (Nat.le_add_right N j))
    have hh : X.A.in1.handled = none := I.ok.hd hc
    obtain ⟨D⟩ := drawn (t := t) I hh hq (nm 0)
    have hel : N + 1 < s.heap.objs.size := Heap.lt_size he
    have hne : (N + 1 : Addr) ≠ N := Nat.succ_ne_self N
    refine wpAny_pyNext_enum_itemD D.dr he (D.into i _ hit fun _ _ _ q => q) hi hne (fun hm => (List.mem_cons.mp hm).elim hne (nm 1)) fun u h' tk p ho st' hT hsz hk => ?_
    obtain ⟨x, hx, rx⟩ := D.rel _ _ p
    refine ⟨_, rfl, wpAny_letOwnedTupleGo_enum (s := { s with heap := h', toks := tk + 1 }) ho fun h'' he' sb => ?_⟩
    replace sb : Heap.SameBut (N + 1) h' h'' := sb
    have hT2 : h''.get? s.heap.objs.size = some { cls := .type "tuple", data := .seq #[.int i tk, u] } := (sb.2 _ (Nat.ne_of_gt hel)).trans hT
    have new : ObjOk X.prog X.w (upd H s.heap.objs.size (.tup [.int (i : Nat), x])) h'' s.heap.objs.size (.tup [.int (i : Nat), x]) :=
      ⟨by show 2 ≤ sizeLine; decide, [.int i tk, u], .cons ⟨_, rfl⟩ (.cons rx .nil), ⟨_, hT2, rfl, _, rfl⟩⟩
    have I1 : Inv X pins σ (upd H s.heap.objs.size (.tup [.int (i : Nat), x])) { s with heap := h'', toks := tk + 1 } :=
      I.turnedNew (ch := [N + 1, N]) (fun b ob hb q => (sb.2 b (fun z => hb (by simp [z]))).trans (hk b ob (fun z => hb (by simp [z])) (fun z => hb (by simp [z])) q)) hf (Nat.le_refl _) new
    refine ⟨.ref s.heap.objs.size, _, I1, rfl, ⟨_, x, rfl, I.hok.fresh (Nat.le_refl _), rfl, fun ys hy => by rw [Sk.uniq I hy hq]; exact hx⟩, ⟨⟨u, ?_⟩, Sk.keep (D.out _ _ st') fun o q => (sb.2 _ (Ne.symm hne)).trans q⟩, fun b hb => ?_⟩
    · have e1 : ((i + 1 : Nat) : Int) = (i : Int) + 1 := by omega
      rw [e1]; exact he'
    · have hb' : b < s.heap.objs.size := by
        have e' : b = N + 1 ∨ b = N := by simpa using hb
        rcases e' with z | z
        · rw [z]; exact hel
        · rw [z]; exact Nat.lt_of_le_of_lt (Nat.le_add_right N 1) hel
      rw [upd_ne (Nat.ne_of_lt hb')]
      exact (hf b hb).1
  done := by
    intro X hP hw hK hc i pins s σ H E I hf st hg
    subst hP hw hK
    obtain ⟨⟨old, he⟩, hit⟩ := st
    obtain ⟨xs, hq, rfl⟩ := hg
    have nm : ∀ (j : Nat), N + j ∉ S.rest := fun j hm => absurd (l1 _ hm) (Nat.not_lt.mpr (Nat.le_add_right N j))
    have hh : X.A.in1.handled = none := I.ok.hd hc
    obtain ⟨D⟩ := drawn (t := t) I hh hq (nm 0)
    obtain ⟨f0, f1, f2, f3, f4, f5⟩ := hf N (by simp)
    exact wpAny_pyNext_enum_endD D.dr he (D.into _ _ hit fun _ _ _ q => q) fun h' eb => ⟨rfl, I.turned (t' := s.toks) (fun b o hb q => eb b o hb q) f0 f1 f3 f4 f5⟩
  self := fun A i s Q E st h => let ⟨⟨_, he⟩, _⟩ := st; wpAny_pyIter_enum he h
def iEnumS (K : PySem.W.Frag) (ta : TA) : TI := fun σ H R => ta σ H fun vs H1 => ∃ S xs, vs = [Sk.v S] ∧ S.Is K H1 xs ∧ R (ItE K S) H1
theorem pi_enumS {X : Cx} {e : Expr} {ta : TA} {p pos tpos : Pos} {elts : List Expr} {kk : Nat} (K : PySem.W.Frag) (hm : X.mg "enumerate" = none) (ha : PA X [e] ta) (hg : Gl X "enumerate" := by rfl) (hK : X.K = K := by rfl) (hs : starEach [e] X.env = [(false, eval e X.env)] := by rfl) :
    PI X (.Tuple elts kk tpos) (.Call (.Name "enumerate" p) [e] [] pos) (iEnumS K ta) := by
  subst hK
  refine ⟨fun pins s σ H R I h => ?_⟩
  refine Call_ (ld_blt I hg hm boot_enumerate (PyProof.Rows.callWith_type1 (thn (ha.run pos pins s σ H _ I h) fun us s1 ⟨vs, H1, I1, r1, q1⟩ => ?_) hs rfl))
  obtain ⟨S, xs, rfl, hq, q⟩ := q1
  cases r1 with
  | cons r rr =>
    cases rr
    obtain ⟨t, rfl⟩ := Sk.of_val r
    obtain ⟨G, B, g⟩ := begins (t := t) I1 hq
    refine enum_begins1 B g fun h' he e1 hsz hk => wpAny_pyIter_enum he ?_
    have I2 : Inv X pins σ H1 { s1 with heap := h' } := I1.kept (t' := s1.toks) hk
    refine ⟨s1.heap.objs.size + 1, [s1.heap.objs.size + 1, s1.heap.objs.size], _, _, H1, rfl, I2, turn_enumS (S := S) (t := t) (N := s1.heap.objs.size) (src_lt I1 hq), ⟨⟨.none, he⟩, Sk.start e1⟩, fun b hb => ?_, q⟩
    have e' : b = s1.heap.objs.size + 1 ∨ b = s1.heap.objs.size := by simpa using hb
    have hle : s1.heap.objs.size ≤ b := by
      rcases e' with z | z
      · rw [z]; exact Nat.le_add_right _ _
      · rw [z]; exact Nat.le_refl _
    have := I1.fpOk hle (I1.hok.fresh hle)
    exact this
theorem walk_enumS {K : PySem.W.Frag} {S : Sk} {xs : List V} : Walk (ItE K S) xs.length (fun H => S.Is K H xs) (YPair (fun i => some (.int (i : Nat))) (fun i => xs[i]?)) := by
  refine ⟨fun i _ hi q => ⟨xs, q, hi⟩, fun _ q => ⟨xs, q, rfl⟩, fun i H v H' _ q y => ?_⟩
  obtain ⟨T, x, h1, h2, h3, h4⟩ := y
  exact ⟨T, .int (i : Nat), x, h1, h2, h3, rfl, h4 xs q⟩
end LW
end
section
set_option Elab.async false
set_option linter.all false
set_option maxRecDepth 100000
namespace LW
open PySem L2
theorem SqA.sk {K : PySem.W.Frag} {H : Hp} {a : Addr} {xs : List V} (h : SqA K H a xs) : ∃ S : Sk, S.v = .ref a ∧ S.Is K H xs := h.elim (fun h => ⟨.lst a, rfl, h⟩) fun h => ⟨.tup a, rfl, h⟩
abbrev st_parts : Stmt := top 4
theorem sc_parts : FnScope ["steps", "told", "marks", "many", "known", "fresh", "state", "row", "key", "is_told", "later"] ["steps", "told"] (defScope st_parts) := ⟨rfl, rfl, rfl, by decide +kernel, rfl, by decide +kernel, by decide +kernel⟩
theorem ranks_snoc {κ : Type} [DecidableEq κ] (l : List κ) (x : κ) : LS.ranks [] (l ++ [x]) = LS.ranks [] l ++ [LS.ixOf (LS.addNew [] (l ++ [x])) x] := by
  rw [LS.ranks_eq, LS.ranks_eq, List.map_append]
  congr 1
  refine List.map_congr_left fun y hy => ?_
  rw [LS.addNew_snoc]
  have hm : y ∈ LS.addNew [] l := (LS.mem_addNew _ _ _).mpr (.inr hy)
  by_cases h : x ∈ LS.addNew [] l
  · rw [if_pos h]
  · rw [if_neg h, LS.idxOf_pre hm]
def spParts (K : PySem.W.Frag) : Sp := fun vs H Q _ => ∃ (a b : Addr) (T : LS.Tb) (marks : List Nat), vs = [.ref a, .ref b] ∧ RowsAt K H a T.st ∧ SqA K H b (T.to.map V.bl) ∧ TbIn T ∧ LS.partsM T = some marks ∧
  ∀ p H', Same H H' → H' p = some (.lst (marks.map nV)) → Q (.ref p) H'
theorem KeyT.upd {H : Hp} {k : Nat × List Nat} {b l : Addr} {o u : HO} (h : KeyT H k b) (e : H l = some u) (hu : ∀ xs, u ≠ .tup xs) : KeyT (upd H l o) k b := by
  obtain ⟨t, h1, h2⟩ := h
  refine ⟨t, ?_, ?_⟩
  · rw [upd_ne (fun z => hu _ (by rw [z, e] at h1; exact Option.some.inj h1))]; exact h1
  · rw [upd_ne (fun z => hu _ (by rw [z, e] at h2; exact Option.some.inj h2))]; exact h2
section
variable {P : Program} {w : World} {K : PySem.W.Frag} {mg : Str → Option Value} {base : Heap}
theorem c_parts (T : Txt K mg) : Cal P w K mg base "parts" 1 ["steps", "told"] (spParts K) := by
  refine FunG.cal T.f_parts sc_parts (fun _ _ _ _ _ _ us hl => match us, hl with | [_, _], _ => rfl) (fun vs H Q E h => ?_) (fun f cdv A outer s H vs Q E hr h => ?_)
  · obtain ⟨a, b, T, T', rfl, _⟩ := h
    rfl
  · obtain ⟨a, b, Tb, out, rfl, hR, hB, hT, hM, k⟩ := h
    have hu := hr.units
--TERM parts
    refine ⟨_, (pss_cons (ps_set (i := 2) sc_parts.nd rfl (Or.inr rfl) (pe_lc (own := [("is_told", 9)]) rfl sc_parts.nd (pi_seqK K (pv 1)) (blkOk_by (own := [("is_told", 9)]) (by kernel_rfl)) (fun _ _ _ _ _ => (pg_name (i := 9) sc_parts.nd rfl (Or.inl rfl))) (fun _ _ _ _ _ => pts_nil) (fun _ _ _ _ _ => (pe_callTy call_int1 (by rfl) T.b_int bt_int (pa_cons (pv 9) pa_nil)))))
  (pss_cons (ps_set (i := 3) sc_parts.nd rfl (Or.inl rfl) pe_int)
  (pss_cons (ps_while PassesOwn.never (pt_cmpR op_lt (pv 3) (pe_lenSetK K rfl T.b_len rfl T.b_set (pv 2)) (nomark _))
  (pss_cons (ps_set (i := 3) sc_parts.nd rfl (Or.inl rfl) (pe_lenSetK K rfl T.b_len rfl T.b_set (pv 2)))
  (pss_cons (ps_set (i := 4) sc_parts.nd rfl (Or.inl rfl) (pe_ndNewP P w))
  (pss_cons (ps_set (i := 5) sc_parts.nd rfl (Or.inl rfl) (pe_lst pa_nil))
  (pss_cons (ps_for PassesOwn.never rfl (pi_enumS K T.b_enumerate (pa_cons (pv 0) pa_nil)) (pg_tupK K (n := 2) (pgs_cons (pg_name (i := 6) sc_parts.nd rfl (Or.inl rfl)) (pgs_cons (pg_name (i := 7) sc_parts.nd rfl (Or.inl rfl)) pgs_nil)))
  (pss_cons (ps_set (i := 8) sc_parts.nd rfl (Or.inl rfl) (pe_tup (pa_cons (pe_ix (ix_listK K) (pv 2) (pv 6) (fun _ _ => rfl)) (pa_cons (pe_callTy (call_tupleK K) (by rfl) T.b_tuple bt_tuple (pa_cons (pe_lc (own := [("later", 10)]) rfl sc_parts.nd (pi_seqK K (pv 7)) (blkOk_by (own := [("later", 10)]) (by kernel_rfl)) (fun _ _ _ _ _ => (pg_name (i := 10) sc_parts.nd rfl (Or.inl rfl))) (fun _ _ _ _ _ => pts_nil) (fun _ _ _ _ _ => (pe_ix (ix_listK K) (pv 2) (pv 10) (fun _ _ => rfl)))) pa_nil)) pa_nil))))
  (pss_one (ps_expr (pe_bmK K PySem.F.plainAttrs_list PySem.F.slot_list_append PySem.F.type_list_append mt_append (pv 5) (pa_cons (pe_ndSetP P w hu (pv 4) (pv 8) (pe_callB (call_lenNP P w) (by rfl) T.b_len PySem.boot_len (pa_cons (pv 4) pa_nil)) ⟨rfl, rfl, rfl, rfl⟩) pa_nil))))))
  (pss_one (ps_set (i := 2) sc_parts.nd rfl (Or.inr rfl) (pv 5))))))))
  (pss_one (ps_ret (pv 2)))))), ?_⟩
--END
    -- marks = [int(is_told) for is_told in told]
    refine ⟨_, rfl, b, rfl, lc_sq (H0 := H) hB (Same.refl _) (fun D => LcPv (RMap fun i => nV (LS.b2n (Tb.to.getD i false))) H D) (fun D nD => pv_start nD rfl) (fun D i H' _ _ p => pv_same p) ?_ ?_⟩
    · rintro D i x H3 nD ex ⟨acc, eD, hl, sm, r⟩
      obtain ⟨q, eq', rfl⟩ := of_map_at ex
      have hi : i < Tb.to.length := (List.getElem?_eq_some_iff.mp eq').1
      refine ⟨rfl, _, rfl, .inr ⟨q, rfl, ?_⟩⟩
      have e1 : Tb.to.getD i false = q := by rw [List.getD_eq_getElem?_getD, eq'] <;> rfl
      refine pv_push eD hl sm (Same.refl _) (Nat.lt_of_lt_of_le hi (Nat.le_trans (by rw [hT.len]; exact hT.small) (by decide))) (rmap_push r ?_)
      rw [e1]
      cases q <;> rfl
    rintro D H1 nD ⟨acc, eD, hl, sm, r⟩
    have e0 : acc = (Tb.to.map LS.b2n).map nV := by
      have e1 : acc = (List.range ((Tb.to.map V.bl).length)).map fun i => nV (LS.b2n (Tb.to.getD i false)) := r
      rw [e1, List.length_map, List.map_map]
      exact map_range_getD Tb.to false fun q => nV (LS.b2n q)
    subst e0
    have s1 : Same H H1 := sm_trans sm hid_sub
    -- while many < len(set(marks))
    refine ⟨fun m σ' H' => ∃ (marks : List Nat) (many : Nat) (mp : Addr) (v4 v5 v6 v7 v8 : Option V), σ' = [some (.ref a), some (.ref b), some (.ref mp), some (nV many), v4, v5, v6, v7, v8, none, none] ∧
      LS.partsLoop Tb.st m marks many = some out ∧ Same H H' ∧ H' mp = some (.lst (marks.map nV)) ∧ marks.length = Tb.st.length, ⟨_, _, 0, D, none, none, none, none, none, rfl, hM, s1, eD, by rw [List.length_map]; exact hT.len⟩, ?_⟩
    rintro m σ' H2 ⟨marks, many, mp, v4, v5, v6, v7, v8, rfl, eM, s2, em, hml⟩
    cases m with
    | zero => cases eM
    | succ m =>
    rw [LS.partsLoop] at eM
    have hz : marks.length ≤ 1000 := by rw [hml]; exact hT.small
    have eu : (uniqK (marks.map nK)).length = (LS.uniq marks).length := by rw [uniqK_map nK nK_inj, List.length_map]
    have ek : (marks.map nK).map kV = marks.map nV := by rw [List.map_map] <;> rfl
    have rd : ∀ {H' : Hp}, H' mp = some (.lst (marks.map nV)) → ∀ {Q : VK}, Q (nV (LS.uniq marks).length) H' → tLenSetK K (tVar 2) [some (.ref a), some (.ref b), some (.ref mp), some (nV many), v4, v5, v6, v7, v8, none, none] H' Q := fun e Q q =>
      ⟨_, rfl, .inl ⟨mp, marks.map nK, rfl, by rw [ek]; exact SqL.of e, by rw [List.length_map]; omega, by rw [eu]; exact q⟩⟩
    refine ⟨_, rfl, rd em ⟨_, _, rfl, rfl, _, rfl, ?_⟩⟩
    by_cases hlt : many < (LS.uniq marks).length
    · rw [if_pos hlt] at eM
      rw [decide_eq_true (show (many : Int) < ((LS.uniq marks).length : Nat) by omega)]
      refine iteT ?_
      refine ⟨fun σ2 H3 => ∃ (mp2 : Addr) (v4 v5 v6 v7 v8 : Option V), σ2 = [some (.ref a), some (.ref b), some (.ref mp2), some (nV (LS.uniq marks).length), v4, v5, v6, v7, v8, none, none] ∧
        Same H H3 ∧ H3 mp2 = some (.lst ((LS.refineM Tb.st marks).map nV)), fun σ2 H3 ⟨mp2, v4, v5, v6, v7, v8, e1, e2, e3⟩ => ⟨m, Nat.lt_succ_self m, _, _, mp2, v4, v5, v6, v7, v8, e1, eM, e2, e3, LS.refine_len⟩, ?_⟩
      refine ⟨_, rfl, .inl ⟨mp, marks.map nK, rfl, by rw [ek]; exact SqL.of em, by rw [List.length_map]; omega, ?_⟩⟩
      rw [eu]
      intro d hd
      refine ⟨Nat.zero_le _, fun l hl => ?_⟩
      have hld : l ≠ d := fun z => by rw [z, upd_same] at hl; cases hl
      have hl2 : H2 l = none := by rw [upd_ne hld] at hl; exact hl
      have hmd : mp ≠ d := ne_of_none em hd
      have hl0 : H l = none := s2.free hl2
      have hd0 : H d = none := s2.free hd
      have hml' : mp ≠ l := ne_of_none em hl2
      obtain ⟨rs, hrs, hrl, hrow⟩ := id hR
      obtain ⟨S, hSv, hS⟩ := hrs.sk
      have s2' : Same H2 (upd (upd H2 d (NdO P w d [])) l (.lst [])) := sm_upd (same_new hd) hl2
      refine ⟨_, rfl, S, rs.map V.ref, by rw [hSv], hS.same (sm_trans s2 s2'), ?_⟩
      have hkl : (LS.keys Tb.st marks).length = Tb.st.length := LS.keys_len
      refine for_it (walk_enumS (K := K) (S := S) (xs := rs.map V.ref)) (fun j σ3 H3 => ∃ (v6 v7 v8 : Option V) (ks : List ((Nat × List Nat) × Addr)), σ3 = [some (.ref a), some (.ref b), some (.ref mp), some (nV (LS.uniq marks).length), some (.ref d), some (.ref l), v6, v7, v8, none, none] ∧
        Same H H3 ∧ H3 mp = some (.lst (marks.map nV)) ∧ H3 d = some (NdO P w d ks) ∧ (∀ p ∈ ks, KeyT H3 p.1 p.2) ∧ ks.map (·.1) = LS.addNew [] ((LS.keys Tb.st marks).take j) ∧ H3 l = some (.lst ((LS.ranks [] ((LS.keys Tb.st marks).take j)).map nV)))
        ⟨v6, v7, v8, [], rfl, sm_trans s2 s2', s2' _ _ em, by rw [upd_ne (Ne.symm hld), upd_same], by simp, rfl, by rw [upd_same] <;> rfl⟩ (fun j σ3 H3 _ ⟨_, _, _, _, _, z, _⟩ => hS.same z) ?_ ?_
      · rintro j x σ3 H3 H4 hj ⟨w6, w7, w8, ks, rfl, s3, em3, ed3, hk3, hks, el3⟩ ⟨t, x1, x2, rfl, nt, rfl, e1, e2⟩
        cases e1
        obtain ⟨ra, er, rfl⟩ := of_map_at e2
        rw [List.length_map, hrl] at hj
        have est : Tb.st[j]? = some Tb.st[j] := List.getElem?_eq_getElem hj
        have egt : Tb.st.getD j [] = Tb.st[j] := LS.getD_at hj
        have s34 : Same H3 (upd H3 t (.tup [.int (j : Nat), .ref ra])) := same_new nt
        have hrr := (hrow _ _ _ er est).same (sm_trans s3 s34)
        have hlr : ∀ y ∈ Tb.st[j], y < marks.length := fun y hy => by rw [hml]; exact hT.lt _ (List.getElem_mem _) y hy
        have emj : (marks.map nV)[j]? = some (nV (marks.getD j 0)) := by
          have hj' : j < marks.length := by rw [hml]; exact hj
          rw [LS.getD_at hj']
          exact map_at nV (List.getElem?_eq_getElem hj')
        refine ⟨t, _, rfl, SqT.of upd_same, rfl, _, _, rfl, _, _, rfl, rfl, ?_⟩
        refine ⟨_, rfl, _, rfl, mp, _, _, _, rfl, rfl, SqL.of (s34 _ _ em3), atI_nat emj, ?_⟩
        refine ⟨_, rfl, ra, rfl, lc_sq (H0 := upd H3 t (.tup [.int (j : Nat), .ref ra])) hrr (Same.refl _) (fun D2 => LcPv (RMap fun i => nV (marks.getD (Tb.st[j].getD i 0) 0)) (upd H3 t (.tup [.int (j : Nat), .ref ra])) D2) (fun D2 nD2 => pv_start nD2 rfl) (fun D2 i H' _ _ p => pv_same p) ?_ ?_⟩
        · rintro D2 i y H5 nD2 ey ⟨acc2, eD2, hl2, sm2, r2⟩
          obtain ⟨p, ep, rfl⟩ := of_map_at ey
          have hi' : i < Tb.st[j].length := (List.getElem?_eq_some_iff.mp ep).1
          have e6 : Tb.st[j].getD i 0 = p := by rw [List.getD_eq_getElem?_getD, ep] <;> rfl
          have hp : p < marks.length := hlr p (List.mem_of_getElem? ep)
          have epm : (marks.map nV)[p]? = some (nV (marks.getD p 0)) := by
            rw [LS.getD_at hp]
            exact map_at nV (List.getElem?_eq_getElem hp)
          refine ⟨rfl, _, rfl, _, rfl, mp, _, _, _, rfl, rfl, SqL.of (sm_trans sm2 hid_sub _ _ (s34 _ _ em3)), atI_nat epm, ?_⟩
          exact pv_push eD2 hl2 sm2 (Same.refl _) (Nat.lt_of_lt_of_le hi' (Nat.le_trans (hT.row _ (List.getElem_mem _)) (by decide))) (rmap_push r2 (by rw [e6]))
        rintro D2 H5 nD2 ⟨acc2, eD2, hl2, sm2, r2⟩
        have e7 : acc2 = (Tb.st[j].map fun y => marks.getD y 0).map nV := by
          have e1 : acc2 = (List.range ((Tb.st[j].map nV).length)).map fun i => nV (marks.getD (Tb.st[j].getD i 0) 0) := r2
          rw [e1, List.length_map, List.map_map]
          exact map_range_getD Tb.st[j] 0 fun q => nV (marks.getD q 0)
        subst e7
        have s45 : Same (upd H3 t (.tup [.int (j : Nat), .ref ra])) H5 := sm_trans sm2 hid_sub
        refine ⟨D2, _, rfl, .inl ⟨SqL.of eD2, fun tt ntt => ?_⟩⟩
        refine ⟨by show 2 ≤ sizeLine; decide, fun kp nkp => ?_⟩
        have s56 : Same H5 (upd H5 tt (.tup ((Tb.st[j].map fun y => marks.getD y 0).map nV))) := same_new ntt
        have s67 := same_new (o := HO.tup [nV (marks.getD j 0), V.ref tt]) nkp
        have s37 := sm_trans s34 (sm_trans s45 (sm_trans s56 s67))
        have ekey : LS.keyOf Tb.st marks j = (marks.getD j 0, Tb.st[j].map fun y => marks.getD y 0) := by unfold LS.keyOf; rw [egt]
        have kt : KeyT (upd (upd H5 tt (.tup ((Tb.st[j].map fun y => marks.getD y 0).map nV))) kp (.tup [nV (marks.getD j 0), V.ref tt])) (LS.keyOf Tb.st marks j) kp := by
          rw [ekey]
          exact ⟨tt, upd_same, s67 _ _ upd_same⟩
        have ekj : (LS.keys Tb.st marks)[j]? = some (LS.keyOf Tb.st marks j) := LS.keys_at hj
        have hksl : ks.length ≤ 1000 := by
          have e := congrArg List.length hks
          rw [List.length_map] at e
          rw [e]
          refine Nat.le_trans (LS.uniq_len _) ?_
          rw [List.length_take, hkl]
          exact Nat.le_trans (Nat.min_le_right _ _) hT.small
        have hrl2 : (LS.ranks [] ((LS.keys Tb.st marks).take j)).length ≤ 1000 := by
          rw [LS.ranks_eq, List.length_map, List.length_take, hkl]
          exact Nat.le_trans (Nat.min_le_right _ _) hT.small
        refine ⟨_, rfl, .inl ⟨rfl, _, SqL.of (s37 _ _ el3)⟩, ?_⟩
        refine ⟨_, rfl, d, ks, rfl, s37 _ _ ed3, _, rfl, ?_⟩
        refine ⟨_, rfl, d, ks, rfl, s37 _ _ ed3, by omega, ?_⟩
        have take1 := take_snoc ekj
        refine ⟨ks, LS.keyOf Tb.st marks j, kp, s37 _ _ ed3, rfl, rfl, kt, fun p hp => (hk3 p hp).same s37, by omega, fun i hi => ?_, fun hn => ?_⟩
        · -- known
          have hm : LS.keyOf Tb.st marks j ∈ LS.addNew [] ((LS.keys Tb.st marks).take j) := by rw [← hks]; exact List.mem_of_getElem? hi
          have eA : LS.addNew [] ((LS.keys Tb.st marks).take (j + 1)) = LS.addNew [] ((LS.keys Tb.st marks).take j) := by rw [take1, LS.addNew_snoc, if_pos hm]
          have ei : LS.ixOf (LS.addNew [] ((LS.keys Tb.st marks).take j)) (LS.keyOf Tb.st marks j) = i := LS.idxOf_of (l := LS.addNew [] ((LS.keys Tb.st marks).take j)) (LS.uniq_nodup _) (by rw [← hks]; exact hi)
          refine ⟨_, _, _, rfl, rfl, s37 _ _ el3, by rw [List.length_map]; exact small5 (by omega), ?_⟩
          refine ⟨_, _, _, ks, rfl, sm_upd (sm_trans s3 s37) hl0, ?_, ?_, fun p hp => ((hk3 p hp).same s37).upd (s37 _ _ el3) (fun _ z => by cases z), by rw [eA]; exact hks, ?_⟩
          · rw [upd_ne hml']; exact s37 _ _ em3
          · rw [upd_ne (Ne.symm hld)]; exact s37 _ _ ed3
          · rw [upd_same, take1, ranks_snoc, ← take1, eA, ei, List.map_append] <;> rfl
        · -- new
          have hm : ¬ LS.keyOf Tb.st marks j ∈ LS.addNew [] ((LS.keys Tb.st marks).take j) := by rw [← hks]; exact hn
          have eA : LS.addNew [] ((LS.keys Tb.st marks).take (j + 1)) = LS.addNew [] ((LS.keys Tb.st marks).take j) ++ [LS.keyOf Tb.st marks j] := by rw [take1, LS.addNew_snoc, if_neg hm]
          have ekl : ks.length = (LS.addNew [] ((LS.keys Tb.st marks).take j)).length := by rw [← hks, List.length_map]
          have ei : LS.ixOf (LS.addNew [] ((LS.keys Tb.st marks).take (j + 1))) (LS.keyOf Tb.st marks j) = ks.length := by
            refine LS.idxOf_of (l := LS.addNew [] ((LS.keys Tb.st marks).take (j + 1))) (LS.uniq_nodup _) ?_
            rw [eA, List.getElem?_append_right (by omega), ekl]
            simp
          have el4 : (upd (upd (upd H5 tt (.tup ((Tb.st[j].map fun y => marks.getD y 0).map nV))) kp (.tup [nV (marks.getD j 0), V.ref tt])) d (NdO P w d (ks ++ [(LS.keyOf Tb.st marks j, kp)]))) l = some (.lst ((LS.ranks [] ((LS.keys Tb.st marks).take j)).map nV)) := by
            rw [upd_ne hld]; exact s37 _ _ el3
          refine ⟨_, _, _, rfl, rfl, el4, by rw [List.length_map]; exact small5 (by omega), ?_⟩
          refine ⟨_, _, _, ks ++ [(LS.keyOf Tb.st marks j, kp)], rfl, sm_upd (sm_upd (sm_trans s3 s37) hd0) hl0, ?_, ?_, fun p hp => ?_, ?_, ?_⟩
          · rw [upd_ne hml', upd_ne hmd]; exact s37 _ _ em3
          · rw [upd_ne (Ne.symm hld), upd_same]
          · have h1 : KeyT (upd (upd H5 tt (.tup ((Tb.st[j].map fun y => marks.getD y 0).map nV))) kp (.tup [nV (marks.getD j 0), V.ref tt])) p.1 p.2 := by
              rcases List.mem_append.mp hp with z | z
              · exact (hk3 p z).same s37
              · rw [List.mem_singleton] at z
                subst z
                exact kt
            exact (h1.upd (s37 _ _ ed3) (fun _ z => by cases z)).upd el4 (fun _ z => by cases z)
          · rw [List.map_append, hks, eA] <;> rfl
          · rw [upd_same, take1, ranks_snoc, ← take1, ei, List.map_append] <;> rfl
      · rintro σ3 H3 ⟨w6, w7, w8, ks, rfl, s3, em3, ed3, hk3, hks, el3⟩
        rw [List.length_map, hrl, ← hkl, List.take_length] at el3
        exact ⟨_, rfl, l, _, _, _, _, _, rfl, s3, el3⟩
    · rw [if_neg hlt] at eM
      cases eM
      rw [decide_eq_false (show ¬ (many : Int) < ((LS.uniq out).length : Nat) by omega)]
      exact iteF ⟨_, rfl, k mp H2 s2 em⟩
end
end LW
end
section
set_option Elab.async false
set_option linter.all false
set_option maxRecDepth 100000
set_option maxHeartbeats 2000000
/-! need_items(e, lambda x: ..) -/
namespace LW
open PySem PySem.Spec PyProof.Rows L2 LamX
abbrev st_need_items : Stmt := top 46
theorem sc_need_items : FnScope ["items", "is_right", "at", "item"] ["items", "is_right"] (defScope st_need_items) := ⟨rfl, rfl, rfl, by decide +kernel, rfl, by decide +kernel, by decide +kernel⟩
/-- need_items(e, lambda x: ..): all items are right; what stood stands -/
def tItems (K : PySem.W.Frag) (T : List (Addr × Str)) (te tb : TE) : TE := fun σ H Q => te σ H fun v H0 => Tabs T H0 ∧ ∃ (S : Sk) (xs : List V), v = S.v ∧ S.Is K H0 xs ∧ ∀ H1 : Hp, ExtN H0 H1 → Tabs T H1 →
  (∀ (i : Nat) (x : V) (H2 : Hp), xs[i]? = some x → Same H1 H2 → ∀ R : VK, (∀ H3 : Hp, Same H2 H3 → R (.bl true) H3) → tb (σ ++ [some x]) H2 R) ∧ ∀ H2 : Hp, Same H1 H2 → Q .non H2
theorem Sk.Is.extN {K : PySem.W.Frag} {H H' : Hp} (e : ExtN H H') : ∀ {S : Sk} {xs : List V}, S.Is K H xs → S.Is K H' xs
  | .lst _, _, h => by
    rcases h with (h | ⟨o, h⟩) | h
    · exact .inl (.inl (e _ _ h fun ps z => by cases z))
    · exact .inl (.inr ⟨o, e _ _ h fun ps z => by cases z⟩)
    · exact .inr h
  | .tup _, _, h => by
    rcases h with (h | ⟨o, h⟩) | h
    · exact .inl (.inl (e _ _ h fun ps z => by cases z))
    · exact .inl (.inr ⟨o, e _ _ h fun ps z => by cases z⟩)
    · exact .inr h
  | .txt _, _, h => h
section
variable {X : Cx}
theorem pe_items {T : List (Addr × Str)} {c P : Addr} {k : Nat} {e1 : Expr} {te tb : TE} {pn : Str} {params : Arguments} {body : Expr} {scope : Scope} {p lpos pos : Pos} (TX : Txt X.K X.mg)
    (TB : TabB X.base X.mg c P) (hcode : X.env.code = .ref c) (hmT : (P, X.env.qual ++ "<lambda>") ∈ T) (hu : ∀ p ∈ T, p.1 = P → p.2 = X.env.qual ++ "<lambda>") (hr : Room (k + 2) X.A) (he : PE X e1 te)
    (L : LamS1 X.env.scope scope pn) (hpn : pn ∉ X.N) (hdef : defaultsOf params X.env = ([], []))
    (hbind : ∀ (q : Str) (cl : List (Str × Addr)) (pm cv ctv u : Value), bindArgs (PySem.W.kla_fn "<lambda>" q params body scope cl pm cv ctv) ⟨[u], []⟩ = pure [(pn, u)])
    (hbody : ∀ (A : Around) (outer : List Env) (s : Shared) (H : Hp) (f c' : Addr), Room k (A.deeper (lamEnv X scope s.heap.objs.size f c')) → PE (lamCx1 X pn A outer s H scope f c') body tb)
    (hg : Gl X "need_items" := by rfl)
    (hs : starEach [e1, .Lambda params body scope lpos] X.env = (false, eval e1 X.env) :: (false, eval (.Lambda params body scope lpos) X.env) :: [] := by rfl) :
    PE X (.Call (.Name "need_items" p) [e1, .Lambda params body scope lpos] [] pos) (tItems X.K T te tb) := by
  obtain ⟨g, fd, hm, F⟩ := TX.f_need_items
  refine ⟨fun pins s σ H Q I h => ?_⟩
  refine wpAny_Call_Name_kw (ld_glob I hg hm ?_ (by decide))
  have e2 : starEach [.Lambda params body scope lpos] X.env = [(false, eval (.Lambda params body scope lpos) X.env)] := by
    have := hs
    rfl
  refine PySem.W.callWith_K (h₀ := X.base) I.ok.mod.kin F.kp ?_ hs (by rw [e2]; rfl)
  rw [hs]
  refine Calls.spliced_cons (thn (he.run pins s σ H _ I h) fun u1 s1 ⟨v, H0, I0, r0, hT, S, xs, ev, hS, q⟩ => ?_)
  refine Calls.spliced_cons (lam_make2 I0 TB hcode hmT hu hT hdef (L.has I.ok) fun f c' pm' ctv H1 s' I1 eN T1 hf hfn hfr hco => ?_)
  have hS1 := hS.extN eN
  obtain ⟨hit, hq⟩ := q H1 eN T1
  refine Calls.spliced_nil ⟨I1.kIn, ?_⟩
  have rc : codeAny (model X.prog X.w) X.A (.call (.ref g) ⟨[] ++ [u1, .ref f], []⟩) (CR CX0 X.stack X.prog X.w H1 s' Q E0) s' := by
    have hb : L2.Binds X.K fd ["items", "is_right"] [] := F.binds (fun _ _ _ _ _ _ us hl => match us, hl with | [_, _], _ => rfl)
    obtain ⟨oc, od, kV, doc, pm, an, cdv, ct, osl, rfl, lk, hcd⟩ := F.ex
    subst ev
    refine run_ofS (CX := CX0) (E := E0) (ps := ["items", "is_right"]) (us := [u1, .ref f]) (vs := [S.v, .ref f]) lk hcd sc_need_items hr I1.env0 (hb s' [u1, .ref f] I1.kIn rfl) (.cons r0 (.cons rfl .nil)) rfl fun hr' => ?_
    suffices h : ∃ t, PSs (cxOf CX0 X.prog X.w X.K X.mg X.base ["items", "is_right", "at", "item"] "need_items" (defScope st_need_items) g cdv X.A X.stack s' H1 E0).nox (defBody st_need_items) t ∧ t { nx := fun _ H' => Q .non H', rt := Q } (L2.start ["items", "is_right", "at", "item"] [S.v, .ref f]) H1 by
      obtain ⟨t, h1, h2⟩ := h
      exact ⟨t, h1.nox, h2⟩
    have K := X.K
    refine ⟨_, (pss_one (ps_for PassesOwn.never rfl (pi_enumS X.K TX.b_enumerate (pa_cons (pv 0) pa_nil)) (pg_tupK X.K (n := 2) (pgs_cons (pg_name (i := 2) sc_need_items.nd rfl (Or.inl rfl)) (pgs_cons (pg_name (i := 3) sc_need_items.nd rfl (Or.inl rfl)) pgs_nil)))
      (pss_one (ps_if (pt_not (pt_val (pe_act1 (i := 1) (a := "is_right") I1 L hpn hf hfn hfr (hbind _ _ _ _ _) hr' (fun A outer s H hr2 => hbody A outer s H f c' hr2) (pv 3) rfl (Or.inl rfl)))) (pss_one ps_never)
      pss_nil)))), ?_⟩
    refine ⟨_, rfl, S, xs, rfl, hS1, ?_⟩
    refine for_it (walk_enumS (K := X.K) (S := S) (xs := xs)) (fun _ σ3 H3 => ∃ v2 v3 : Option V, σ3 = [some S.v, some (.ref f), v2, v3] ∧ Same H1 H3) ⟨none, none, rfl, Same.refl _⟩ (fun j σ3 H3 _ ⟨_, _, _, z⟩ => hS1.same z) ?_ ?_
    · rintro j x σ3 H3 H4 hj ⟨v2, v3, rfl, s3⟩ ⟨t, x1, x2, rfl, nt, rfl, e1, e2⟩
      have s34 : Same H3 (upd H3 t (.tup [x1, x2])) := same_new nt
      refine ⟨t, _, rfl, SqT.of upd_same, rfl, _, _, rfl, _, _, rfl, rfl, ?_⟩
      refine ⟨rfl, _, rfl, sm_trans s3 s34 _ _ hco, ?_⟩
      exact hit j x2 _ e2 (sm_trans s3 s34) _ fun H5 s45 => ⟨true, rfl, iteF ⟨_, _, rfl, sm_trans s3 (sm_trans s34 s45)⟩⟩
    · rintro σ3 H3 ⟨v2, v3, rfl, s3⟩
      exact hq H3 s3
  refine wpAny_call (codeAny_mono rc fun r s2 hq => ?_)
  cases r with
  | error e => exact (show False from hq).elim
  | ok fl =>
    cases fl with
    | ret u => exact I1.after hq
    | next => exact False.elim hq
    | brk => exact False.elim hq
    | cont => exact False.elim hq
end
end LW
end
section
set_option Elab.async false
set_option linter.all false
set_option maxRecDepth 100000
set_option maxHeartbeats 1000000
/-! methods that say super().__init__(..): their frame, their body, their promise -/
namespace LW
open PySem PySem.Spec PyProof.Rows L2
/-! ### the frame: cells of its own and the class's -/
def cellsS (L : Addr) (sc : Scope) (cc : Addr) : List (Str × Addr) := cellsFrom (L + 1) sc.names [("__class__", cc)]
theorem cellsFrom_acc (acc : List (Str × Addr)) : ∀ (l : List (Str × NameKind)) (n : Nat) (a2 : List (Str × Addr)), cellsFrom n l (a2 ++ acc) = cellsFrom n l a2 ++ acc
  | [], _, _ => rfl
  | (x, k) :: r, n, a2 => by
    unfold cellsFrom
    by_cases h : (k == .cell) = true
    · rw [if_pos h, if_pos h]
      exact cellsFrom_acc acc r (n + 1) ((x, n) :: a2)
    · rw [if_neg h, if_neg h]
      exact cellsFrom_acc acc r n a2
theorem cellsS_eq (L : Addr) (sc : Scope) (cc : Addr) : cellsS L sc cc = cellsFrom (L + 1) sc.names [] ++ [(("__class__" : Str), cc)] := cellsFrom_acc [(("__class__" : Str), cc)] sc.names (L + 1) []
abbrev envS (qual : Str) (scope : Scope) (L f : Addr) (cd : Value) (cc : Addr) : Env := PySem.W.envX qual scope L f cd (cellsS L scope cc)
/-- the names: the parameters lead, no name but the class's is free -/
structure SScope (N ps : List Str) (sc : Scope) : Prop where
  kind : sc.kind = .function
  co : sc.isCoroutine = false
  gen : sc.isGenerator = false
  nd : N.Nodup
  pre : N.take ps.length = ps
  par : ∀ x ∈ ps, sc.names.lookup x = some .local ∨ sc.names.lookup x = some .cell
  free : ∀ y ∈ sc.names, y.2 = .free → y.1 = ("__class__" : Str)
  cls : sc.names.lookup ("__class__" : Str) = some .free
  ncl : ∀ y ∈ sc.names, y.1 = ("__class__" : Str) → y.2 = .free
section
variable {M : Model} {A : Around} {E : Value → Shared → Prop} {s : Shared} {s₀ : Shared} {env : Env} {m cm : Str → Option Value} {cs : List (Str × Addr)}
theorem stL1 {n : Str} {v : Value} {Q : Unit → Shared → Prop} (x : InCallC s₀ env.locals m cs cm s) (hk : env.scope.kind = .function) (hl : env.kindOf n = some .local)
    (h : ∀ s', InCallC s₀ env.locals (fun y => if y = n then some v else m y) cs cm s' → Q () s') : wpAny M A (storeName env n v) Q E s := by
  refine wpAny_storeName_local hl x.toInCall.ns (fun h' hn' hs' => h _ ⟨⟨?_, hn', fun b o e => ?_, x.toInCall.fresh⟩, fun k c hc => ?_, x.apart, x.above⟩) (by rw [hk]; rfl)
  · obtain ⟨h₁, tk, rfl⟩ := x.toInCall.same
    exact ⟨h', _, rfl⟩
  · exact hs'.extBut b o (Nat.ne_of_lt (Nat.lt_of_lt_of_le (Heap.lt_size e) x.toInCall.fresh)) (x.toInCall.keep b o e)
  · exact (x.cell k c hc).sameBut hs' (Nat.ne_of_gt (x.above k c (mem_of_lookup hc)))
theorem stC1 {n : Str} {c : Addr} {v : Value} {Q : Unit → Shared → Prop} (x : InCallC s₀ env.locals m cs cm s) (hk : env.scope.kind = .function) (hl : env.kindOf n = some .cell)
    (hc : cs.lookup n = some c) (hc' : env.cells.lookup n = some c)
    (h : ∀ s', InCallC s₀ env.locals m cs (fun y => if y = n then some v else cm y) s' → Q () s') : wpAny M A (storeName env n v) Q E s := by
  have hLc := x.above n c (mem_of_lookup hc)
  refine wpAny_storeName_cell hk hl hc' (x.cell n c hc) fun h' hcv hs' => h _ ⟨⟨?_, x.toInCall.ns.sameBut hs' (Nat.ne_of_lt hLc), fun b o e => ?_, x.toInCall.fresh⟩, fun k c' hk' => ?_, x.apart, x.above⟩
  · obtain ⟨h₁, tk, rfl⟩ := x.toInCall.same
    exact ⟨h', _, rfl⟩
  · exact hs'.extBut b o (Nat.ne_of_lt (Nat.lt_trans (Nat.lt_of_lt_of_le (Heap.lt_size e) x.toInCall.fresh) hLc)) (x.toInCall.keep b o e)
  · by_cases hkn : k = n
    · subst hkn
      rw [hc] at hk'; cases hk'
      simpa using hcv
    · rw [if_neg hkn]
      exact (x.cell k c' hk').sameBut hs' fun e => hkn (name_of_addr x.apart (mem_of_lookup hk') (e ▸ mem_of_lookup hc))
theorem bindParams1 (f : Str × Value → PUnit → Sem (ForInStep PUnit)) (hf : ∀ n v u, f (n, v) u = (do storeName env n v; pure (.yield ⟨⟩))) (hk : env.scope.kind = .function) :
    ∀ (binds : List (Str × Value)) (m cm : Str → Option Value) (s : Shared) (Q : PUnit → Shared → Prop), InCallC s₀ env.locals m cs cm s →
      (∀ x ∈ binds, env.kindOf x.1 = some .local ∨ (env.kindOf x.1 = some .cell ∧ ∃ c, cs.lookup x.1 = some c ∧ env.cells.lookup x.1 = some c)) →
      (∀ s', InCallC s₀ env.locals (bindL env.kindOf binds m) cs (bindC env.kindOf binds cm) s' → Q ⟨⟩ s') → wpAny M A (forIn binds ⟨⟩ f) Q E s
  | [], m, cm, s, Q, x, _, h => by rw [List.forIn_nil]; exact wpAny_pure (h s x)
  | (n, v) :: r, m, cm, s, Q, x, hkind, h => by
    rw [List.forIn_cons, hf]
    have hr : ∀ y ∈ r, env.kindOf y.1 = some .local ∨ (env.kindOf y.1 = some .cell ∧ ∃ c, cs.lookup y.1 = some c ∧ env.cells.lookup y.1 = some c) := fun y hy => hkind y (List.mem_cons_of_mem _ hy)
    rcases hkind (n, v) List.mem_cons_self with hl | ⟨hl, c, hc, hc'⟩
    · refine wpAny_bind (wpAny_bind (stL1 x hk hl fun s' x' => wpAny_pure (bindParams1 f hf hk r _ _ s' Q x' hr fun s'' x'' => h s'' ?_)))
      unfold bindL bindC; rw [if_pos hl, if_pos hl]; exact x''
    · have hnl : ¬ env.kindOf n = some .local := by rw [hl]; decide
      refine wpAny_bind (wpAny_bind (stC1 x hk hl hc hc' fun s' x' => wpAny_pure (bindParams1 f hf hk r _ _ s' Q x' hr fun s'' x'' => h s'' ?_)))
      unfold bindL bindC; rw [if_neg hnl, if_neg hnl]; exact x''
end
theorem cells_are {n : Str} {c : Addr} : ∀ {l : List (Str × NameKind)} {k : Nat} {acc : List (Str × Addr)}, (n, c) ∈ cellsFrom k l acc → (n, c) ∈ acc ∨ (n, NameKind.cell) ∈ l
  | [], _, _, h => .inl h
  | (x, kd) :: r, k, acc, h => by
    unfold cellsFrom at h
    by_cases hk : (kd == .cell) = true
    · rw [if_pos hk] at h
      rcases cells_are h with z | z
      · rcases List.mem_cons.mp z with e | z
        · have e1 : n = x := congrArg Prod.fst e
          have e2 : kd = .cell := eq_of_beq hk
          rw [e1, e2]
          exact .inr List.mem_cons_self
        · exact .inl z
      · exact .inr (List.mem_cons_of_mem _ z)
    · rw [if_neg hk] at h
      rcases cells_are h with z | z
      · exact .inl z
      · exact .inr (List.mem_cons_of_mem _ z)
theorem lookS {L : Addr} {sc : Scope} {cc : Addr} {n : Str} (h : n ≠ ("__class__" : Str)) : (cellsS L sc cc).lookup n = (cellsFrom (L + 1) sc.names []).lookup n := by
  rw [cellsS_eq, List.lookup_append]
  have e : List.lookup n [(("__class__" : Str), cc)] = none := by
    rw [List.lookup_cons, show (n == ("__class__" : Str)) = false from beq_eq_false_iff_ne.mpr h] <;> rfl
  rw [e, Option.or_none]
theorem newEnvS {M : Model} {A : Around} {E : Value → Shared → Prop} {s : Shared} {scope : Scope} {globals : Addr} {binds : List (Str × Value)} {qual : Str} {func : Option Addr} {code : Value} {builtins cc : Addr} {Q : Env → Shared → Prop}
    (hk : scope.kind = .function) (hb : ∀ x ∈ binds, x.1 ≠ ("__class__" : Str))
    (hkind : ∀ x ∈ binds, scope.names.lookup x.1 = some .local ∨ (scope.names.lookup x.1 = some .cell ∧ ((cellsFrom (s.heap.objs.size + 1) scope.names []).lookup x.1).isSome = true))
    (hQ : ∀ env, env = newEnv scope s.heap.objs.size globals (cellsS s.heap.objs.size scope cc) qual func code none builtins →
      ∀ s', InCallC s env.locals (bindL env.kindOf binds fun _ => none) (cellsFrom (s.heap.objs.size + 1) scope.names []) (bindC env.kindOf binds fun _ => none) s' → Q env s') :
    wpAny M A (newFunctionEnv scope globals [(("__class__" : Str), cc)] binds qual func code none builtins) Q E s := by
  simp only [newFunctionEnv, Option.isSome_none, Bool.false_eq_true, if_false]
  refine wpAny_bind (wpAny_alloc ?_)
  refine wpAny_bind (wpAny_layCells _ (fun name kind cells => by cases hkc : kind == NameKind.cell <;> simp [hkc]) _ _ _ _ ?_)
  have ok := cellsFrom_ok scope.names (s.heap.push { cls := .type "frame", data := .dict #[] }) (s.heap.objs.size + 1) [] ⟨fun _ _ hm => (nomatch hm), List.Pairwise.nil⟩ (by rw [Heap.size_push]; exact Nat.le_refl _)
  rw [Heap.size_push] at ok
  rw [show ({ s with heap := s.heap.push { cls := .type "frame", data := .dict #[] } } : Shared).heap.objs.size = s.heap.objs.size + 1 from Heap.size_push ..]
  refine wpAny_bind (bindParams1 (s₀ := s) (cs := cellsFrom (s.heap.objs.size + 1) scope.names []) (env := newEnv scope s.heap.objs.size globals (cellsS s.heap.objs.size scope cc) qual func code none builtins)
    _ (fun _ _ _ => rfl) hk binds (fun _ => none) (fun _ => none) _ _
    ⟨⟨⟨_, _, rfl⟩, (Heap.Ns.new s.heap (.type "frame")).keeps (pushCells_keeps _ _), fun b o e => pushCells_keeps _ _ b o (Heap.get?_push_of_some _ e), Nat.le_refl _⟩,
      fun n c hc => (ok.empty n c (mem_of_lookup hc)).1, ok.apart, fun n c hm => (ok.empty n c hm).2⟩
    (fun x hx => (hkind x hx).imp id fun ⟨h1, h2⟩ => ⟨h1, by
      obtain ⟨c, hc⟩ := Option.isSome_iff_exists.mp h2
      exact ⟨c, hc, (lookS (hb x hx)).trans hc⟩⟩) fun s' x => wpAny_pure (hQ _ rfl s' x))
/-! ### its context -/
def cxS (CX : CXT) (P : Program) (w : World) (K : PySem.W.Frag) (mg : Str → Option Value) (base : Heap) (N : List Str) (qual : Str) (scope : Scope) (f : Addr) (cd : Value) (cc : Addr) (A : Around) (outer : List Env) (s : Shared) (H : Hp) (E : XK) : Cx where
  prog := P
  w := w
  K := K
  mg := mg
  base := base
  A := A.deeper (envS qual scope s.heap.objs.size f cd cc)
  N := N
  s_0 := s
  H_0 := H
  env := envS qual scope s.heap.objs.size f cd cc
  outer := outer
  stack := envS qual scope s.heap.objs.size f cd cc :: outer
  ex := []
  calm := true
  fn := fun x => !(x == ("__class__" : Str))
  pn := []
  xe := fun e s' => wpAny (model P w) (A.deeper (envS qual scope s.heap.objs.size f cd cc)) (leaving (envS qual scope s.heap.objs.size f cd cc) e) (fun _ s'' => CX outer H s E e s'') (fun e' s'' => CX outer H s E e' s'') s'
theorem inv_startS {CX : CXT} {P : Program} {w : World} {K : PySem.W.Frag} {mg : Str → Option Value} {base : Heap} {N ps : List Str} {qual : Str} {scope : Scope} {f cc : Addr} {cd : Value} {A : Around} {outer : List Env} {s s1 : Shared} {H : Hp} {E : XK} {us : List Value} {vs : List V}
    (S : SScope N ps scope) (hd : A.handled = none) (e0 : Env0 P w K mg base A outer s H) (hl : vs.length = ps.length) (r : Vals vs us) (hcc : ∃ v, base.IsCell cc v)
    (x : InCallC s s.heap.objs.size (bindL (envS qual scope s.heap.objs.size f cd cc).kindOf (ps.zip us) fun _ => none) (cellsFrom (s.heap.objs.size + 1) scope.names []) (bindC (envS qual scope s.heap.objs.size f cd cc).kindOf (ps.zip us) fun _ => none) s1) :
    Inv (cxS CX P w K mg base N qual scope f cd cc A outer s H E) [] (L2.start N vs) H s1 := by
  have hpl : ps.length ≤ N.length := by have := congrArg List.length S.pre; rw [List.length_take] at this; omega
  obtain ⟨h1, tk, rfl, hk⟩ := x.done
  have noA : ∀ b : Addr, b ∉ (cxS CX P w K mg base N qual scope f cd cc A outer s H E).ex := fun b z => absurd (show b ∈ ([] : List Addr) from z) (by simp)
  obtain ⟨vc, oc, hoc, hdc⟩ := hcc
  have ccl : cc < s.heap.objs.size := Nat.lt_of_lt_of_le (Heap.lt_size hoc) e0.bsz
  -- a cell is the class's or one's own
  have split : ∀ y c, (cellsS s.heap.objs.size scope cc).lookup y = some c → ((cellsFrom (s.heap.objs.size + 1) scope.names []).lookup y = some c ∧ s.heap.objs.size < c) ∨ (y = ("__class__" : Str) ∧ c = cc) := fun y c e => by
    rw [cellsS_eq, List.lookup_append] at e
    cases z : (cellsFrom (s.heap.objs.size + 1) scope.names []).lookup y with
    | some c' =>
      rw [z] at e
      cases e
      exact .inl ⟨rfl, x.above y _ (PySem.mem_of_lookup z)⟩
    | none =>
      rw [z] at e
      have e : List.lookup y [(("__class__" : Str), cc)] = some c := e
      rw [List.lookup_cons] at e
      cases q : (y == ("__class__" : Str)) with
      | true =>
        rw [q] at e
        exact .inr ⟨eq_of_beq q, (Option.some.inj e).symm⟩
      | false => rw [q] at e; cases e
  refine ⟨⟨e0.mod, S.kind, rfl, rfl, Nat.le_refl _, fun y z c h1 h2 => ?_, fun y hy => ?_, fun y c hfn h => ?_, fun _ => hd, Around.frames_deeper e0.frames, .inr ⟨rfl, rfl⟩, fun b z => absurd z (noA b), e0.bs, e0.bsz, fun b _ _ => noA b, fun b z => absurd z (noA b), e0.funs, e0.frf⟩,
    rfl, e0.bare, Un.kept hk, ⟨_, x.toInCall.ns, fun i y v h1 h2 h3 => ?_⟩, fun y c h => ?_, e0.hok.fresh (Nat.le_refl _), fun y c h => ?_, fun p hp => absurd (show p ∈ ([] : List (Addr × Obj)) from hp) (by simp), e0.hok.kept hk, ?_⟩
  · rcases split y c h1 with ⟨a1, a2⟩ | ⟨a1, a2⟩
    · rcases split z c h2 with ⟨b1, b2⟩ | ⟨b1, b2⟩
      · exact name_of_addr x.apart (PySem.mem_of_lookup a1) (PySem.mem_of_lookup b1)
      · rw [b2] at a2; exact absurd ccl (Nat.not_lt.mpr (Nat.le_of_lt a2))
    · rcases split z c h2 with ⟨b1, b2⟩ | ⟨b1, b2⟩
      · rw [a2] at b2; exact absurd ccl (Nat.not_lt.mpr (Nat.le_of_lt b2))
      · rw [a1, b1]
  · have hy : scope.names.lookup y = some .cell ∨ scope.names.lookup y = some .free := hy
    rcases hy with hy | hy
    · obtain ⟨c, e⟩ := cell_has (n := s.heap.objs.size + 1) hy
      refine ⟨c, ?_⟩
      show (cellsS s.heap.objs.size scope cc).lookup y = some c
      rw [cellsS_eq, List.lookup_append, e] <;> rfl
    · have ey := S.free _ (PySem.mem_of_lookup hy) rfl
      have ey : y = ("__class__" : Str) := ey
      subst ey
      cases z : (cellsS s.heap.objs.size scope cc).lookup ("__class__" : Str) with
      | some c => exact ⟨c, z⟩
      | none =>
        rw [cellsS_eq, List.lookup_append, Option.or_eq_none_iff] at z
        have z2 := z.2
        rw [List.lookup_cons, beq_self_eq_true] at z2
        cases z2
  · rcases split y c h with ⟨_, a2⟩ | ⟨a1, _⟩
    · exact Nat.le_of_lt a2
    · have hfn : (!(y == ("__class__" : Str))) = true := hfn
      rw [a1, beq_self_eq_true] at hfn
      cases hfn
  · have hi : i < vs.length := by
      unfold L2.start at h2
      by_cases hi : i < vs.length
      · exact hi
      · rw [List.getElem?_append_right (by simpa using hi)] at h2
        rw [List.getElem?_replicate] at h2
        split at h2 <;> cases h2
    have ha : vs[i]? = some v := by
      unfold L2.start at h2
      rw [List.getElem?_append_left (by simpa using hi), List.getElem?_map] at h2
      cases e : vs[i]? with
      | none => rw [e] at h2; cases h2
      | some a => rw [e] at h2; cases h2; rfl
    obtain ⟨u, hu, rv⟩ := r.get ha
    have hp : ps[i]? = some y := by
      rw [← S.pre, List.getElem?_take_of_lt (by omega)]; exact h1
    have ndP : ps.Nodup := by rw [← S.pre]; exact S.nd.sublist (List.take_sublist _ _)
    refine ⟨u, rv, ?_⟩
    rcases S.par y (List.mem_of_getElem? hp) with k | k
    · exact .inl ⟨k, bindL_get ndP hp hu k⟩
    · obtain ⟨c, e⟩ := cell_has (n := s.heap.objs.size + 1) k
      refine .inr ⟨.inl k, c, ?_, ?_⟩
      · show (cellsS s.heap.objs.size scope cc).lookup y = some c
        rw [cellsS_eq, List.lookup_append, e] <;> rfl
      · have q := x.cell y c e
        rw [bindC_get ndP hp hu (by show scope.names.lookup y ≠ _; rw [k]; decide)] at q
        exact q
  · rcases split y c h with ⟨a1, _⟩ | ⟨_, a2⟩
    · exact ⟨_, x.cell y c a1⟩
    · subst a2
      exact ⟨vc, oc, hk _ _ ((e0.bs _ _ hoc).1), hdc⟩
  · rcases split y c h with ⟨_, a2⟩ | ⟨_, a2⟩
    · exact e0.hok.fresh (Nat.le_of_lt a2)
    · subst a2
      exact (e0.bs _ _ hoc).2
  · unfold L2.start
    show _ = N.length
    rw [List.length_append, List.length_map, List.length_replicate]
    omega
end LW
end
section
set_option Elab.async false
set_option linter.all false
set_option maxRecDepth 100000
set_option maxHeartbeats 1000000
namespace LW
open PySem PySem.Spec PyProof.Rows L2
/-- statements at the very frame -/
structure PSsA (X : Cx) (b0 body : List Stmt) (t : TS) : Prop where
  run : ∀ (pins : List (Addr × Obj)) (s : Shared) (σ : L2.St) (H : Hp) (D : Ends), Inv X pins σ H s → t D σ H → PySem.wpAt (model X.prog X.w) X.A (.func b0 X.env) (execs body X.env) (SP X pins D) X.xe s
theorem pssA_of {X : Cx} {b0 body : List Stmt} {t : TS} (h : PSs X body t) : PSsA X b0 body t := ⟨fun pins s σ H D I q => PySem.wpAt_of_wpAny (h.run pins s σ H D I q)⟩
theorem pssA_cons {X : Cx} {b0 : List Stmt} {st : Stmt} {rest : List Stmt} {t1 t2 : TS} (h1 : PS X st t1) (h2 : PSsA X b0 rest t2) : PSsA X b0 (st :: rest) (tSeq t1 t2) := by
  refine ⟨fun pins s σ H D I q => ks_wpAt_execs_cons ?_⟩
  refine PySem.wpAt_mono (PySem.wpAt_of_wpAny (h1.run pins s σ H _ I q)) (fun f s' hq => ?_) fun _ _ e => e
  cases f with
  | next =>
    obtain ⟨σ', H', I', q'⟩ := hq
    exact h2.run pins s' σ' H' D I' q'
  | brk => exact hq
  | cont => exact hq
  | ret u => exact hq
theorem bootSuper : bootBuiltins "super" = some (.type "super") := by decide +kernel
/-- what super().__init__ asks of the text: the def at f of the class at D; its class cell cc, its code cda; f2 what stands next in the classes' order -/
structure SupF (P : Program) (K : PySem.W.Frag) (f cda cc D f2 : Addr) (slf : Str) : Prop where
  fn : ∃ oc od osl fd ar, K.lookup f = some ⟨oc, od, .func fd, osl⟩ ∧ (fd.params.posonlyargs ++ fd.params.args).head? = some ar ∧ ar.arg = slf
  code : ∃ ccl cdd vs ccs file tf, K.lookup cda = some ⟨ccl, cdd, .fields vs, ccs⟩ ∧ vs[2]? = some (.str file tf) ∧ ((P.main.file : Str) == file) = true
  cell : ∃ cl cld csl, K.lookup cc = some ⟨cl, cld, .cell (some (.ref D)), csl⟩
  cls : ∃ cd, PySem.W.clsIn K D = some cd ∧ PySem.W.alongIn K "__init__" ((cd.mro.dropWhile (· != .ref D)).drop 1) = some (some (.ref f2))
  sub : PySem.W.mroIn K D (.ref D) = some true
  opq : PySem.W.nsIn K cStatics "thirdparty.any" = some none
  f2k : PySem.W.fnIn K f2 = true
  f2t : PySem.W.typeIn K (.ref f2) = some (.type "function")
  top : (P.main.scope.names.lookup ("super" : Str)).isSome = false
theorem SupF.base {P : Program} {K : PySem.W.Frag} {mg : Str → Option Value} {base : Heap} {f cda cc D f2 : Addr} {slf : Str} (S : SupF P K f cda cc D f2 slf) (m : Mod K mg base) : ∃ v, base.IsCell cc v := by
  obtain ⟨cl, cld, csl, h⟩ := S.cell
  exact ⟨_, _, m.kin _ _ h, rfl⟩
/-- super().__init__(e, ..) as a statement -/
def tSup (D : Addr) (sp : Sp) (t : TA) (t2 : TS) : TS := fun N σ H => ∃ x dx fs, σ[0]? = some (some (.ref x)) ∧ H x = some (.ins D dx fs) ∧ t σ H fun vs H1 => sp (.ref x :: vs) H1 (fun _ H2 => t2 N σ H2) E0
section
variable {CX : CXT} {P : Program} {w : World} {K : PySem.W.Frag} {mg : Str → Option Value} {base : Heap} {N' ps : List Str} {qual slf : Str} {scope : Scope} {f cda cc D f2 : Addr} {A : Around} {outer : List Env} {s0 : Shared} {H0 : Hp} {EX : XK}
theorem pssA_super {j k : Nat} {pl : Sem Bool} {b0 rest : List Stmt} {p0 p1 apos pos epos : Pos} {e : Expr} {es : List Expr} {t : TA} {t2 : TS} {sp2 : Sp} (S : SScope N' ps scope) (hs : N'[0]? = some slf) (hsl : scope.names.lookup slf = some .local) (sf : SupF P K f cda cc D f2 slf)
    (hmg : mg "super" = none) (hks : scope.names.lookup ("super" : Str) = some .globalImplicit)
    (F : FnR P w K mg base CX0 j f2 sp2) (hj : j ≤ k) (hr : Room k (A.deeper (envS qual scope s0.heap.objs.size f (.ref cda) cc)))
    (ha : PA (cxS CX0 P w K mg base N' qual scope f (.ref cda) cc A outer s0 H0 EX).nox (e :: es) t) (h2 : PSsA (cxS CX0 P w K mg base N' qual scope f (.ref cda) cc A outer s0 H0 EX).nox b0 rest t2)
    (hst : starEach (e :: es) (envS qual scope s0.heap.objs.size f (.ref cda) cc) = (false, eval e (envS qual scope s0.heap.objs.size f (.ref cda) cc)) :: starEach es (envS qual scope s0.heap.objs.size f (.ref cda) cc) := by rfl)
    (hpl : (backTo pos (starEach es (envS qual scope s0.heap.objs.size f (.ref cda) cc))).any (·.1) = false := by rfl)
    (he : eval (.Call (.Attribute (.Call (.Name "super" p0) [] [] p1) "__init__" apos) (e :: es) [] pos) (envS qual scope s0.heap.objs.size f (.ref cda) cc) = (do
      let ov ← attributeBase (.Call (.Name "super" p0) [] [] p1) "__init__" (envS qual scope s0.heap.objs.size f (.ref cda) cc) (eval (.Call (.Name "super" p0) [] [] p1) (envS qual scope s0.heap.objs.size f (.ref cda) cc))
      standAt apos.atName
      let (f2, first) ← holding [ov] (getMethod ov "__init__" pl)
      callWith pos f2 first (backTo pos (starEach (e :: es) (envS qual scope s0.heap.objs.size f (.ref cda) cc))) []) := by rfl) :
    PSsA (cxS CX0 P w K mg base N' qual scope f (.ref cda) cc A outer s0 H0 EX).nox b0 (.Expr (.Call (.Attribute (.Call (.Name "super" p0) [] [] p1) "__init__" apos) (e :: es) [] pos) epos :: rest) (tSup D sp2 t t2) := by
  have hint : interactive (envS qual scope s0.heap.objs.size f (.ref cda) cc) = false := by unfold interactive; rw [show (envS qual scope s0.heap.objs.size f (.ref cda) cc).scope.kind = .function from S.kind] <;> rfl
  refine ⟨fun pins s σ H N I q => ks_wpAt_execs_cons (ks_wpAt_Expr_any (ks_wpAt_MethodCall (pl := pl) ?_ he) (hi := hint) (hs := rfl))⟩
  obtain ⟨x, dx, fs, eσ, eH, q⟩ := q
  obtain ⟨foc, fod, fosl, fd, ar, lkf, hpar, harn⟩ := sf.fn
  obtain ⟨ccl, cdd, cvs, ccs, file, tf, lkc, hvs, hfile⟩ := sf.code
  obtain ⟨cl, cld, csl, lkcell⟩ := sf.cell
  obtain ⟨cdD, hcls, halong⟩ := sf.cls
  have X : K.In s.heap := I.kIn
  obtain ⟨m, hns, hl⟩ := I.loc
  obtain ⟨u, ru, hlook⟩ := hl 0 slf _ hs eσ (.inl hsl)
  cases ru
  have hmself : m slf = some (.ref x) := by
    rcases hlook with ⟨_, h⟩ | ⟨h, _⟩
    · exact h
    · have h : scope.names.lookup slf = some .cell ∨ scope.names.lookup slf = some .free := h
      rw [hsl] at h
      rcases h with h | h <;> cases h
  obtain ⟨hdx, _, _, hxo, _⟩ := I.hok _ _ eH
  have hD1 : ∃ oD, s.heap.get? D = some oD ∧ oD.data = .cls cdD := by
    unfold PySem.W.clsIn at hcls
    split at hcls
    · rename_i c d cd' sl ho
      cases hcls
      exact ⟨_, X _ _ ho, rfl⟩
    · cases hcls
  obtain ⟨oD, hD1, hD2⟩ := hD1
  have hxD : x ≠ D := fun z => by
    rw [z, hD1] at hxo
    cases hxo
    cases hD2
  subst harn
  refine ks_wpAt_super_base (env := envS qual scope s0.heap.objs.size f (.ref cda) cc) hks S.cls (by decide) rfl (X _ _ lkf) rfl hpar rfl (X _ _ lkc) rfl hvs hfile sf.top ?_
  obtain ⟨mb, hb1, hb2⟩ := I.mod.blt
  refine PySem.W.ks_loadName_global S.kind hks (PySem.Calls.loadGlobal_builtin (env := envS qual scope s0.heap.objs.size f (.ref cda) cc) (I.mod.glob.keeps I.bk) hmg (hb1.keeps I.bk) ((hb2 _ (by decide)).trans bootSuper) ⟨rfl, ?_⟩)
  refine wpAny_loadName_free S.kind S.cls ?_ ⟨_, X _ _ lkcell, rfl⟩ ?_
  · show (cellsS s0.heap.objs.size scope cc).lookup ("__class__" : Str) = some cc
    rw [cellsS_eq, List.lookup_append]
    have z : (cellsFrom (s0.heap.objs.size + 1) scope.names []).lookup ("__class__" : Str) = none := by
      cases z : (cellsFrom (s0.heap.objs.size + 1) scope.names []).lookup ("__class__" : Str) with
      | none => rfl
      | some c =>
        rcases cells_are (PySem.mem_of_lookup z) with y | y
        · cases y
        · have := S.ncl _ y rfl
          cases this
    rw [z]
    rw [List.lookup_cons, beq_self_eq_true] <;> rfl
  refine wpAny_loadName_local S.kind hsl hns hmself ?_
  obtain ⟨hh, gg, dd, tt, oo⟩ := s
  refine ks_wpAny_isType_cls hD1 hD2 ⟨rfl, ?_⟩
  refine ks_wpAny_call_super hD1 hD2 hxo rfl (fun c e => by cases e) (PySem.W.looks_mroIn X sf.sub) (fun h1 e1 k1 => ?_)
  have I1 : Inv (cxS CX0 P w K mg base N' qual scope f (.ref cda) cc A outer s0 H0 EX).nox pins σ H ⟨h1, gg, dd, tt, oo⟩ := I.kept (t' := tt) k1
  have X1 : K.In h1 := I1.kIn
  obtain ⟨of, hof, hofc⟩ : ∃ of, h1.get? f2 = some of ∧ of.cls = .type "function" := by
    have ht' : (K.lookup f2).map (·.cls) = some (.type "function") := sf.f2t
    cases z : K.lookup f2 with
    | none => rw [z] at ht'; cases ht'
    | some of => rw [z] at ht'; exact ⟨of, X1 _ _ z, Option.some.inj ht'⟩
  refine ks_wpAny_getMethod_super e1 (PySem.W.looks_opaque X1 sf.opq) (l₀ := cdD.mro) (fun A Q E s k q => wpAny_bind ((PySem.W.looks_clsIn X1 hcls) A _ E s k (wpAny_pure q))) rfl X1 halong hof hofc hxD (by decide) ?_
  have I2 := ClX.met_new (g := f2) (C := x) I1
  have hq0 : base.get? h1.objs.size = none := ClX.base_none I1 (Nat.le_refl _)
  have FR : FnR P w K mg base CX0 k f2 sp2 := F.mono hj
  refine ClX.callwith_cm (X := (cxS CX0 P w K mg base N' qual scope f (.ref cda) cc A outer s0 H0 EX).nox) I2 hq0 sf.f2k ?_ hst hpl
  refine thn (ha.run pos _ _ σ H _ I2 q) fun us s3 ⟨vs, H3, I3, r3, q3⟩ => ⟨⟨ClX.pin_at I3, I3.kIn⟩, ?_⟩
  refine thn (ClX.run_cm (Q := fun _ H4 => t2 N σ H4) FR hr pass0 I3 r3 q3) fun v s4 ⟨y, H4, I4, r4, q4⟩ => ?_
  exact h2.run pins s4 σ H4 N I4 q4
end
end LW
end
section
set_option Elab.async false
set_option linter.all false
set_option maxRecDepth 100000
set_option maxHeartbeats 1000000
namespace LW
open PySem PySem.Spec PyProof.Rows L2
abbrev fnS (name qual : Str) (params : Arguments) (body : List Stmt) (scope : Scope) (dV kV doc pm : Value) (an : Option Addr) (cdv ct : Value) (cc : Addr) : FuncData := PySem.W.fnX name qual params body scope [(("__class__" : Str), cc)] dV kV doc pm an cdv ct
section
variable {P : Program} {w : World} {K : PySem.W.Frag} {mg : Str → Option Value} {base : Heap} {k : Nat} {f cc cda : Addr} {name qual : Str} {params : Arguments} {body : List Stmt} {scope : Scope} {dV kV doc pm ct oc : Value} {an od : Option Addr}
  {osl : Array (Option Value)} {N ps : List Str} {sp : Sp}
theorem run_bndS {A : Around} {outer : List Env} {s : Shared} {H : Hp} {args : Args} {Q : VK} {E : XK} {G : List V → Hp → Prop} (lk : K.lookup f = some ⟨oc, od, .func (fnS name qual params body scope dV kV doc pm an (.ref cda) ct cc), osl⟩) (hcd : PySem.W.codeIn K (.ref cda) qual = true)
    (S : SScope N ps scope) (hcc : ∃ v, base.IsCell cc v) (hps : ∀ x ∈ ps, x ≠ ("__class__" : Str)) (hr : Room (k + 1) A) (e0 : Env0 P w K mg base A outer s H) (hb : StX.Bnd CX0 P w K mg base (fnS name qual params body scope dV kV doc pm an (.ref cda) ct cc) args ps A outer s H E G)
    (hbody : ∀ (s2 : Shared) (H2 : Hp) (vs : List V), G vs H2 → Room k (A.deeper (envS qual scope s2.heap.objs.size f (.ref cda) cc)) →
      ∃ t, PSsA (cxS CX0 P w K mg base N qual scope f (.ref cda) cc A outer s2 H2 E).nox body body t ∧ t { nx := fun _ H' => Q .non H', rt := Q } (L2.start N vs) H2) : codeAny (model P w) A (.call (.ref f) args) (CR CX0 outer P w H s Q E) s := by
  have KX : K.In s.heap := e0.mod.kin.keeps fun b o e => (e0.bs b o e).1
  refine codeAny_call_function hr.depth (KX _ _ lk) rfl S.co S.gen rfl (PySem.W.codeRec_of KX hcd) ?_
  refine hb _ _ _ fun s2 H2 vs us e2 un ho hx r hl g => ?_
  have lim : s2.heap.NoLimit := e0.mod.nolimit.keeps fun b o e => (e2.bs b o e).1
  have hkind : ∀ y ∈ ps.zip us, scope.names.lookup y.1 = some .local ∨ (scope.names.lookup y.1 = some .cell ∧ ((cellsFrom (s2.heap.objs.size + 1) scope.names []).lookup y.1).isSome = true) := fun y hy => by
    rcases S.par y.1 (List.of_mem_zip hy).1 with q | q
    · exact .inl q
    · exact .inr ⟨q, PySem.W.cellsFrom_some _ _ _ (.inl q)⟩
  refine newEnvS (s := s2) S.kind (fun x hx => hps x.1 (List.of_mem_zip hx).1) hkind fun env he s1 x => ?_
  subst he
  refine ⟨lim.keeps x.toInCall.keep, ?_⟩
  show codeAny _ _ (.func body (envS qual scope s2.heap.objs.size f (.ref cda) cc)) _ _
  refine ks_codeAny_funcAt ?_
  obtain ⟨t, ht, hq⟩ := hbody s2 H2 vs g (hr.deeper _)
  have I : Inv (cxS CX0 P w K mg base N qual scope f (.ref cda) cc A outer s2 H2 E).nox [] (L2.start N vs) H2 s1 := (inv_startS S hr.hd e2 hl r hcc x).wish _
  refine PySem.wpAt_mono (ht.run [] s1 _ _ _ I hq) (fun fl s' hs => ?_) fun e s' hs => hs.elim
  have fin : ∀ {σ' : L2.St} {H' : Hp} {v' : V} {u' : Value}, Inv (cxS CX0 P w K mg base N qual scope f (.ref cda) cc A outer s2 H2 E).nox [] σ' H' s' → RelV v' u' → Q v' H' → CE outer P w H s Q u' s' :=
    fun {σ' H' v' u'} J rv' q => ⟨v', H', J.os.trans ho, J.bare, un.trans J.base, J.hok, rv', q⟩
  cases fl with
  | ret u' =>
    obtain ⟨v', σ', H', J, rv', q⟩ := hs
    exact fin J rv' q
  | next =>
    obtain ⟨σ', H', J, q⟩ := hs
    exact fin (v' := V.non) (u' := Value.none) J rfl q
  | brk =>
    obtain ⟨_, _, _, q⟩ := hs
    exact False.elim q
  | cont =>
    obtain ⟨_, _, _, q⟩ := hs
    exact False.elim q
/-- all parameters are given -/
theorem fnS_all (lk : K.lookup f = some ⟨oc, od, .func (fnS name qual params body scope dV kV doc pm an (.ref cda) ct cc), osl⟩) (hcd : PySem.W.codeIn K (.ref cda) qual = true) (S : SScope N ps scope) (hcc : ∃ v, base.IsCell cc v) (hps : ∀ x ∈ ps, x ≠ ("__class__" : Str))
    (hb : ∀ us : List Value, us.length = ps.length → bindArgs (fnS name qual params body scope dV kV doc pm an (.ref cda) ct cc) ⟨us, []⟩ = pure (ps.zip us)) (len : ∀ vs H Q E, sp vs H Q E → vs.length = ps.length)
    (hbody : ∀ (A : Around) (outer : List Env) (s : Shared) (H : Hp) (vs : List V) (Q : VK) (E : XK), Room k (A.deeper (envS qual scope s.heap.objs.size f (.ref cda) cc)) → sp vs H Q E →
      ∃ t, PSsA (cxS CX0 P w K mg base N qual scope f (.ref cda) cc A outer s H E).nox body body t ∧ t { nx := fun _ H' => Q .non H', rt := Q } (L2.start N vs) H) :
    FnR P w K mg base CX0 (k + 1) f sp := by
  intro A outer s H us vs Q E hr e0 r hsp
  refine run_bndS lk hcd S hcc hps hr e0 (G := fun xs H2 => xs = vs ∧ H2 = H) (fun A' Ex Q' h => ?_) fun s2 H2 xs ⟨ex, eH⟩ hr' => ?_
  · have hl := len _ _ _ _ hsp
    rw [hb us (by rw [← r.length]; exact hl)]
    exact wpAny_pure (h s H vs us e0 Un.refl rfl (fun _ _ z => z) r hl ⟨rfl, rfl⟩)
  · subst ex eH
    exact hbody A outer s2 _ _ Q E hr' hsp
/-- def f(a, .., *v) -/
theorem fnS_star {pv : Str} (lk : K.lookup f = some ⟨oc, od, .func (fnS name qual params body scope dV kV doc pm an (.ref cda) ct cc), osl⟩) (hcd : PySem.W.codeIn K (.ref cda) qual = true) (S : SScope N (ps ++ [pv]) scope) (hcc : ∃ v, base.IsCell cc v) (hps : ∀ x ∈ ps ++ [pv], x ≠ ("__class__" : Str))
    (hb : ∀ us rest : List Value, us.length = ps.length → bindArgs (fnS name qual params body scope dV kV doc pm an (.ref cda) ct cc) ⟨us ++ rest, []⟩ = (newTuple rest >>= fun t => pure (ps.zip us ++ [(pv, t)])))
    (hbody : ∀ (A : Around) (outer : List Env) (s : Shared) (H : Hp) (vs : List V) (Q : VK) (E : XK), Room k (A.deeper (envS qual scope s.heap.objs.size f (.ref cda) cc)) → sp vs H Q E →
      ∃ t, PSsA (cxS CX0 P w K mg base N qual scope f (.ref cda) cc A outer s H E).nox body body t ∧ t { nx := fun _ H' => Q .non H', rt := Q } (L2.start N vs) H) :
    FnR P w K mg base CX0 (k + 1) f (fun vs H Q E => ∃ ws rest, vs = ws ++ rest ∧ ws.length = ps.length ∧ rest.length ≤ sizeLine ∧ ∀ p, H p = Option.none → sp (ws ++ [V.ref p]) (upd H p (.tup rest)) Q E) := by
  intro A outer s H us vs Q E hr e0 r hsp
  obtain ⟨ws, rest, ev, hl, hz, hq⟩ := hsp
  subst ev
  obtain ⟨u1, u2, eu, r1, r2⟩ := StX.vals_split r
  subst eu
  have hn : H s.heap.objs.size = Option.none := e0.hok.fresh (Nat.le_refl _)
  have hl1 : u1.length = ps.length := by rw [← r1.length]; exact hl
  have hl2 : u2.length ≤ sizeLine := by rw [← r2.length]; exact hz
  refine run_bndS lk hcd S hcc hps hr e0 (G := fun xs H2 => ∃ p, H p = Option.none ∧ xs = ws ++ [V.ref p] ∧ H2 = upd H p (.tup rest)) (fun A' Ex Q' h => ?_) fun s2 H2 xs ⟨p, hp, ex, eH⟩ hr' => ?_
  · rw [hb u1 u2 hl1]
    refine wpAny_bind (wpAny_newTuple (wpAny_pure ?_) hl2)
    have new : ObjOk P w (upd H s.heap.objs.size (.tup rest)) (s.heap.push ({ cls := .type "tuple", data := .seq u2.toArray } : Obj)) s.heap.objs.size (.tup rest) := ⟨hz, u2, r2, ⟨_, Heap.get?_push_size _ rfl, rfl, _, rfl⟩⟩
    have un := StX.un_laid (fs := frs outer) (s := s) (o := ({ cls := .type "tuple", data := .seq u2.toArray } : Obj)) (u := .tup rest) hn
    have z := h _ _ (ws ++ [V.ref s.heap.objs.size]) (u1 ++ [Value.ref s.heap.objs.size]) (StX.env0_laid e0 new) un rfl (fun e s' z => z) (r1.append (.cons rfl .nil))
      (by rw [List.length_append, List.length_append, hl] <;> rfl) ⟨_, hn, rfl, rfl⟩
    rw [List.zip_append hl1.symm] at z
    exact z
  · subst ex eH
    exact hbody A outer s2 _ _ Q E hr' (hq p hp)
end
end LW
end
section
set_option Elab.async false
set_option linter.all false
set_option maxRecDepth 100000
set_option maxHeartbeats 2000000
/-! o.f as a target -/
namespace LW
open PySem PySem.Spec PyProof.Rows L2
def gFld (K : PySem.W.Frag) (ta : TE) (f : Str) : TG := fun y σ H Q => ta σ H fun x H1 => ∃ a C dx fs, x = .ref a ∧ H1 a = some (.ins C dx fs) ∧ Cls K C ∧ NoAttr K C f ∧ fs.length < 1000 ∧ Q σ (upd H1 a (.ins C dx (putF f y fs)))
theorem pg_fld {X : Cx} {o : Expr} {f : Str} {pos : Pos} {ta : TE} (K : PySem.W.Frag) (ha : PE X o ta) (hK : X.K = K := by rfl)
    (he : ∀ v, assign (.Attribute o f pos) X.env v = (do
      let ov ← holding [v] (eval o X.env)
      standAt pos.atName
      holding [v, ov] (setAttr ov f v)
      release [v, ov] []) := by intro _; rfl) : PG X (.Attribute o f pos) (gFld K ta f) := by
  subst hK
  refine ⟨fun pins s σ H v u Q I r h => ?_⟩
  rw [he]
  refine wpAny_bind (wpAny_holding (thn (ha.run pins s σ H _ I h) fun ov s1 ⟨x, H1, I1, rx, a, C, dx, fs, ex, ea, c, n, l, q⟩ => ?_))
  subst ex
  obtain rfl : ov = Value.ref a := rx
  exact wpAny_bind (wpAny_standAt (wpAny_bind (wpAny_holding (setattr_ok I1 ea c n l r fun s3 I3 => wpAny_release ⟨σ, _, I3, q⟩))))
end LW
end
section
set_option linter.all false
namespace LS
theorem idxOf_first {α : Type} [DecidableEq α] {x : α} : ∀ {l : List α} {m : Nat} {y : α}, m < l.idxOf x → l[m]? = some y → y ≠ x
  | [], m, y, h, e => by cases e
  | z :: l, 0, y, h, e => by
    cases e
    intro q
    subst q
    rw [List.idxOf_cons_self] at h
    cases h
  | z :: l, m + 1, y, h, e => by
    by_cases q : z = x
    · subst q
      rw [List.idxOf_cons_self] at h
      cases h
    · have h : m + 1 < l.idxOf x + 1 := by rw [List.idxOf_cons, show (z == x) = false from beq_eq_false_iff_ne.mpr q] at h; exact h
      exact idxOf_first (Nat.lt_of_succ_lt_succ h) (by simpa using e)
theorem least_full {k : Nat} {T : Tb} (h : T.Ok k) : ∃ T1 marks T', numberedM T = some T1 ∧ T1.Ok k ∧ T1.st.length ≤ T.st.length ∧ partsM T1 = some marks ∧ marks.length = T1.st.length ∧ (∀ m, m < (uniq marks).length → m ∈ marks) ∧
    (classTb T1 marks).Ok k ∧ (classTb T1 marks).st.length ≤ T1.st.length ∧ numberedM (classTb T1 marks) = some T' ∧ Canon k T' ∧ (∀ w, Wd k w → T'.lang w = T.lang w) ∧ T'.st.length ≤ T.st.length := by
  obtain ⟨T1, e1, ok1, r1, l1, _, _⟩ := numbered_spec h
  obtain ⟨prev, e2, m, hc⟩ := parts_spec ok1
  obtain ⟨ok2, l2, d2⟩ := class_spec ok1 r1 m hc
  obtain ⟨T', e3, ok3, _, l3, o3, d3⟩ := numbered_spec ok2
  have hl : ∀ w, Wd k w → T'.lang w = T.lang w := fun w hw => by rw [l3 w hw, l2 w hw, l1 w hw]
  have c : Canon k T' := ⟨ok3, o3, d3 d2⟩
  have hz : T1.st.length ≤ T.st.length := by
    obtain ⟨o, eo, W, _, hlt, _⟩ := reached_spec h
    rw [numberedM, eo] at e1
    cases e1
    simp only [tabOf, List.length_map]
    exact nodup_lt W.nd hlt
  refine ⟨T1, _, T', e1, ok1, hz, e2, refine_len, fun m hm => ?_, ok2, ?_, e3, c, hl, c.least h hl⟩
  · rw [refine_count] at hm
    exact mem_refine.mpr hm
  · simp only [classTb, firstM, List.length_map, List.length_range]
    have := uniq_len (refineM T1.st prev)
    rw [refine_len] at this
    exact this
theorem Whole.rch {α : Type} [DecidableEq α] {k : Nat} {nx : α → List α} {o : List α} {ok : α → Bool} {x0 : α} (W : Whole k nx o) (h0 : o[0]? = some x0) (hr : ∀ x ∈ o, ∃ w, Wd k w ∧ go nx x0 w = x) : Rch k (tabOf nx ok o) := fun q hq => by
  have hq' : q < o.length := by simpa [tabOf] using hq
  obtain ⟨w, hw, e⟩ := hr o[q] (List.getElem_mem hq')
  refine ⟨w, hw, ?_⟩
  have hx : x0 ∈ o := List.mem_of_getElem? h0
  have e0 : o.idxOf x0 = 0 := idxOf_of W.nd h0
  have g := W.go_tab (ok := ok) w hx hw
  rw [e0, e] at g
  rw [g]
  exact idxOf_of W.nd (List.getElem?_eq_getElem hq')
theorem pair_rch {k : Nat} {A B : Tb} {o : List (Nat × Nat)} {ok : Nat × Nat → Bool} (hA : A.Ok k) (hB : B.Ok k) (W : Whole k (pairNx A B) o) (h0 : o[0]? = some (0, 0)) (hr : ∀ x ∈ o, ∃ w, Wd k w ∧ x = (go A.nx 0 w, go B.nx 0 w)) : Rch k (tabOf (pairNx A B) ok o) :=
  W.rch h0 fun x hx => by
    obtain ⟨w, hw, e⟩ := hr x hx
    exact ⟨w, hw, by rw [pair_go hA hB w 0 0 hA.pos hB.pos hw, e]⟩
end LS
end
section
set_option Elab.async false
set_option linter.all false
set_option maxRecDepth 100000
namespace LW
open PySem L2
abbrev st_least_table : Stmt := top 5
theorem sc_least_table : FnScope ["steps", "told", "marks", "first", "mark", "state", "later"] ["steps", "told"] (defScope st_least_table) := ⟨rfl, rfl, rfl, by decide +kernel, rfl, by decide +kernel, by decide +kernel⟩
theorem tbIn_of {k : Nat} {T : LS.Tb} (h : T.Ok k) (hk : k ≤ 1000) (hz : T.st.length ≤ 1000) : TbIn T := ⟨h.len, h.pos, hz, h.lt, fun r hr => by rw [h.row r hr]; exact hk⟩
theorem rows_at {K : PySem.W.Frag} {tup : Bool} {g : Nat → List Nat} {n : Nat} {acc : List V} {H H' : Hp} {D : Addr} (r : RRows tup (fun i => (g i).map nV) n acc H) (e : Same H H') (eD : H' D = some (.lst acc)) : RowsAt K H' D ((List.range n).map g) := by
  obtain ⟨r3, r4⟩ := r
  have e3 : (acc.map fun v => match v with | .ref a => a | _ => 0).map V.ref = acc := by
    rw [List.map_map]
    apply List.ext_getElem (by simp)
    intro i h1 h2
    obtain ⟨p', e4, _⟩ := r4 i (by omega)
    rw [List.getElem?_eq_getElem h2] at e4
    rw [List.getElem_map, Option.some.inj e4] <;> rfl
  refine ⟨acc.map fun v => match v with | .ref a => a | _ => 0, by rw [e3]; exact .inl (SqL.of eD), by simp [r3], fun i a row e1 e2 => ?_⟩
  have hi : i < n := by
    have := (List.getElem?_eq_some_iff.mp e1).1
    rw [List.length_map, r3] at this
    exact this
  obtain ⟨p', e4, e5⟩ := r4 i hi
  rw [List.getElem?_map, e4] at e1
  cases e1
  rw [List.getElem?_map, List.getElem?_range hi] at e2
  cases e2
  have e6 := e _ _ e5
  cases tup with
  | true => exact .inr (SqT.of e6)
  | false => exact .inl (SqL.of e6)
def spLeast (K : PySem.W.Frag) : Sp := fun vs H Q _ => ∃ (a b : Addr) (T : LS.Tb) (k : Nat), vs = [.ref a, .ref b] ∧ RowsAt K H a T.st ∧ SqA K H b (T.to.map V.bl) ∧ T.Ok k ∧ k ≤ 1000 ∧ T.st.length ≤ 1000 ∧
  ∀ T' p r t H', LS.Canon k T' → (∀ w, LS.Wd k w → T'.lang w = T.lang w) → T'.st.length ≤ T.st.length → Same H H' → H' p = some (.tup [.ref r, .ref t]) → RowsT H' r T'.st → H' t = some (.tup (T'.to.map V.bl)) → Q (.ref p) H'
section
variable {P : Program} {w : World} {K : PySem.W.Frag} {mg : Str → Option Value} {base : Heap}
theorem c_least_table (T : Txt K mg) : Cal P w K mg base "least_table" 3 ["steps", "told"] (spLeast K) := by
  have c_numbered := c_numbered (P := P) (w := w) (base := base) T
  have c_parts := c_parts (P := P) (w := w) (base := base) T
  refine FunG.cal T.f_least_table sc_least_table (fun _ _ _ _ _ _ us hl => match us, hl with | [_, _], _ => rfl) (fun vs H Q E h => ?_) (fun f cdv A outer s H vs Q E hr h => ?_)
  · obtain ⟨a, b, T, k, rfl, _⟩ := h
    rfl
  · obtain ⟨a, b, Tb, kk, rfl, hR, hB, hT, hk, hz, k⟩ := h
    have hu := hr.units
    obtain ⟨T1, marks, T', m1, ok1, z1, m2, ml, hmem, ok2, z2, m3, cn, hlg, hz'⟩ := LS.least_full hT
--TERM least_table
    refine ⟨_, (pss_cons (ps_asg (pe_cal c_numbered (by decide) hr (pa_cons (pv 0) (pa_cons (pv 1) pa_nil))) (pg_tupK K (n := 2) (pgs_cons (pg_name (i := 0) sc_least_table.nd rfl (Or.inr rfl)) (pgs_cons (pg_name (i := 1) sc_least_table.nd rfl (Or.inr rfl)) pgs_nil))))
  (pss_cons (ps_set (i := 2) sc_least_table.nd rfl (Or.inr rfl) (pe_cal c_parts (by decide) hr (pa_cons (pv 0) (pa_cons (pv 1) pa_nil))))
  (pss_cons (ps_setLc (i := 3) (own := [("mark", 4)]) rfl sc_least_table.nd rfl rfl (sw_true rfl rfl rfl (by decide +kernel)) (pi_range1 rfl T.b_range (pa_cons (pe_lenSetK K rfl T.b_len rfl T.b_set (pv 2)) pa_nil)) (blkOk_by (own := [("mark", 4)]) (by kernel_rfl)) (fun _ _ _ _ _ => (pg_name (i := 4) sc_least_table.nd rfl (Or.inl rfl))) (fun _ _ _ _ _ => pts_nil) (fun _ _ _ _ _ => (pe_bmK K PySem.F.plainAttrs_list PySem.F.slot_list_index PySem.F.type_list_index (mt_indexK K) (pv 2) (pa_cons (pv 4) pa_nil))))
  (pss_one (ps_ret (pe_cal c_numbered (by decide) hr (pa_cons (pe_lc (own := [("state", 5)]) rfl sc_least_table.nd (pi_seqK K (pv 3)) (blkOk_by (own := [("state", 5)]) (by kernel_rfl)) (fun _ _ _ _ _ => (pg_name (i := 5) sc_least_table.nd rfl (Or.inl rfl))) (fun _ _ _ _ _ => pts_nil) (fun _ _ _ _ _ => (pe_lc (own := [("later", 6)]) rfl sc_least_table.nd (pi_seqK K (pe_ix (ix_seqK K) (pv 0) (pv 5) (fun _ _ => rfl))) (blkOk_by (own := [("later", 6)]) (by kernel_rfl)) (fun _ _ _ _ _ => (pg_name (i := 6) sc_least_table.nd rfl (Or.inl rfl))) (fun _ _ _ _ _ => pts_nil) (fun _ _ _ _ _ => (pe_ix (ix_listK K) (pv 2) (pv 6) (fun _ _ => rfl)))))) (pa_cons (pe_lc (own := [("state", 5)]) rfl sc_least_table.nd (pi_seqK K (pv 3)) (blkOk_by (own := [("state", 5)]) (by kernel_rfl)) (fun _ _ _ _ _ => (pg_name (i := 5) sc_least_table.nd rfl (Or.inl rfl))) (fun _ _ _ _ _ => pts_nil) (fun _ _ _ _ _ => (pe_ix (ix_seqK K) (pv 1) (pv 5) (fun _ _ => rfl)))) pa_nil)))))))), ?_⟩
--END
    refine ⟨_, rfl, _, rfl, a, b, Tb, T1, rfl, hR, hB, tbIn_of hT hk hz, m1, fun p r t H1 s1 e1 e2 e3 => ?_⟩
    refine ⟨p, _, rfl, SqT.of e1, rfl, _, _, rfl, _, _, rfl, rfl, ?_⟩
    refine ⟨_, rfl, _, rfl, r, t, T1, marks, rfl, e2.at, .inr (SqT.of e3), tbIn_of ok1 hk (Nat.le_trans z1 hz), m2, fun mp H2 s2 e4 => ?_⟩
    have hz1 : marks.length ≤ 1000 := by rw [ml]; exact Nat.le_trans z1 hz
    have eu : (uniqK (marks.map nK)).length = (LS.uniq marks).length := by rw [uniqK_map nK nK_inj, List.length_map]
    have ek : (marks.map nK).map kV = marks.map nV := by rw [List.map_map] <;> rfl
    have hul := LS.uniq_len marks
    -- first = [marks.index(mark) for mark in range(len(set(marks)))]
    refine ⟨_, rfl, .inl ⟨mp, marks.map nK, rfl, by rw [ek]; exact SqL.of e4, by rw [List.length_map]; omega, ?_⟩⟩
    rw [eu]
    refine ⟨_, rfl, by omega, by omega, fun D nD => lc_it (walk_range (lo := 0) (n := (LS.uniq marks).length)) (LcPv (RMap fun i => nV (marks.idxOf i)) H2 D) (pv_start nD rfl) (fun _ _ _ _ => True.intro) ?_ ?_⟩
    · rintro i x H3 H4 hi ⟨acc, eD, hl, sm, r⟩ ⟨rfl, rfl⟩
      have hm := hmem i hi
      have hi2 : marks.idxOf i < marks.length := List.idxOf_lt_length_iff.mpr hm
      have s3 : Same H2 H4 := sm_trans sm hid_sub
      refine ⟨rfl, _, rfl, .inl ⟨rfl, _, SqL.of (s3 _ _ e4)⟩, _, rfl, mp, marks.map nV, _, marks.idxOf i, nV i, rfl, rfl, SqL.of (s3 _ _ e4), rfl, ?_, map_at nV (LS.idxOf_at hm), ?_, ?_, ?_⟩
      · rw [List.all_map]
        exact List.all_eq_true.mpr fun _ _ => rfl
      · show ((i : Int) == 0 + (i : Int)) = true
        simp
      · intro m z' hlt ez
        obtain ⟨y, ey, rfl⟩ := of_map_at ez
        have ne := LS.idxOf_first hlt ey
        show ((y : Int) == 0 + (i : Int)) = false
        rw [beq_eq_false_iff_ne]
        omega
      · exact pv_push eD hl sm (Same.refl _) (by omega) (rmap_push r rfl)
    rintro H3 ⟨acc, eD, hl, sm, r⟩
    have s23 : Same H2 H3 := sm_trans sm hid_sub
    have e0 : acc = (LS.firstM marks).map nV := by
      have e1 : acc = (List.range (LS.uniq marks).length).map fun i => nV (marks.idxOf i) := r
      rw [e1]
      unfold LS.firstM
      rw [List.map_map] <;> rfl
    subst e0
    have fl : (LS.firstM marks).length = (LS.uniq marks).length := by simp [LS.firstM]
    have flt : ∀ q ∈ LS.firstM marks, q < T1.st.length := fun q hq => by
      unfold LS.firstM at hq
      obtain ⟨m, hm, rfl⟩ := List.mem_map.mp hq
      rw [← ml]
      exact List.idxOf_lt_length_iff.mpr (hmem m (List.mem_range.mp hm))
    obtain ⟨rs, hrs, hrl, hrow⟩ := id e2
    have s13 : Same H1 H3 := sm_trans s2 s23
    -- [[marks[later] for later in steps[state]] for state in first]
    refine ⟨_, rfl, D, rfl, lc_sq (K := K) (H0 := H3) (.inl (SqL.of eD)) (Same.refl _) (fun D2 => LcPv (RRows false fun i => (T1.nx ((LS.firstM marks).getD i 0)).map fun y => nV (marks.getD y 0)) H3 D2) (fun D2 nD2 => pv_start nD2 ⟨rfl, fun j hj => absurd hj (Nat.not_lt_zero _)⟩) (fun D2 i H' _ _ p => pv_same p) ?_ ?_⟩
    · rintro D2 i x H5 nD2 ex ⟨acc2, eD2, hl2, sm2, r2⟩
      obtain ⟨q, eq', rfl⟩ := of_map_at ex
      have hi : i < (LS.firstM marks).length := (List.getElem?_eq_some_iff.mp eq').1
      have hqs := flt q (List.mem_of_getElem? eq')
      have s35 : Same H3 H5 := sm_trans sm2 hid_sub
      have s15 := sm_trans s13 s35
      have er : rs[q]? = some rs[q] := List.getElem?_eq_getElem (by rw [hrl]; exact hqs)
      have es : T1.st[q]? = some (T1.nx q) := by unfold LS.Tb.nx; rw [LS.getD_at hqs]; exact List.getElem?_eq_getElem hqs
      have hrq : SqA K H5 rs[q] ((T1.nx q).map nV) := .inr (SqT.of (s15 _ _ (hrow _ _ _ er es)))
      refine ⟨rfl, _, rfl, _, rfl, rIx_seq (.inr (SqT.of (s15 _ _ hrs))) (map_at V.ref er) ⟨_, rfl, lc_sq (H0 := H5) hrq (Same.refl _) (fun D3 => LcPv (RMap fun j => nV (marks.getD ((T1.nx q).getD j 0) 0)) H5 D3) (fun D3 nD3 => pv_start nD3 rfl) (fun D3 j H' _ _ p => pv_same p) ?_ ?_⟩⟩
      · rintro D3 j y H6 nD3 ey ⟨acc3, eD3, hl3, sm3, r3⟩
        obtain ⟨p, ep, rfl⟩ := of_map_at ey
        have hj' : j < (T1.nx q).length := (List.getElem?_eq_some_iff.mp ep).1
        have hp : p < marks.length := by rw [ml]; exact ok1.nx_lt hqs p (List.mem_of_getElem? ep)
        have e6 : (T1.nx q).getD j 0 = p := by rw [List.getD_eq_getElem?_getD, ep] <;> rfl
        have e4' : H6 mp = some (.lst (marks.map nV)) := sm_trans sm3 hid_sub _ _ (s35 _ _ (s23 _ _ e4))
        have epm : (marks.map nV)[p]? = some (nV (marks.getD p 0)) := by
          rw [LS.getD_at hp]
          exact map_at nV (List.getElem?_eq_getElem hp)
        refine ⟨rfl, _, rfl, _, rfl, mp, _, _, _, rfl, rfl, SqL.of e4', atI_nat epm, ?_⟩
        exact pv_push eD3 hl3 sm3 (Same.refl _) (Nat.lt_of_lt_of_le hj' (by rw [ok1.nx_len hqs]; omega)) (rmap_push r3 (by rw [e6]))
      · rintro D3 H6 nD3 ⟨acc3, eD3, hl3, sm3, r3⟩
        have s56 : Same H5 H6 := sm_trans sm3 hid_sub
        refine pv_push eD2 hl2 sm2 s56 (by omega) (rrows_push r2 (same_hid s56) ?_)
        have ne : D3 ≠ D2 := Ne.symm (ne_of_none eD2 nD3)
        have e7 : (LS.firstM marks).getD i 0 = q := by rw [List.getD_eq_getElem?_getD, eq'] <;> rfl
        rw [hid_ne ne, if_neg (by decide), e7, eD3]
        congr 2
        have : acc3 = (List.range (((T1.nx q).map nV).length)).map fun j => nV (marks.getD ((T1.nx q).getD j 0) 0) := r3
        rw [this, List.length_map]
        exact map_range_getD (T1.nx q) 0 fun y => nV (marks.getD y 0)
    rintro D2 H4 nD2 ⟨acc2, eD2, hl2, sm2, r2⟩
    have s34 : Same H3 H4 := sm_trans sm2 hid_sub
    have s14 := sm_trans s13 s34
    -- [told[state] for state in first]
    refine ⟨_, rfl, D, rfl, lc_sq (K := K) (H0 := H4) (.inl (SqL.of (s34 _ _ eD))) (Same.refl _) (fun D3 => LcPv (RMap fun i => V.bl (T1.to.getD ((LS.firstM marks).getD i 0) false)) H4 D3) (fun D3 nD3 => pv_start nD3 rfl) (fun D3 i H' _ _ p => pv_same p) ?_ ?_⟩
    · rintro D3 i x H5 nD3 ex ⟨acc3, eD3, hl3, sm3, r3⟩
      obtain ⟨q, eq', rfl⟩ := of_map_at ex
      have hi : i < (LS.firstM marks).length := (List.getElem?_eq_some_iff.mp eq').1
      have hqs := flt q (List.mem_of_getElem? eq')
      have et : T1.to[q]? = some (T1.to.getD q false) := by
        have hq' : q < T1.to.length := by rw [ok1.len]; exact hqs
        rw [LS.getD_at hq']
        exact List.getElem?_eq_getElem hq'
      have s45 : Same H4 H5 := sm_trans sm3 hid_sub
      have e7 : (LS.firstM marks).getD i 0 = q := by rw [List.getD_eq_getElem?_getD, eq'] <;> rfl
      refine ⟨rfl, _, rfl, _, rfl, rIx_seq (.inr (SqT.of (s45 _ _ (s14 _ _ e3)))) (map_at V.bl et) ?_⟩
      exact pv_push eD3 hl3 sm3 (Same.refl _) (by omega) (rmap_push r3 (by rw [e7]))
    rintro D3 H5 nD3 ⟨acc3, eD3, hl3, sm3, r3⟩
    have s45 : Same H4 H5 := sm_trans sm3 hid_sub
    have e8 : acc3 = (LS.classTb T1 marks).to.map V.bl := by
      have e1 : acc3 = (List.range ((LS.firstM marks).map nV).length).map fun i => V.bl (T1.to.getD ((LS.firstM marks).getD i 0) false) := r3
      rw [e1, List.length_map]
      unfold LS.classTb
      rw [List.map_map]
      exact map_range_getD (LS.firstM marks) 0 fun q => V.bl (T1.to.getD q false)
    subst e8
    refine ⟨D2, D3, LS.classTb T1 marks, T', rfl, ?_, .inl (SqL.of eD3), tbIn_of ok2 hk (Nat.le_trans z2 (Nat.le_trans z1 hz)), m3, fun p' r' t' H6 s6 e1' e2' e3' => ?_⟩
    · have q := rows_at (K := K) (tup := false) (H := hid H4 D2) (H' := H5) (D := D2) (g := fun i => (T1.nx ((LS.firstM marks).getD i 0)).map fun y => marks.getD y 0) (n := (LS.firstM marks).length) (acc := acc2) ?_ (sm_trans hid_sub s45) (s45 _ _ eD2)
      · have e9 : (List.range (LS.firstM marks).length).map (fun i => (T1.nx ((LS.firstM marks).getD i 0)).map fun y => marks.getD y 0) = (LS.classTb T1 marks).st := by
          unfold LS.classTb
          apply List.ext_getElem (by simp)
          intro i h1 h2
          rw [List.length_map, List.length_range] at h1
          rw [List.getElem_map, List.getElem_map, List.getElem_range, LS.getD_at h1] <;> rfl
        rw [← e9]
        exact q
      · have e9 : (fun i => ((T1.nx ((LS.firstM marks).getD i 0)).map fun y => marks.getD y 0).map nV) = fun i => (T1.nx ((LS.firstM marks).getD i 0)).map fun y => nV (marks.getD y 0) := by
          funext i
          rw [List.map_map] <;> rfl
        rw [e9]
        rw [List.length_map] at r2
        exact r2
    · exact k T' p' r' t' H6 cn hlg hz' (sm_trans s1 (sm_trans s14 (sm_trans s45 s6))) e1' e2' e3'
end
end LW
end
section
set_option Elab.async false
set_option linter.all false
set_option maxRecDepth 100000
/-! {t: v} with a tuple t of ints and texts -/
namespace LW
open PySem PySem.Spec PyProof.Rows L2
def tDispT (trs : List (TE × TE)) : TE := fun σ H Q => ∀ p, H p = none → tPairs trs σ (upd H p (.dT [])) fun ps H2 => H2 p = some (.dT []) ∧ ∃ (b : Addr) (ks : List Key) (v : V), ps = [(.ref b, v)] ∧ H2 b = some (.tup (ks.map kV)) ∧ Q (.ref p) (upd H2 p (.dT [(ks, v)]))
theorem pe_dispT {X : Cx} {pos : Pos} {keys : List (Option Expr)} {values : List Expr} {trs : List (TE × TE)} (hu : X.A.units + 64 < cLine) (h : PPs X pos keys values trs) (hall : keys.all (·.isSome) = true) (hl : keys.length = values.length) (h0 : keys ≠ [])
    (h15 : keys.length ≤ 15) : PE X (.Dict keys values pos) (tDispT trs) := by
  refine ⟨fun pins s σ H Q I q => ?_⟩
  have hn := I.hok.fresh (Nat.le_refl s.heap.objs.size)
  have I1 := I.laid (a := s.heap.objs.size) (o := .dT []) (h' := s.heap.push { cls := .type "dict", data := .dict #[] }) (t' := s.toks) (fun _ _ q => Heap.get?_push_of_some _ q) (Nat.le_refl _) (dt_empty s.heap I.big)
  rw [arm_eval_Dict, zip_pairTrees keys values X.env pos hall hl]
  have hn2 := pairTrees_length keys values X.env pos hall hl
  rw [dictDisplay_pairs (pairTrees keys values X.env pos) (fun he => h0 (List.length_eq_zero_iff.mp (by rw [he] at hn2; exact hn2.symm))) (by rw [hn2]; omega)]
  refine wpAny_bind (wpAny_standAt (wpAny_bind (wpAny_subDictH (knd := tupleKind (mixKind X.prog X.w)) (Q := fun d s' => wpAny (model X.prog X.w) X.A (pure (Value.ref d)) (EP X pins σ Q) X.xe s') (show X.A.units < cLine from Nat.lt_of_le_of_lt (Nat.le_add_right _ 64) hu) (by rw [hn2]; exact h15)
    (thn (h.run pins _ σ _ _ I1 (q _ hn)) fun ws s2 ⟨ps, H2, I2, rel, e, b, ks, v, ep, eb, q2⟩ => ?_))))
  subst ep
  cases rel with
  | @cons _ pr _ _ r1 rr =>
    cases rr
    obtain ⟨u1, u2⟩ := pr
    obtain ⟨r1, r2⟩ := r1
    cases (show u1 = Value.ref b from r1)
    obtain ⟨z, hd, xs, kt, dd⟩ := dt_of I2.hok e
    cases kt
    refine ⟨[(ks, b, u2)], ⟨rfl, rfl, key_of I2.hok eb, True.intro⟩, dd, fun h' tk dd' hs => wpAny_pure ⟨.ref s.heap.objs.size, _, ?_, rfl, q2⟩⟩
    obtain ⟨o, es, ep, hq, h2, h3, h4, _, h5⟩ := dd'
    refine d_write (t' := tk) I2 (by rw [e]; exact True.intro) hs ⟨o, hq⟩ ⟨by show 1 ≤ sizeLine; decide, hd, [(ks, b, u2)], .cons ⟨rfl, ?_, r2⟩ .nil, o, es, ep, hq, h2, h3, h4, h5⟩
    rw [upd_ne (ne_of eb e (fun z => nomatch z))]
    exact eb
end LW
end
section
set_option Elab.async false
set_option linter.all false
set_option maxRecDepth 100000
namespace LW
open PySem L2
/-! ### what is met is numbered: a list of tuples and a dict of their numbers -/
/-- all that stood stands, but at ex -/
def SameX (ex : List Addr) (H H' : Hp) : Prop := ∀ b o, b ∉ ex → H b = some o → H' b = some o
theorem SameX.refl {ex : List Addr} {H : Hp} : SameX ex H H := fun _ _ _ e => e
theorem SameX.put {ex : List Addr} {H H' : Hp} {a : Addr} {o : HO} (h : SameX ex H H') (ha : a ∈ ex) : SameX ex H (upd H' a o) := fun b u hb e => by
  have ne : b ≠ a := fun z => hb (by rw [z]; exact ha)
  rw [upd_ne ne]
  exact h b u hb e
theorem SameX.then {ex : List Addr} {H H' H2 : Hp} (h : SameX ex H H') (s : Same H' H2) : SameX ex H H2 := fun b u hb e => s _ _ (h b u hb e)
theorem SameX.after {ex : List Addr} {H H' H2 : Hp} (s : Same H H') (h : SameX ex H' H2) : SameX ex H H2 := fun b u hb e => h b u hb (s _ _ e)
theorem SameX.same {ex : List Addr} {H0 H H' : Hp} (s : Same H0 H) (h : SameX ex H H') (n : ∀ a ∈ ex, H0 a = none) : Same H0 H' := fun b u e => h b u (fun z => by rw [n b z] at e; cases e) (s _ _ e)
section
variable {α : Type} [DecidableEq α] (key : α → List Key)
/-- the numbers given -/
def numT (o : List α) : List (List Key × V) := o.map fun x => (key x, nV (LS.ixOf o x))
theorem numT_val (inj : ∀ x y, key x = key y → x = y) (o : List α) (x : α) : valV (numT key o) (key x) = if x ∈ o then some (nV (LS.ixOf o x)) else none := by
  have : ∀ (f : α → V) (l : List α), valV (l.map fun q => (key q, f q)) (key x) = if x ∈ l then some (f x) else none := fun f l => by
    induction l with
    | nil => rfl
    | cons y r ih =>
      rw [List.map_cons]
      by_cases e : y = x
      · subst e
        rw [if_pos List.mem_cons_self]
        exact valV_pos rfl
      · rw [valV_neg (fun z => e (inj _ _ z)), ih]
        by_cases hx : x ∈ r
        · rw [if_pos hx, if_pos (List.mem_cons_of_mem _ hx)]
        · rw [if_neg hx, if_neg (fun z => (List.mem_cons.mp z).elim (fun z => e z.symm) hx)]
  exact this _ _
theorem numT_push (inj : ∀ x y, key x = key y → x = y) {o : List α} {x : α} (hx : x ∉ o) : putK (numT key o) (key x) (nV o.length) = numT key (o ++ [x]) := by
  rw [putK_new _ (by rw [numT_val key inj, if_neg hx])]
  unfold numT
  rw [List.map_append]
  congr 1
  · refine List.map_congr_left fun y hy => ?_
    rw [show LS.ixOf (o ++ [x]) y = LS.ixOf o y from LS.idxOf_pre hy]
  · rw [List.map_singleton]
    congr 2
    have : LS.ixOf (o ++ [x]) x = o.length := by
      unfold LS.ixOf
      rw [List.idxOf_append, if_neg hx]
      simp
    rw [this]
structure Disc (H : Hp) (lp d : Addr) (o : List α) : Prop where
  ex : ∃ ps : List Addr, H lp = some (.lst (ps.map V.ref)) ∧ ps.length = o.length ∧ ∀ (j : Nat) (a : Addr) (x : α), ps[j]? = some a → o[j]? = some x → H a = some (.tup ((key x).map kV))
  dict : H d = some (.dT (numT key o))
variable {key}
theorem Disc.keep {H H' : Hp} {lp d : Addr} {o : List α} (h : Disc key H lp d o) {ex : List Addr} (e : SameX ex H H') (h1 : lp ∉ ex) (h2 : d ∉ ex) (h3 : ∀ b ∈ ex, ∀ xs, H b ≠ some (.tup xs)) : Disc key H' lp d o := by
  obtain ⟨⟨ps, p1, p2, p3⟩, p4⟩ := h
  exact ⟨⟨ps, e _ _ h1 p1, p2, fun j a x a1 a2 => e _ _ (fun z => h3 a z _ (p3 j a x a1 a2)) (p3 j a x a1 a2)⟩, e _ _ h2 p4⟩
theorem Disc.same {H H' : Hp} {lp d : Addr} {o : List α} (h : Disc key H lp d o) (e : Same H H') : Disc key H' lp d o := h.keep (ex := []) (fun b u _ q => e b u q) (by simp) (by simp) (by simp)
/-- the dict and the list take a new one -/
theorem Disc.push {H : Hp} {lp d b : Addr} {o : List α} {x : α} (inj : ∀ x y, key x = key y → x = y) (h : Disc key H lp d o) (hx : x ∉ o) (eb : H b = some (.tup ((key x).map kV))) :
    ∃ ps : List Addr, (upd H d (.dT (putK (numT key o) (key x) (nV o.length)))) lp = some (.lst (ps.map V.ref)) ∧ ps.length = o.length ∧
      Disc key (upd (upd H d (.dT (putK (numT key o) (key x) (nV o.length)))) lp (.lst (ps.map V.ref ++ [.ref b]))) lp d (o ++ [x]) := by
  obtain ⟨⟨ps, p1, p2, p3⟩, p4⟩ := h
  have hld : lp ≠ d := ne_of p1 p4 (fun z => by cases z)
  refine ⟨ps, by rw [upd_ne hld]; exact p1, p2, ⟨ps ++ [b], by rw [upd_same, List.map_append] <;> rfl, by simp [p2], fun j a y e1 e2 => ?_⟩, ?_⟩
  · have tup : ∀ (a : Addr) (xs : List V), H a = some (.tup xs) → (upd (upd H d (.dT (putK (numT key o) (key x) (nV o.length)))) lp (.lst (ps.map V.ref ++ [.ref b]))) a = some (.tup xs) := fun a xs e => by
      rw [upd_ne (ne_of e p1 (fun z => by cases z)), upd_ne (ne_of e p4 (fun z => by cases z))]
      exact e
    rcases Nat.lt_trichotomy j o.length with z | z | z
    · rw [List.getElem?_append_left (by omega)] at e1 e2
      exact tup _ _ (p3 j a y e1 e2)
    · subst z
      rw [List.getElem?_append_right (by omega)] at e1 e2
      simp [p2] at e1 e2
      subst e1 e2
      exact tup _ _ eb
    · rw [List.getElem?_eq_none (by simp; omega)] at e2
      cases e2
  · rw [upd_ne (Ne.symm hld), upd_same, numT_push key inj hx]
theorem Disc.get {H : Hp} {lp d b : Addr} {o : List α} {x : α} (inj : ∀ x y, key x = key y → x = y) (h : Disc key H lp d o) (eb : H b = some (.tup ((key x).map kV))) : DGet H d (.ref b) (if x ∈ o then some (nV (LS.ixOf o x)) else none) := by
  have := DGet.t (k := key x) h.dict eb
  rw [numT_val key inj] at this
  exact this
end
/-- rows that are lists of their own -/
structure RowsL (H : Hp) (ls : Addr) (ex : List Addr) (R : List (List Nat)) : Prop where
  ex : ∃ rs : List Addr, H ls = some (.lst (rs.map V.ref)) ∧ rs.length = R.length ∧ ∀ (j : Nat) (a : Addr) (row : List Nat), rs[j]? = some a → R[j]? = some row → H a = some (.lst (row.map nV)) ∧ a ∉ ex ∧ a ≠ ls
theorem RowsL.keep {H H' : Hp} {ls : Addr} {ex : List Addr} {R : List (List Nat)} (h : RowsL H ls ex R) {ey : List Addr} (e : SameX ey H H') (h1 : ls ∉ ey) (h2 : ∀ b ∈ ey, b ∈ ex ∨ H b = none) : RowsL H' ls ex R := by
  obtain ⟨rs, p1, p2, p3⟩ := h
  refine ⟨rs, e _ _ h1 p1, p2, fun j a row a1 a2 => ?_⟩
  obtain ⟨q1, q2, q3⟩ := p3 j a row a1 a2
  refine ⟨e _ _ (fun z => ?_) q1, q2, q3⟩
  rcases h2 a z with y | y
  · exact q2 y
  · rw [y] at q1; cases q1
theorem RowsL.push {H : Hp} {ls : Addr} {ex : List Addr} {R : List (List Nat)} {r : Addr} {row : List Nat} (h : RowsL H ls ex R) (hr : H r = some (.lst (row.map nV))) (h1 : r ∉ ex) (h2 : r ≠ ls) :
    ∃ rs : List Addr, H ls = some (.lst (rs.map V.ref)) ∧ rs.length = R.length ∧ RowsL (upd H ls (.lst (rs.map V.ref ++ [.ref r]))) ls ex (R ++ [row]) := by
  obtain ⟨rs, p1, p2, p3⟩ := h
  refine ⟨rs, p1, p2, rs ++ [r], by rw [upd_same, List.map_append] <;> rfl, by simp [p2], fun j a y e1 e2 => ?_⟩
  rcases Nat.lt_trichotomy j R.length with z | z | z
  · rw [List.getElem?_append_left (by omega)] at e1 e2
    obtain ⟨q1, q2, q3⟩ := p3 j a y e1 e2
    exact ⟨by rw [upd_ne q3]; exact q1, q2, q3⟩
  · subst z
    rw [List.getElem?_append_right (by omega)] at e1 e2
    simp [p2] at e1 e2
    subst e1 e2
    exact ⟨by rw [upd_ne h2]; exact hr, h1, h2⟩
  · rw [List.getElem?_eq_none (by simp; omega)] at e2
    cases e2
theorem RowsL.at {K : PySem.W.Frag} {H : Hp} {ls : Addr} {ex : List Addr} {R : List (List Nat)} (h : RowsL H ls ex R) : RowsAt K H ls R := by
  obtain ⟨rs, p1, p2, p3⟩ := h
  exact ⟨rs, .inl (SqL.of p1), p2, fun j a row e1 e2 => .inl (SqL.of (p3 j a row e1 e2).1)⟩

/-! ### both_told -/
abbrev st_both_told : Stmt := top 6
theorem sc_both_told : FnScope ["rule", "one", "other"] ["rule", "one", "other"] (defScope st_both_told) := ⟨rfl, rfl, rfl, by decide +kernel, rfl, by decide +kernel, by decide +kernel⟩
inductive Rule where
  | and | or | less | one
def Rule.s : Rule → Str
  | .and => "and" | .or => "or" | .less => "less" | .one => "one"
def Rule.f : Rule → Bool → Bool → Bool
  | .and, x, y => x && y
  | .or, x, y => x || y
  | .less, x, y => x && !y
  | .one, x, y => x != y
def spBoth : Sp := fun vs H Q _ => ∃ (r : Rule) (x y : Bool), vs = [.str r.s, .bl x, .bl y] ∧ Q (.bl (r.f x y)) H
section
variable {P : Program} {w : World} {K : PySem.W.Frag} {mg : Str → Option Value} {base : Heap}
theorem c_both_told (T : Txt K mg) : Cal P w K mg base "both_told" 1 ["rule", "one", "other"] spBoth := by
  refine FunG.cal T.f_both_told sc_both_told (fun _ _ _ _ _ _ us hl => match us, hl with | [_, _, _], _ => rfl) (fun vs H Q E h => ?_) (fun f cdv A outer s H vs Q E hr h => ?_)
  · obtain ⟨r, x, y, rfl, _⟩ := h
    rfl
  · obtain ⟨r, x, y, rfl, k⟩ := h
--TERM both_told
    refine ⟨_, (pss_cons (ps_if (pt_cmpR op_eq (pv 0) pe_str (nomark _)) (pss_one (ps_ret (pe_and (pv 1) (pe_one (pv 2)))))
  pss_nil)
  (pss_cons (ps_if (pt_cmpR op_eq (pv 0) pe_str (nomark _)) (pss_one (ps_ret (pe_or (pv 1) (pe_one (pv 2)))))
  pss_nil)
  (pss_one (ps_ret (pe_ifExp (pt_cmpR op_eq (pv 0) pe_str (nomark _)) (pe_and (pv 1) (pe_one (pe_not (pv 2)))) (pe_cmpR op_ne (pv 1) (pv 2) (nomark _))))))), ?_⟩
--END
    have ne : ∀ (a b : Str), (a == b) = false → decide (V.str a = V.str b) = false := fun a b h => decide_eq_false fun z => by
      have := V.str.inj z
      subst this
      rw [beq_self_eq_true] at h
      cases h
    have eq : ∀ (a : Str), decide (V.str a = V.str a) = true := fun a => decide_eq_true rfl
    have fin : ∀ {b : Bool}, b = r.f x y → Q (.bl b) H := fun e => by rw [e]; exact k
    cases r
    · refine ⟨_, rfl, rfl, _, rfl, ?_⟩
      rw [show decide (V.str Rule.and.s = V.str "and") = true from eq _]
      refine iteT ⟨_, rfl, x, rfl, ?_⟩
      cases x
      · exact iteF (fin rfl)
      · exact iteT ⟨_, rfl, fin rfl⟩
    · refine ⟨_, rfl, rfl, _, rfl, ?_⟩
      rw [show decide (V.str Rule.or.s = V.str "and") = false from ne _ _ (by decide)]
      refine iteF ⟨_, rfl, rfl, _, rfl, ?_⟩
      rw [show decide (V.str Rule.or.s = V.str "or") = true from eq _]
      refine iteT ⟨_, rfl, x, rfl, ?_⟩
      cases x
      · exact iteF ⟨_, rfl, fin rfl⟩
      · exact iteT (fin rfl)
    · refine ⟨_, rfl, rfl, _, rfl, ?_⟩
      rw [show decide (V.str Rule.less.s = V.str "and") = false from ne _ _ (by decide)]
      refine iteF ⟨_, rfl, rfl, _, rfl, ?_⟩
      rw [show decide (V.str Rule.less.s = V.str "or") = false from ne _ _ (by decide)]
      refine iteF ⟨_, rfl, rfl, _, rfl, ?_⟩
      rw [show decide (V.str Rule.less.s = V.str "less") = true from eq _]
      refine iteT ⟨_, rfl, x, rfl, ?_⟩
      cases x
      · exact iteF (fin rfl)
      · exact iteT ⟨_, rfl, y, rfl, fin rfl⟩
    · refine ⟨_, rfl, rfl, _, rfl, ?_⟩
      rw [show decide (V.str Rule.one.s = V.str "and") = false from ne _ _ (by decide)]
      refine iteF ⟨_, rfl, rfl, _, rfl, ?_⟩
      rw [show decide (V.str Rule.one.s = V.str "or") = false from ne _ _ (by decide)]
      refine iteF ⟨_, rfl, rfl, _, rfl, ?_⟩
      rw [show decide (V.str Rule.one.s = V.str "less") = false from ne _ _ (by decide)]
      refine iteF ⟨_, rfl, _, rfl, rfl, fin ?_⟩
      cases x <;> cases y <;> decide
end
end LW
end
section
set_option Elab.async false
set_option linter.all false
set_option maxRecDepth 100000
namespace LW
open PySem L2
abbrev st_paired : Stmt := top 7
theorem sc_paired : FnScope ["one", "other", "rule", "pairs", "number", "steps", "mine", "others", "row", "pair"] ["one", "other", "rule"] (defScope st_paired) := ⟨rfl, rfl, rfl, by decide +kernel, rfl, by decide +kernel, by decide +kernel⟩
def key2 (x : Nat × Nat) : List Key := [nK x.1, nK x.2]
theorem key2_inj (x y : Nat × Nat) (h : key2 x = key2 y) : x = y := by
  unfold key2 at h
  injection h with h1 h2
  injection h2 with h2 _
  exact Prod.ext (nK_inj _ _ h1) (nK_inj _ _ h2)
/-- the list of pairs, the dict and the rows: new lists alone change -/
def spPaired (K : PySem.W.Frag) : Sp := fun vs H Q _ => ∃ (p1 p2 r1 t1 r2 t2 : Addr) (A B : LS.Tb) (k : Nat) (r : Rule), vs = [.ref p1, .ref p2, .str r.s] ∧ H p1 = some (.tup [.ref r1, .ref t1]) ∧ H p2 = some (.tup [.ref r2, .ref t2]) ∧ RowsT H r1 A.st ∧ RowsT H r2 B.st ∧
  H t1 = some (.tup (A.to.map V.bl)) ∧ H t2 = some (.tup (B.to.map V.bl)) ∧ A.Ok k ∧ B.Ok k ∧ k ≤ 1000 ∧ A.st.length * B.st.length ≤ 10000 ∧
  ∀ (T' : LS.Tb) p rr tt H', T'.Ok k → (∀ w, LS.Wd k w → T'.lang w = r.f (A.lang w) (B.lang w)) → LS.Rch k T' → T'.st.length ≤ A.st.length * B.st.length → Same H H' → H' p = some (.tup [.ref rr, .ref tt]) → RowsAt K H' rr T'.st → SqA K H' tt (T'.to.map V.bl) → Q (.ref p) H'
section
variable {P : Program} {w : World} {K : PySem.W.Frag} {mg : Str → Option Value} {base : Heap}
theorem c_paired (T : Txt K mg) : Cal P w K mg base "paired" 2 ["one", "other", "rule"] (spPaired K) := by
  have c_both_told := c_both_told (P := P) (w := w) (base := base) T
  refine FunG.cal T.f_paired sc_paired (fun _ _ _ _ _ _ us hl => match us, hl with | [_, _, _], _ => rfl) (fun vs H Q E h => ?_) (fun f cdv A outer s H vs Q E hr h => ?_)
  · obtain ⟨p1, p2, r1, t1, r2, t2, A, B, k, r, rfl, _⟩ := h
    rfl
  · obtain ⟨p1, p2, r1, t1, r2, t2, TA, TB, kk, r, rfl, ep1, ep2, hR1, hR2, et1, et2, hA, hB, hk, hz, k⟩ := h
    have hu := hr.units
    have hu1 := hu_of hr
    obtain ⟨oE, eO, hW, h0, hlt, hre⟩ := LS.pair_spec hA hB
    obtain ⟨rsA, hrsA, hrlA, hrowA⟩ := id hR1
    obtain ⟨rsB, hrsB, hrlB, hrowB⟩ := id hR2
--TERM paired
    refine ⟨_, (pss_cons (ps_set (i := 3) sc_paired.nd rfl (Or.inl rfl) (pe_lst (pa_cons (pe_tup (pa_cons pe_int (pa_cons pe_int pa_nil))) pa_nil)))
  (pss_cons (ps_set (i := 4) sc_paired.nd rfl (Or.inl rfl) (pe_dispT hu (pps_cons (pe_tup (pa_cons pe_int (pa_cons pe_int pa_nil))) pe_int pps_nil) (by rfl) (by rfl) (fun z => by cases z) (by decide)))
  (pss_cons (ps_set (i := 5) sc_paired.nd rfl (Or.inl rfl) (pe_lst pa_nil))
  (pss_cons (ps_while PassesOwn.never (pt_cmpR op_lt (pe_callB (call_lenK K) (by rfl) T.b_len PySem.boot_len (pa_cons (pv 5) pa_nil)) (pe_callB (call_lenK K) (by rfl) T.b_len PySem.boot_len (pa_cons (pv 3) pa_nil)) (nomark _))
  (pss_cons (ps_asg (pe_ix (ix_listK K) (pv 3) (pe_callB (call_lenK K) (by rfl) T.b_len PySem.boot_len (pa_cons (pv 5) pa_nil)) (fun _ _ => rfl)) (pg_tupK K (n := 2) (pgs_cons (pg_name (i := 6) sc_paired.nd rfl (Or.inl rfl)) (pgs_cons (pg_name (i := 7) sc_paired.nd rfl (Or.inl rfl)) pgs_nil))))
  (pss_cons (ps_set (i := 8) sc_paired.nd rfl (Or.inl rfl) (pe_lst pa_nil))
  (pss_cons (ps_for PassesOwn.never rfl (pi_zipS K T.b_zip (pa_cons (pe_ix (ix_seqK K) (pe_ix (ix_tupK K) (pv 0) pe_int (fun _ _ => rfl)) (pv 6) (fun _ _ => rfl)) (pa_cons (pe_ix (ix_seqK K) (pe_ix (ix_tupK K) (pv 1) pe_int (fun _ _ => rfl)) (pv 7) (fun _ _ => rfl)) pa_nil))) (pg_name (i := 9) sc_paired.nd rfl (Or.inl rfl))
  (pss_cons (ps_if (pt_cmp (pc_dnotin hu1 (pv 9) (pv 4))) (pss_cons (ps_dput hu1 (pv 4) (pv 9) (pe_callB (call_lenK K) (by rfl) T.b_len PySem.boot_len (pa_cons (pv 3) pa_nil)) rfl)
  (pss_one (ps_expr (pe_bmK K PySem.F.plainAttrs_list PySem.F.slot_list_append PySem.F.type_list_append mt_append (pv 3) (pa_cons (pv 9) pa_nil)))))
  pss_nil)
  (pss_one (ps_expr (pe_bmK K PySem.F.plainAttrs_list PySem.F.slot_list_append PySem.F.type_list_append mt_append (pv 8) (pa_cons (pe_dget hu1 (pv 4) (pv 9) (fun _ _ => rfl)) pa_nil))))))
  (pss_one (ps_expr (pe_bmK K PySem.F.plainAttrs_list PySem.F.slot_list_append PySem.F.type_list_append mt_append (pv 5) (pa_cons (pv 8) pa_nil))))))))
  (pss_one (ps_ret (pe_tup (pa_cons (pv 5) (pa_cons (pe_lc (own := [("mine", 6), ("others", 7)]) rfl sc_paired.nd (pi_listK K (pv 3)) (blkOk_by (own := [("mine", 6), ("others", 7)]) (by kernel_rfl)) (fun _ _ _ _ _ => (pg_tupK K (n := 2) (pgs_cons (pg_name (i := 6) sc_paired.nd rfl (Or.inl rfl) (.inr rfl)) (pgs_cons (pg_name (i := 7) sc_paired.nd rfl (Or.inl rfl) (.inr rfl)) pgs_nil)))) (fun _ _ _ _ _ => pts_nil) (fun _ _ _ _ _ => (pe_cal c_both_told (by decide) hr (pa_cons (pv 2) (pa_cons (pe_ix (ix_seqK K) (pe_ix (ix_tupK K) (pv 0) pe_int (fun _ _ => rfl)) (pv 6) (fun _ _ => rfl)) (pa_cons (pe_ix (ix_seqK K) (pe_ix (ix_tupK K) (pv 1) pe_int (fun _ _ => rfl)) (pv 7) (fun _ _ => rfl)) pa_nil)))))) pa_nil))))))))), ?_⟩
--END
    refine ⟨by show 2 ≤ sizeLine; decide, fun k0 hk0 => ⟨by show 1 ≤ sizeLine; decide, fun lp hlp => ?_⟩⟩
    intro d hd
    refine ⟨by show 2 ≤ sizeLine; decide, fun k1 hk1 => ?_⟩
    refine ⟨by rw [upd_ne (fun z => by rw [z, upd_same] at hk1; cases hk1), upd_same], k1, [nK 0, nK 0], nV 0, rfl, upd_same, ?_⟩
    refine ⟨Nat.zero_le _, fun ls hls => ?_⟩
    have nlp : H lp = none := by rw [upd_ne (fun z => by rw [z, upd_same] at hlp; cases hlp)] at hlp; exact hlp
    have ndl : d ≠ lp := fun z => by rw [z, upd_same] at hd; cases hd
    have nd0 : d ≠ k0 := fun z => by
      rw [upd_ne ndl, z, upd_same] at hd
      cases hd
    have nd : H d = none := by
      rw [upd_ne ndl, upd_ne nd0] at hd
      exact hd
    have nk1d : k1 ≠ d := fun z => by rw [z, upd_same] at hk1; cases hk1
    have nlk1 : lp ≠ k1 := fun z => by
      rw [← z, upd_ne (Ne.symm ndl), upd_same] at hk1
      cases hk1
    have nk0l : k0 ≠ lp := fun z => by rw [← z, upd_same] at hlp; cases hlp
    have nk0k1 : k0 ≠ k1 := fun z => by
      rw [← z, upd_ne (Ne.symm nd0), upd_ne nk0l, upd_same] at hk1
      cases hk1
    have nk1H : H k1 = none := by
      rw [upd_ne nk1d, upd_ne (Ne.symm nlk1), upd_ne (Ne.symm nk0k1)] at hk1
      exact hk1
    -- all that was made
    generalize hHs : upd (upd (upd (upd (upd (upd H k0 (.tup [.int 0, .int 0])) lp (.lst [.ref k0])) d (.dT [])) k1 (.tup [.int 0, .int 0])) d (.dT [([nK 0, nK 0], nV 0)])) ls (.lst []) = Hs
    have nls : H ls = none := by
      have := hls
      rw [upd_ne (fun z => by rw [z, upd_same] at hls; cases hls)] at this
      rw [upd_ne (fun z => by rw [z, upd_ne nk1d, upd_same] at hls; cases hls)] at this
      rw [upd_ne (fun z => by rw [z, upd_same] at hls; cases hls)] at this
      rw [upd_ne (fun z => by rw [z, upd_ne (Ne.symm ndl), upd_ne nlk1, upd_ne (Ne.symm ndl), upd_same] at hls; cases hls)] at this
      rw [upd_ne (fun z => by rw [z, upd_ne (Ne.symm nd0), upd_ne nk0k1, upd_ne (Ne.symm nd0), upd_ne nk0l, upd_same] at hls; cases hls)] at this
      exact this
    have nlsl : ls ≠ lp := fun z => by rw [z, upd_ne (Ne.symm ndl), upd_ne nlk1, upd_ne (Ne.symm ndl), upd_same] at hls; cases hls
    have nlsd : ls ≠ d := fun z => by rw [z, upd_same] at hls; cases hls
    have nlsk : ls ≠ k0 := fun z => by rw [z, upd_ne (Ne.symm nd0), upd_ne nk0k1, upd_ne (Ne.symm nd0), upd_ne nk0l, upd_same] at hls; cases hls
    have sS : Same H Hs := by
      rw [← hHs]
      exact sm_upd (sm_upd (sm_upd (sm_upd (sm_upd (same_new hk0) nlp) nd) nk1H) nd) nls
    have dS : Disc key2 Hs lp d [(0, 0)] := by
      rw [← hHs]
      refine ⟨⟨[k0], by rw [upd_ne (Ne.symm nlsl), upd_ne (Ne.symm ndl), upd_ne nlk1, upd_ne (Ne.symm ndl), upd_same] <;> rfl, rfl, fun j a x e1 e2 => ?_⟩, by rw [upd_ne (Ne.symm nlsd), upd_same] <;> rfl⟩
      cases j with
      | zero =>
        cases e1
        cases e2
        rw [upd_ne (Ne.symm nlsk), upd_ne (Ne.symm nd0), upd_ne nk0k1, upd_ne (Ne.symm nd0), upd_ne nk0l, upd_same] <;> rfl
      | succ j => cases e1
    have rS : RowsL Hs ls [lp, d] [] := by
      rw [← hHs]
      exact ⟨[], by rw [upd_same] <;> rfl, rfl, fun j a row e1 => by cases e1⟩
    -- while len(steps) < len(pairs)
    refine ⟨fun m σ' H' => ∃ (o : List (Nat × Nat)) (i : Nat) (v6 v7 v8 v9 : Option V), σ' = [some (.ref p1), some (.ref p2), some (.str r.s), some (.ref lp), some (.ref d), some (.ref ls), v6, v7, v8, v9] ∧ LS.bfs (LS.pairNx TA TB) m o i = some oE ∧ LS.Cl (LS.pairNx TA TB) o i ∧ i ≤ o.length ∧
      Same H H' ∧ Disc key2 H' lp d o ∧ RowsL H' ls [lp, d] (LS.rowsOf (LS.pairNx TA TB) o i), ⟨_, [(0, 0)], 0, none, none, none, none, rfl, eO, LS.Cl.zero, by simp, sS, dS, rS⟩, ?_⟩
    rintro m σ' H1 ⟨o, i, v6, v7, v8, v9, rfl, eb, cl, hio, s1, d1, rw1⟩
    obtain ⟨tl, etl⟩ := LS.bfs_pre _ _ _ _ eb
    have oz : o.length ≤ 10000 := by
      have h1 : o.length ≤ oE.length := by rw [etl, List.length_append]; omega
      exact Nat.le_trans h1 (Nat.le_trans (LS.nodup_pairs hW.nd hlt) hz)
    have olt : ∀ x ∈ o, x.1 < TA.st.length ∧ x.2 < TB.st.length := fun x hx => hlt x (by rw [etl]; exact List.mem_append_left _ hx)
    obtain ⟨ps, q1, q2, q3⟩ := id d1.ex
    obtain ⟨rws, q4, q5, q6⟩ := id rw1.ex
    have eri : rws.length = i := by rw [q5, LS.rows_len hio]
    refine ⟨_, rfl, _, i, rfl, .inl ⟨_, SqL.of q4, by simp [eri]⟩, _, rfl, _, o.length, rfl, .inl ⟨_, SqL.of q1, by simp [q2]⟩, _, _, rfl, rfl, _, rfl, ?_⟩
    by_cases hi : i < o.length
    · rw [decide_eq_true (show (i : Int) < (o.length : Int) by omega)]
      refine iteT ?_
      have eo : o[i]? = some o[i] := List.getElem?_eq_getElem hi
      obtain ⟨g, hg, eb'⟩ := LS.bfs_turn eb eo
      generalize hx : o[i] = x at eo eb'
      have hxo : x ∈ o := List.mem_of_getElem? eo
      obtain ⟨hx1, hx2⟩ := olt x hxo
      refine ⟨fun σ2 H2 => ∃ (o : List (Nat × Nat)) (v6 v7 v8 v9 : Option V), σ2 = [some (.ref p1), some (.ref p2), some (.str r.s), some (.ref lp), some (.ref d), some (.ref ls), v6, v7, v8, v9] ∧ LS.bfs (LS.pairNx TA TB) g o (i + 1) = some oE ∧ LS.Cl (LS.pairNx TA TB) o (i + 1) ∧ i + 1 ≤ o.length ∧
        Same H H2 ∧ Disc key2 H2 lp d o ∧ RowsL H2 ls [lp, d] (LS.rowsOf (LS.pairNx TA TB) o (i + 1)), fun σ2 H2 ⟨o, v6, v7, v8, v9, e1, e2⟩ => ⟨g, hg, o, i + 1, v6, v7, v8, v9, e1, e2⟩, ?_⟩
      have epi : ps[i]? = some ps[i] := List.getElem?_eq_getElem (by rw [q2]; exact hi)
      -- mine, others = pairs[len(steps)]
      refine ⟨_, rfl, _, rfl, _, i, rfl, .inl ⟨_, SqL.of q4, by simp [eri]⟩, lp, _, _, _, rfl, rfl, SqL.of q1, atI_nat (map_at V.ref epi), ?_⟩
      refine ⟨ps[i], _, rfl, SqT.of (q3 i _ _ epi eo), rfl, _, _, rfl, _, _, rfl, rfl, ?_⟩
      -- row = []
      refine ⟨Nat.zero_le _, fun rw nrw => ?_⟩
      have erA : rsA[x.1]? = some rsA[x.1] := List.getElem?_eq_getElem (by rw [hrlA]; exact hx1)
      have esA : TA.st[x.1]? = some (TA.nx x.1) := by unfold LS.Tb.nx; rw [LS.getD_at hx1]; exact List.getElem?_eq_getElem hx1
      have erB : rsB[x.2]? = some rsB[x.2] := List.getElem?_eq_getElem (by rw [hrlB]; exact hx2)
      have esB : TB.st[x.2]? = some (TB.nx x.2) := by unfold LS.Tb.nx; rw [LS.getD_at hx2]; exact List.getElem?_eq_getElem hx2
      have s1r : Same H (upd H1 rw (.lst [])) := sm_trans s1 (same_new nrw)
      have nrwH : H rw = none := s1.free nrw
      have nrl : rw ≠ lp := Ne.symm (ne_of_none q1 nrw)
      have nrd : rw ≠ d := Ne.symm (ne_of_none d1.dict nrw)
      have nrls : rw ≠ ls := Ne.symm (ne_of_none q4 nrw)
      refine ⟨_, rfl, p1, _, _, _, rfl, rfl, SqT.of (s1r _ _ ep1), rfl, _, rfl, rIx_seq (.inr (SqT.of (s1r _ _ hrsA))) (map_at V.ref erA) ?_⟩
      refine ⟨_, rfl, p2, _, _, _, rfl, rfl, SqT.of (s1r _ _ ep2), rfl, _, rfl, rIx_seq (.inr (SqT.of (s1r _ _ hrsB))) (map_at V.ref erB) ?_⟩
      refine ⟨.tup rsA[x.1], .tup rsB[x.2], _, _, rfl, SqT.of (s1r _ _ (hrowA _ _ _ erA esA)), SqT.of (s1r _ _ (hrowB _ _ _ erB esB)), ?_⟩
      have hnl : (LS.pairNx TA TB x).length = kk := by unfold LS.pairNx; rw [List.length_zip, hA.nx_len hx1, hB.nx_len hx2, Nat.min_self]
      refine for_it (walk_zipS (K := K) (n := kk) (by rw [List.length_map, List.length_map, hA.nx_len hx1, hB.nx_len hx2, Nat.min_self])) (fun j σ3 H3 => ∃ (v9 : Option V), σ3 = [some (.ref p1), some (.ref p2), some (.str r.s), some (.ref lp), some (.ref d), some (.ref ls), some (nV x.1), some (nV x.2), some (.ref rw), v9] ∧
        SameX [lp, d, rw] H1 H3 ∧ Disc key2 H3 lp d (LS.addNew o ((LS.pairNx TA TB x).take j)) ∧ H3 rw = some (.lst ((((LS.pairNx TA TB x).take j).map fun y => LS.ixOf (LS.addNew o ((LS.pairNx TA TB x).take j)) y).map nV)))
        ⟨v9, rfl, SameX.refl.put (by simp), d1.keep (ex := [rw]) (SameX.refl.put (by simp)) (by simpa using Ne.symm nrl) (by simpa using Ne.symm nrd) (fun b hb xs e => by rw [List.mem_singleton] at hb; rw [hb, nrw] at e; cases e), by rw [upd_same] <;> rfl⟩
        (fun j σ3 H3 _ ⟨_, _, sx, _⟩ => ⟨SqT.of (sx.same s1 (by simp [nlp, nd, nrwH]) _ _ (hrowA _ _ _ erA esA)), SqT.of (sx.same s1 (by simp [nlp, nd, nrwH]) _ _ (hrowB _ _ _ erB esB))⟩) ?_ ?_
      · rintro j pr σ3 H3 H4 hj ⟨w9, rfl, sx, dd, er⟩ ⟨t, a, b, rfl, nt, rfl, ea, eb2⟩
        obtain ⟨ya, eya, rfl⟩ := of_map_at ea
        obtain ⟨yb, eyb, rfl⟩ := of_map_at eb2
        have ey : (LS.pairNx TA TB x)[j]? = some (ya, yb) := by
          unfold LS.pairNx
          rw [List.getElem?_zip_eq_some]
          exact ⟨eya, eyb⟩
        have et1 := take_snoc ey
        have eA := LS.addNew_snoc ((LS.pairNx TA TB x).take j) o (ya, yb)
        rw [← et1] at eA
        have s34 : Same H3 (upd H3 t (.tup [nV ya, nV yb])) := same_new nt
        have kt : (upd H3 t (.tup [nV ya, nV yb])) t = some (.tup ((key2 (ya, yb)).map kV)) := upd_same
        have dd4 := dd.same s34
        have hlo : (LS.addNew o ((LS.pairNx TA TB x).take j)).length ≤ 20000 := by
          obtain ⟨t2, e2⟩ := LS.bfs_pre _ _ _ _ eb'
          have h1 : (LS.addNew o (LS.pairNx TA TB x)).length ≤ 10000 := by
            have h1 : (LS.addNew o (LS.pairNx TA TB x)).length ≤ oE.length := by rw [e2, List.length_append]; omega
            exact Nat.le_trans h1 (Nat.le_trans (LS.nodup_pairs hW.nd hlt) hz)
          have h2 : LS.addNew o (LS.pairNx TA TB x) = LS.addNew (LS.addNew o ((LS.pairNx TA TB x).take j)) ((LS.pairNx TA TB x).drop j) := by rw [← LS.addNew_app, List.take_append_drop]
          obtain ⟨t3, e3⟩ := LS.addNew_pre ((LS.pairNx TA TB x).drop j) (LS.addNew o ((LS.pairNx TA TB x).take j))
          rw [h2, e3, List.length_append] at h1
          omega
        have hjk : j < 1000 := Nat.lt_of_lt_of_le hj hk
        refine ⟨_, rfl, _, rfl, d, _, rfl, dd4.get key2_inj kt, _, rfl, ?_⟩
        by_cases hm : (ya, yb) ∈ LS.addNew o ((LS.pairNx TA TB x).take j)
        · rw [if_pos hm] at eA ⊢
          refine iteF ?_
          have er4 := s34 _ _ er
          refine ⟨_, rfl, .inl ⟨rfl, _, SqL.of er4⟩, ?_⟩
          refine ⟨_, rfl, _, rfl, d, _, rfl, by have := dd4.get key2_inj kt; rw [if_pos hm] at this; exact this, _, _, _, rfl, rfl, er4, by simp only [List.length_map, List.length_take]; exact small5 (by omega), ?_⟩
          refine ⟨_, rfl, (sx.then s34).put (by simp), ?_, ?_⟩
          · rw [eA]
            exact dd4.keep (ex := [rw]) (SameX.refl.put (by simp)) (by simpa using Ne.symm nrl) (by simpa using Ne.symm nrd) (fun b hb xs e => by rw [List.mem_singleton] at hb; rw [hb, er4] at e; cases e)
          · rw [upd_same, eA, et1, List.map_append, List.map_append] <;> rfl
        · rw [if_neg hm] at eA ⊢
          refine iteT ?_
          obtain ⟨qs, u1, u2, u3⟩ := dd4.push key2_inj hm kt
          obtain ⟨qs0, w1, w2, _⟩ := id dd4.ex
          have er4 := s34 _ _ er
          generalize hO : LS.addNew o ((LS.pairNx TA TB x).take j) = oj at *
          refine ⟨_, rfl, _, oj.length, rfl, .inl ⟨_, SqL.of w1, by simp [w2]⟩, _, rfl, _, rfl, d, _, rfl, DPut.t dd4.dict kt (by unfold numT; rw [List.length_map]; exact small5 (by omega)), ?_⟩
          refine ⟨_, rfl, .inl ⟨rfl, _, SqL.of u1⟩, _, rfl, _, _, _, rfl, rfl, u1, by rw [List.length_map]; exact small5 (by omega), ?_⟩
          generalize hH5 : upd (upd (upd H3 t (.tup [nV ya, nV yb])) d (.dT (putK (numT key2 oj) (key2 (ya, yb)) (nV oj.length)))) lp (.lst (qs.map V.ref ++ [.ref t])) = H5 at u3 ⊢
          have sx5 : SameX [lp, d, rw] H1 H5 := by
            rw [← hH5]
            exact ((sx.then s34).put (by simp)).put (by simp)
          have er5 : H5 rw = some (.lst ((((LS.pairNx TA TB x).take j).map fun y => LS.ixOf oj y).map nV)) := by
            rw [← hH5, upd_ne nrl, upd_ne nrd]
            exact er4
          have kt5 : H5 t = some (.tup ((key2 (ya, yb)).map kV)) := by
            rw [← hH5, upd_ne (ne_of kt w1 (fun z => by cases z)), upd_ne (ne_of kt dd4.dict (fun z => by cases z))]
            exact kt
          have hin : (ya, yb) ∈ oj ++ [(ya, yb)] := by simp
          refine ⟨_, rfl, .inl ⟨rfl, _, SqL.of er5⟩, ?_⟩
          refine ⟨_, rfl, _, rfl, d, _, rfl, by have := u3.get key2_inj kt5; rw [if_pos hin] at this; exact this, _, _, _, rfl, rfl, er5, by simp only [List.length_map, List.length_take]; exact small5 (by omega), ?_⟩
          refine ⟨_, rfl, sx5.put (by simp), ?_, ?_⟩
          · rw [eA]
            exact u3.keep (ex := [rw]) (SameX.refl.put (by simp)) (by simpa using Ne.symm nrl) (by simpa using Ne.symm nrd) (fun b hb xs e => by rw [List.mem_singleton] at hb; rw [hb, er5] at e; cases e)
          · rw [upd_same, eA, et1, List.map_append, List.map_append]
            rw [LS.ix_grow fun y hy => by rw [← hO]; exact (LS.mem_addNew _ _ _).mpr (.inr hy)]
            rfl
      · rintro σ3 H3 ⟨w9, rfl, sx, dd, er⟩
        have et : (LS.pairNx TA TB x).take kk = LS.pairNx TA TB x := by rw [← hnl]; exact List.take_length
        rw [et] at dd er
        have rw3 : RowsL H3 ls [lp, d] (LS.rowsOf (LS.pairNx TA TB) o i) := rw1.keep sx (by simp [Ne.symm nrls, nlsl, nlsd]) (by simp [nrw])
        obtain ⟨rr, z1, z2, z3⟩ := rw3.push er (by simp [nrl, nrd]) nrls
        -- steps.append(row)
        refine ⟨_, rfl, .inl ⟨rfl, _, SqL.of z1⟩, _, rfl, _, _, _, rfl, rfl, z1, by rw [List.length_map, z2, LS.rows_len hio]; exact small5 (by omega), ?_⟩
        have cl' := cl.next eo
        obtain ⟨t2, e2⟩ := LS.addNew_pre (LS.pairNx TA TB x) o
        refine ⟨LS.addNew o (LS.pairNx TA TB x), _, _, _, _, rfl, eb', cl', by rw [e2, List.length_append]; omega, sm_upd (sx.same s1 (by simp [nlp, nd, nrwH])) nls, ?_, ?_⟩
        · exact dd.keep (ex := [ls]) (SameX.refl.put (by simp)) (by simpa using Ne.symm nlsl) (by simpa using Ne.symm nlsd) (fun b hb xs e => by rw [List.mem_singleton] at hb; rw [hb, z1] at e; cases e)
        · rw [LS.rows_next cl eo]
          exact z3
    · rw [decide_eq_false (show ¬ (i : Int) < (o.length : Int) by omega)]
      refine iteF ?_
      have e := LS.bfs_end eb (by omega)
      subst e
      have ei : i = oE.length := by omega
      subst ei
      -- return (steps, [both_told(rule, one[1][mine], other[1][others]) for mine, others in pairs])
      refine ⟨_, rfl, _, rfl, lp, rfl, ⟨_, SqL.of q1⟩, fun D nD => lc_it (walk_list (K := K) (a := lp) (xs := ps.map V.ref)) (LcPv (RMap fun j => V.bl (LS.pairOk r.f TA TB (oE.getD j (0, 0)))) H1 D) (pv_start nD rfl) (fun j H' _ p => SqL.of (pv_same p _ _ q1)) ?_ ?_⟩
      · rintro j v _ H3 hj ⟨acc, eD, hl, sm, r'⟩ ⟨rfl, ev⟩
        obtain ⟨a, ea, rfl⟩ := of_map_at ev
        have hj' : j < oE.length := by rw [List.length_map, q2] at hj; exact hj
        have eo : oE[j]? = some oE[j] := List.getElem?_eq_getElem hj'
        have eg : oE.getD j (0, 0) = oE[j] := LS.getD_at hj'
        obtain ⟨h1, h2⟩ := hlt _ (List.getElem_mem hj')
        have s13 : Same H1 H3 := sm_trans sm hid_sub
        have s3 := sm_trans s1 s13
        have etA : TA.to[oE[j].1]? = some (TA.acc oE[j].1) := by
          have hq : oE[j].1 < TA.to.length := by rw [hA.len]; exact h1
          unfold LS.Tb.acc
          rw [LS.getD_at hq]
          exact List.getElem?_eq_getElem hq
        have etB : TB.to[oE[j].2]? = some (TB.acc oE[j].2) := by
          have hq : oE[j].2 < TB.to.length := by rw [hB.len]; exact h2
          unfold LS.Tb.acc
          rw [LS.getD_at hq]
          exact List.getElem?_eq_getElem hq
        refine ⟨a, _, rfl, SqT.of (s13 _ _ (q3 j _ _ ea eo)), rfl, _, _, rfl, _, _, rfl, rfl, rfl, ?_⟩
        refine ⟨_, rfl, _, rfl, p1, _, _, _, rfl, rfl, SqT.of (s3 _ _ ep1), rfl, _, rfl, rIx_seq (.inr (SqT.of (s3 _ _ et1))) (map_at V.bl etA) ?_⟩
        refine ⟨_, rfl, p2, _, _, _, rfl, rfl, SqT.of (s3 _ _ ep2), rfl, _, rfl, rIx_seq (.inr (SqT.of (s3 _ _ et2))) (map_at V.bl etB) ?_⟩
        refine ⟨r, _, _, rfl, pv_push eD hl sm (Same.refl _) (by omega) (rmap_push r' (by rw [eg] <;> rfl))⟩
      rintro H3 ⟨acc, eD, hl, sm, r'⟩
      have s13 : Same H1 H3 := sm_trans sm hid_sub
      refine ⟨by show 2 ≤ sizeLine; decide, fun p np => ?_⟩
      have s34 := same_new (o := HO.tup [V.ref ls, V.ref D]) np
      have e2 : acc = (LS.tabOf (LS.pairNx TA TB) (LS.pairOk r.f TA TB) oE).to.map V.bl := by
        have : acc = (List.range ((ps.map V.ref).length)).map fun j => V.bl (LS.pairOk r.f TA TB (oE.getD j (0, 0))) := r'
        rw [this, List.length_map, q2]
        unfold LS.tabOf
        rw [List.map_map]
        exact map_range_getD oE (0, 0) fun q => V.bl (LS.pairOk r.f TA TB q)
      have hpos : 0 < oE.length := (List.getElem?_eq_some_iff.mp h0).1
      have tok := hW.tab_ok (ok := LS.pairOk r.f TA TB) hpos
      have lng := fun w hw => LS.pair_lang (f := r.f) hA hB hW h0 (w := w) hw
      have elen : (LS.tabOf (LS.pairNx TA TB) (LS.pairOk r.f TA TB) oE).st.length = oE.length := by simp [LS.tabOf]
      refine k (LS.tabOf (LS.pairNx TA TB) (LS.pairOk r.f TA TB) oE) p ls D _ tok lng ?_ (by rw [elen]; exact LS.nodup_pairs hW.nd hlt) (sm_trans s1 (sm_trans s13 s34)) upd_same ?_ ?_
      · exact LS.pair_rch hA hB hW h0 hre
      · have q := (RowsL.at (K := K) rw1).same (sm_trans s13 s34)
        rw [LS.rows_all _ (LS.pairOk r.f TA TB)] at q
        exact q
      · rw [← e2]
        exact .inl (SqL.of (s34 _ _ eD))
end
end LW
end
section
set_option Elab.async false
set_option linter.all false
set_option maxRecDepth 100000
namespace LW
open PySem L2
abbrev st_mirrored : Stmt := top 8
theorem sc_mirrored : FnScope ["steps", "told", "most", "some", "number", "rows", "row", "at", "ahead", "ends", "state"] ["steps", "told", "most"] (defScope st_mirrored) := ⟨rfl, rfl, rfl, by decide +kernel, rfl, by decide +kernel, by decide +kernel⟩
def keyL (x : List Nat) : List Key := x.map nK
theorem keyL_inj (x y : List Nat) (h : keyL x = keyL y) : x = y := by
  induction x generalizing y with
  | nil => cases y with
    | nil => rfl
    | cons b y => cases h
  | cons a x ih => cases y with
    | nil => cases h
    | cons b y =>
      injection h with h1 h2
      rw [nK_inj _ _ h1, ih y h2]
theorem keyL_kV (x : List Nat) : (keyL x).map kV = x.map nV := by unfold keyL; rw [List.map_map] <;> rfl
def RFilt (f : Nat → Bool) : Nat → List V → Hp → Prop := fun i acc _ => acc = ((List.range i).filter f).map nV
theorem rfilt_push {f : Nat → Bool} {i : Nat} {acc : List V} {H H' : Hp} (r : RFilt f i acc H) (e : f i = true) : RFilt f (i + 1) (acc ++ [nV i]) H' := by
  unfold RFilt at r ⊢
  rw [List.range_succ, List.filter_append, List.map_append, r, List.filter_cons_of_pos e] <;> rfl
theorem rfilt_skip {f : Nat → Bool} {i : Nat} {acc : List V} {H H' : Hp} (r : RFilt f i acc H) (e : f i = false) : RFilt f (i + 1) acc H' := by
  unfold RFilt at r ⊢
  rw [List.range_succ, List.filter_append, List.map_append, r, List.filter_cons_of_neg (by rw [e]; decide)] <;> simp
theorem inV_nat (v : Nat) : ∀ S : List Nat, inV (nV v) (S.map nV) = decide (v ∈ S)
  | [] => rfl
  | x :: S => by
    have ih := inV_nat v S
    unfold inV at ih ⊢
    rw [List.map_cons, List.any_cons, ih]
    have e : eqV (nV x) (nV v) = decide (x = v) := by
      show ((x : Int) == (v : Int)) = _
      by_cases h : x = v
      · subst h; simp
      · rw [decide_eq_false h, beq_eq_false_iff_ne]
        omega
    rw [e]
    by_cases h : x = v
    · subst h; simp
    · by_cases h2 : v ∈ S
      · simp [h2]
      · simp [h, h2, Ne.symm h]
theorem flat_nats (S : List Nat) : (S.map nV).all flatV = true := by
  rw [List.all_map]
  exact List.all_eq_true.mpr fun _ _ => rfl
def spMirrored (K : PySem.W.Frag) : Sp := fun vs H Q _ => ∃ (r1 t1 : Addr) (A D : LS.Tb) (k most : Nat), vs = [.ref r1, .ref t1, nV most] ∧ RowsT H r1 A.st ∧ H t1 = some (.tup (A.to.map V.bl)) ∧ A.Ok k ∧ LS.Rch k A ∧ k ≤ 1000 ∧ A.st.length ≤ 1000 ∧
  D.Ok k ∧ (∀ w, LS.Wd k w → D.lang w = A.lang w.reverse) ∧ D.st.length ≤ most ∧ most ≤ 1000 ∧
  ∀ (T' : LS.Tb) p rr tt H', T'.Ok k → (∀ w, LS.Wd k w → T'.lang w = A.lang w.reverse) → T'.st.length ≤ most → Same H H' → H' p = some (.tup [.ref rr, .ref tt]) → RowsAt K H' rr T'.st → SqA K H' tt (T'.to.map V.bl) → Q (.ref p) H'
section
variable {P : Program} {w : World} {K : PySem.W.Frag} {mg : Str → Option Value} {base : Heap}
theorem c_mirrored (T : Txt K mg) : Cal P w K mg base "mirrored" 1 ["steps", "told", "most"] (spMirrored K) := by
  refine FunG.cal T.f_mirrored sc_mirrored (fun _ _ _ _ _ _ us hl => match us, hl with | [_, _, _], _ => rfl) (fun vs H Q E h => ?_) (fun f cdv A outer s H vs Q E hr h => ?_)
  · obtain ⟨r1, t1, A, D, k, most, rfl, _⟩ := h
    rfl
  · obtain ⟨r1, t1, TA, TD, kk, most, rfl, hR, et, hA, hre, hk, hz, hD, hDl, hDm, hm, k⟩ := h
    have hu := hr.units
    have hu1 := hu_of hr
    obtain ⟨oE, eO, hoz, hW, h0, hml⟩ := LS.mir_spec hA hre hD hDl
    obtain ⟨rsA, hrs, hrl, hrow⟩ := id hR
--TERM mirrored
    refine ⟨_, (pss_cons (ps_set (i := 3) sc_mirrored.nd rfl (Or.inr rfl) (pe_lst (pa_cons (pe_callTy (call_tupleK K) (by rfl) T.b_tuple bt_tuple (pa_cons (pe_lc (own := [("state", 10)]) rfl sc_mirrored.nd (pi_range1 rfl T.b_range (pa_cons (pe_callB (call_lenK K) (by rfl) T.b_len PySem.boot_len (pa_cons (pv 0) pa_nil)) pa_nil)) (blkOk_by (own := [("state", 10)]) (by kernel_rfl)) (fun _ _ _ _ _ => (pg_name (i := 10) sc_mirrored.nd rfl (Or.inl rfl))) (fun _ _ _ _ _ => (pts_one (pt_val (pe_ix (ix_seqK K) (pv 1) (pv 10) (fun _ _ => rfl))))) (fun _ _ _ _ _ => (pv 10))) pa_nil)) pa_nil)))
  (pss_cons (ps_set (i := 4) sc_mirrored.nd rfl (Or.inl rfl) (pe_dispT hu (pps_cons (pe_ix (ix_listK K) (pv 3) pe_int (fun _ _ => rfl)) pe_int pps_nil) (by rfl) (by rfl) (fun z => by cases z) (by decide)))
  (pss_cons (ps_set (i := 5) sc_mirrored.nd rfl (Or.inr rfl) (pe_lst pa_nil))
  (pss_cons (ps_while PassesOwn.never (pt_cmpR op_lt (pe_callB (call_lenK K) (by rfl) T.b_len PySem.boot_len (pa_cons (pv 5) pa_nil)) (pe_callB (call_lenK K) (by rfl) T.b_len PySem.boot_len (pa_cons (pv 3) pa_nil)) (nomark _))
  (pss_cons (ps_set (i := 6) sc_mirrored.nd rfl (Or.inl rfl) (pe_lst pa_nil))
  (pss_cons (ps_for PassesOwn.never rfl (pi_range1 rfl T.b_range (pa_cons (pe_callB (call_lenK K) (by rfl) T.b_len PySem.boot_len (pa_cons (pe_ix (ix_seqK K) (pv 0) pe_int (fun _ _ => rfl)) pa_nil)) pa_nil)) (pg_name (i := 7) sc_mirrored.nd rfl (Or.inr rfl))
  (pss_cons (ps_set (i := 8) sc_mirrored.nd rfl (Or.inl rfl) (pe_callTy (call_tupleK K) (by rfl) T.b_tuple bt_tuple (pa_cons (pe_lc (own := [("state", 10)]) rfl sc_mirrored.nd (pi_range1 rfl T.b_range (pa_cons (pe_callB (call_lenK K) (by rfl) T.b_len PySem.boot_len (pa_cons (pv 0) pa_nil)) pa_nil)) (blkOk_by (own := [("state", 10)]) (by kernel_rfl)) (fun _ _ _ _ _ => (pg_name (i := 10) sc_mirrored.nd rfl (Or.inl rfl))) (fun _ _ _ _ _ => (pts_one (pt_cmpR (op_in_seqK K) (pe_ix (ix_seqK K) (pe_ix (ix_seqK K) (pv 0) (pv 10) (fun _ _ => rfl)) (pv 7) (fun _ _ => rfl)) (pe_ix (ix_listK K) (pv 3) (pe_callB (call_lenK K) (by rfl) T.b_len PySem.boot_len (pa_cons (pv 5) pa_nil)) (fun _ _ => rfl)) (by rfl)))) (fun _ _ _ _ _ => (pv 10))) pa_nil)))
  (pss_cons (ps_if (pt_cmp (pc_dnotin hu1 (pv 8) (pv 4))) (pss_cons (ps_dput hu1 (pv 4) (pv 8) (pe_callB (call_lenK K) (by rfl) T.b_len PySem.boot_len (pa_cons (pv 3) pa_nil)) rfl)
  (pss_one (ps_expr (pe_bmK K PySem.F.plainAttrs_list PySem.F.slot_list_append PySem.F.type_list_append mt_append (pv 3) (pa_cons (pv 8) pa_nil)))))
  pss_nil)
  (pss_one (ps_expr (pe_bmK K PySem.F.plainAttrs_list PySem.F.slot_list_append PySem.F.type_list_append mt_append (pv 6) (pa_cons (pe_dget hu1 (pv 4) (pv 8) (fun _ _ => rfl)) pa_nil)))))))
  (pss_cons (ps_expr (pe_bmK K PySem.F.plainAttrs_list PySem.F.slot_list_append PySem.F.type_list_append mt_append (pv 5) (pa_cons (pv 6) pa_nil)))
  (pss_one (ps_if (pt_cmpR op_gt (pe_callB (call_lenK K) (by rfl) T.b_len PySem.boot_len (pa_cons (pv 3) pa_nil)) (pv 2) (nomark _)) (pss_one (ps_ret pe_non))
  pss_nil))))))
  (pss_one (ps_ret (pe_tup (pa_cons (pv 5) (pa_cons (pe_lc (own := [("ends", 9)]) rfl sc_mirrored.nd (pi_listK K (pv 3)) (blkOk_by (own := [("ends", 9)]) (by kernel_rfl)) (fun _ _ _ _ _ => (pg_name (i := 9) sc_mirrored.nd rfl (Or.inl rfl))) (fun _ _ _ _ _ => pts_nil) (fun _ _ _ _ _ => (pe_cmpR (op_in_seqK K) pe_int (pv 9) (by rfl)))) pa_nil))))))))), ?_⟩
--END
    have hpos := hA.pos
    -- some = [tuple([state for state in range(len(steps)) if told[state]])]
    refine ⟨_, rfl, _, TA.st.length, rfl, .inr ⟨_, SqT.of hrs, by simp [hrl]⟩, _, rfl, by omega, by omega, fun D0 nD0 => lc_it (walk_range (lo := 0) (n := TA.st.length)) (LcPv (RFilt fun q => TA.acc q) H D0) (pv_start nD0 rfl) (fun _ _ _ _ => True.intro) ?_ ?_⟩
    · rintro i x H3 H4 hi ⟨acc, eD, hl, sm, r⟩ ⟨rfl, ex⟩
      have ex : x = nV i := by rw [ex]; simp
      subst ex
      have s3 : Same H H4 := sm_trans sm hid_sub
      have etq : TA.to[i]? = some (TA.acc i) := by
        have hq : i < TA.to.length := by rw [hA.len]; exact hi
        unfold LS.Tb.acc
        rw [LS.getD_at hq]
        exact List.getElem?_eq_getElem hq
      refine ⟨rfl, _, rfl, _, rfl, rIx_seq (.inr (SqT.of (s3 _ _ et))) (map_at V.bl etq) ?_⟩
      cases hq : TA.acc i with
      | true => exact ⟨true, rfl, iteT ⟨_, rfl, pv_push eD hl sm (Same.refl _) (by omega) (rfilt_push r hq)⟩⟩
      | false => exact ⟨false, rfl, iteF (pv_skip eD hl sm (Same.refl _) (rfilt_skip r hq))⟩
    rintro H1 ⟨acc, eD, hl, sm, r⟩
    have e0 : acc = (LS.mirStart TA).map nV := r
    subst e0
    have s01 : Same H H1 := sm_trans sm hid_sub
    refine ⟨D0, _, rfl, .inl ⟨SqL.of eD, fun t0 n0 => ?_⟩⟩
    refine ⟨by show 1 ≤ sizeLine; decide, fun lp hlp => ?_⟩
    intro d hd
    have nlt : lp ≠ t0 := fun z => by rw [z, upd_same] at hlp; cases hlp
    have nlp1 : H1 lp = none := by rw [upd_ne nlt] at hlp; exact hlp
    have ndl : d ≠ lp := fun z => by rw [z, upd_same] at hd; cases hd
    have ndt : d ≠ t0 := fun z => by rw [z, upd_ne (Ne.symm nlt), upd_same] at hd; cases hd
    have nd1 : H1 d = none := by rw [upd_ne ndl, upd_ne ndt] at hd; exact hd
    refine ⟨_, rfl, lp, _, _, _, rfl, rfl, SqL.of (by rw [upd_ne (Ne.symm ndl), upd_same]), rfl, ?_⟩
    have et0 : (upd (upd (upd H1 t0 (.tup ((LS.mirStart TA).map nV))) lp (.lst [.ref t0])) d (.dT [])) t0 = some (.tup ((keyL (LS.mirStart TA)).map kV)) := by
      rw [upd_ne (Ne.symm ndt), upd_ne (Ne.symm nlt), upd_same, keyL_kV]
    refine ⟨upd_same, t0, keyL (LS.mirStart TA), nV 0, rfl, et0, ?_⟩
    refine ⟨Nat.zero_le _, fun ls hls => ?_⟩
    have nlsd : ls ≠ d := fun z => by rw [z, upd_same] at hls; cases hls
    have nlsl : ls ≠ lp := fun z => by rw [z, upd_ne (Ne.symm ndl), upd_ne (Ne.symm ndl), upd_same] at hls; cases hls
    have nlst : ls ≠ t0 := fun z => by rw [z, upd_ne (Ne.symm ndt), et0] at hls; cases hls
    have nls1 : H1 ls = none := by
      rw [upd_ne nlsd, upd_ne nlsd, upd_ne nlsl, upd_ne nlst] at hls
      exact hls
    have nlp : H lp = none := s01.free nlp1
    have nd : H d = none := s01.free nd1
    have nls : H ls = none := s01.free nls1
    generalize hHs : upd (upd (upd (upd (upd H1 t0 (.tup ((LS.mirStart TA).map nV))) lp (.lst [.ref t0])) d (.dT [])) d (.dT [(keyL (LS.mirStart TA), nV 0)])) ls (.lst []) = Hs
    have sS : Same H Hs := by
      rw [← hHs]
      exact sm_upd (sm_upd (sm_upd (sm_upd (sm_upd s01 (s01.free n0)) nlp) nd) nd) nls
    have dS : Disc keyL Hs lp d [LS.mirStart TA] := by
      rw [← hHs]
      refine ⟨⟨[t0], by rw [upd_ne (Ne.symm nlsl), upd_ne (Ne.symm ndl), upd_ne (Ne.symm ndl), upd_same] <;> rfl, rfl, fun j a x e1 e2 => ?_⟩, by rw [upd_ne (Ne.symm nlsd), upd_same]; unfold numT; simp⟩
      cases j with
      | zero =>
        cases e1
        cases e2
        rw [upd_ne (Ne.symm nlst), upd_ne (Ne.symm ndt)]
        exact et0
      | succ j => cases e1
    have rS : RowsL Hs ls [lp, d] [] := by
      rw [← hHs]
      exact ⟨[], by rw [upd_same] <;> rfl, rfl, fun j a row e1 => by cases e1⟩
    -- while len(rows) < len(some)
    refine ⟨fun m σ' H' => ∃ (o : List (List Nat)) (i : Nat) (v6 v7 v8 : Option V), σ' = [some (.ref r1), some (.ref t1), some (nV most), some (.ref lp), some (.ref d), some (.ref ls), v6, v7, v8, none, none] ∧ LS.bfs (LS.mirNx kk TA) m o i = some oE ∧ LS.Cl (LS.mirNx kk TA) o i ∧ i ≤ o.length ∧
      Same H H' ∧ Disc keyL H' lp d o ∧ RowsL H' ls [lp, d] (LS.rowsOf (LS.mirNx kk TA) o i), ⟨_, [LS.mirStart TA], 0, none, none, none, rfl, eO, LS.Cl.zero, by simp, sS, dS, rS⟩, ?_⟩
    rintro m σ' H2 ⟨o, i, v6, v7, v8, rfl, eb, cl, hio, s1, d1, rw1⟩
    obtain ⟨tl, etl⟩ := LS.bfs_pre _ _ _ _ eb
    have oz : o.length ≤ 1000 := by
      have h1 : o.length ≤ oE.length := by rw [etl, List.length_append]; omega
      omega
    obtain ⟨ps, q1, q2, q3⟩ := id d1.ex
    obtain ⟨rws, q4, q5, q6⟩ := id rw1.ex
    have eri : rws.length = i := by rw [q5, LS.rows_len hio]
    refine ⟨_, rfl, _, i, rfl, .inl ⟨_, SqL.of q4, by simp [eri]⟩, _, rfl, _, o.length, rfl, .inl ⟨_, SqL.of q1, by simp [q2]⟩, _, _, rfl, rfl, _, rfl, ?_⟩
    by_cases hi : i < o.length
    · rw [decide_eq_true (show (i : Int) < (o.length : Int) by omega)]
      refine iteT ?_
      have eo : o[i]? = some o[i] := List.getElem?_eq_getElem hi
      obtain ⟨g, hg, eb'⟩ := LS.bfs_turn eb eo
      generalize hx : o[i] = x at eo eb'
      have epi : ps[i]? = some ps[i] := List.getElem?_eq_getElem (by rw [q2]; exact hi)
      have epx := q3 i _ _ epi eo
      rw [keyL_kV] at epx
      refine ⟨fun σ2 H2 => ∃ (o : List (List Nat)) (v6 v7 v8 : Option V), σ2 = [some (.ref r1), some (.ref t1), some (nV most), some (.ref lp), some (.ref d), some (.ref ls), v6, v7, v8, none, none] ∧ LS.bfs (LS.mirNx kk TA) g o (i + 1) = some oE ∧ LS.Cl (LS.mirNx kk TA) o (i + 1) ∧ i + 1 ≤ o.length ∧
        Same H H2 ∧ Disc keyL H2 lp d o ∧ RowsL H2 ls [lp, d] (LS.rowsOf (LS.mirNx kk TA) o (i + 1)), fun σ2 H2 ⟨o, v6, v7, v8, e1, e2⟩ => ⟨g, hg, o, i + 1, v6, v7, v8, e1, e2⟩, ?_⟩
      -- row = []
      refine ⟨Nat.zero_le _, fun rw nrw => ?_⟩
      have s1r : Same H (upd H2 rw (.lst [])) := sm_trans s1 (same_new nrw)
      have nrwH : H rw = none := s1.free nrw
      have nrl : rw ≠ lp := Ne.symm (ne_of_none q1 nrw)
      have nrd : rw ≠ d := Ne.symm (ne_of_none d1.dict nrw)
      have nrls : rw ≠ ls := Ne.symm (ne_of_none q4 nrw)
      have hnl : (LS.mirNx kk TA x).length = kk := by unfold LS.mirNx; rw [List.length_map, List.length_range]
      have er0 : rsA[0]? = some (rsA[0]'(by omega)) := List.getElem?_eq_getElem (by omega)
      have es0 : TA.st[0]? = some (TA.nx 0) := by unfold LS.Tb.nx; rw [LS.getD_at hA.pos]; exact List.getElem?_eq_getElem hA.pos
      -- for at in range(len(steps[0]))
      refine ⟨_, rfl, rIx_seq (j := 0) (.inr (SqT.of (s1r _ _ hrs))) (map_at V.ref er0) ⟨_, kk, rfl, .inr ⟨_, SqT.of (s1r _ _ (hrow _ _ _ er0 es0)), by rw [List.length_map, hA.nx_len hA.pos]⟩, _, rfl, by omega, by omega, ?_⟩⟩
      refine for_it (walk_range (lo := 0) (n := kk)) (fun j σ3 H3 => ∃ (v7 v8 : Option V), σ3 = [some (.ref r1), some (.ref t1), some (nV most), some (.ref lp), some (.ref d), some (.ref ls), some (.ref rw), v7, v8, none, none] ∧
        SameX [lp, d, rw] H2 H3 ∧ Disc keyL H3 lp d (LS.addNew o ((LS.mirNx kk TA x).take j)) ∧ H3 rw = some (.lst ((((LS.mirNx kk TA x).take j).map fun y => LS.ixOf (LS.addNew o ((LS.mirNx kk TA x).take j)) y).map nV)))
        ⟨v7, v8, rfl, SameX.refl.put (by simp), d1.keep (ex := [rw]) (SameX.refl.put (by simp)) (by simpa using Ne.symm nrl) (by simpa using Ne.symm nrd) (fun b hb xs e => by rw [List.mem_singleton] at hb; rw [hb, nrw] at e; cases e), by rw [upd_same] <;> rfl⟩
        (fun _ _ _ _ _ => True.intro) ?_ ?_
      · rintro j pr σ3 H3 H4 hj ⟨w7, w8, rfl, sx, dd, er⟩ ⟨rfl, epr⟩
        have epr : pr = nV j := by rw [epr]; simp
        subst epr
        have s13 : Same H H4 := sx.same s1 (by simp [nlp, nd, nrwH])
        obtain ⟨qs0, w1, w2, w3⟩ := id dd.ex
        have rw3 : RowsL H4 ls [lp, d] (LS.rowsOf (LS.mirNx kk TA) o i) := rw1.keep sx (by simp [Ne.symm nrls, nlsl, nlsd]) (by simp [nrw])
        obtain ⟨rws3, z4, z5, z6⟩ := id rw3.ex
        have eri3 : rws3.length = i := by rw [z5, LS.rows_len hio]
        obtain ⟨t2, et2⟩ := LS.addNew_pre ((LS.mirNx kk TA x).take j) o
        have eo3 : (LS.addNew o ((LS.mirNx kk TA x).take j))[i]? = some x := by rw [et2, List.getElem?_append_left hi]; exact eo
        have eqi : qs0[i]? = some (qs0[i]'(by rw [w2, et2, List.length_append]; omega)) := List.getElem?_eq_getElem _
        have eqx := w3 i _ _ eqi eo3
        rw [keyL_kV] at eqx
        -- ahead = tuple([state for state in range(len(steps)) if steps[state][at] in some[len(rows)]])
        refine ⟨_, rfl, _, TA.st.length, rfl, .inr ⟨_, SqT.of (s13 _ _ hrs), by simp [hrl]⟩, _, rfl, by omega, by omega, fun D2 nD2 => lc_it (walk_range (lo := 0) (n := TA.st.length)) (LcPv (RFilt fun q => decide ((TA.nx q).getD j 0 ∈ x)) H4 D2) (pv_start nD2 rfl) (fun _ _ _ _ => True.intro) ?_ ?_⟩
        · rintro q y H5 H6 hq ⟨acc2, eD2, hl2, sm2, r2⟩ ⟨rfl, ey⟩
          have ey : y = nV q := by rw [ey]; simp
          subst ey
          have s46 : Same H4 H6 := sm_trans sm2 hid_sub
          have s06 := sm_trans s13 s46
          have erq : rsA[q]? = some (rsA[q]'(by omega)) := List.getElem?_eq_getElem (by omega)
          have esq : TA.st[q]? = some (TA.nx q) := by unfold LS.Tb.nx; rw [LS.getD_at hq]; exact List.getElem?_eq_getElem hq
          have ent : ((TA.nx q).map nV)[j]? = some (nV ((TA.nx q).getD j 0)) := by
            have hj2 : j < (TA.nx q).length := by rw [hA.nx_len hq]; exact hj
            rw [LS.getD_at hj2]
            exact map_at nV (List.getElem?_eq_getElem hj2)
          refine ⟨rfl, _, rfl, _, rfl, rIx_seq (.inr (SqT.of (s06 _ _ hrs))) (map_at V.ref erq) ⟨_, rfl, rIx_seq (.inr (SqT.of (s06 _ _ (hrow _ _ _ erq esq)))) ent ?_⟩⟩
          refine ⟨_, rfl, _, rfl, _, i, rfl, .inl ⟨_, SqL.of (s46 _ _ z4), by simp [eri3]⟩, lp, _, _, _, rfl, rfl, SqL.of (s46 _ _ w1), atI_nat (map_at V.ref eqi), ?_⟩
          refine ⟨_, _, rfl, .inr (SqT.of (s46 _ _ eqx)), rfl, flat_nats x, _, rfl, ?_⟩
          rw [if_neg (by decide), inV_nat]
          cases hd2 : decide ((TA.nx q).getD j 0 ∈ x) with
          | true => exact iteT ⟨_, rfl, pv_push eD2 hl2 sm2 (Same.refl _) (by omega) (rfilt_push r2 hd2)⟩
          | false => exact iteF (pv_skip eD2 hl2 sm2 (Same.refl _) (rfilt_skip r2 hd2))
        rintro H5 ⟨acc2, eD2, hl2, sm2, r2⟩
        have e0 : acc2 = (LS.preOf TA x j).map nV := r2
        subst e0
        have s45 : Same H4 H5 := sm_trans sm2 hid_sub
        refine ⟨D2, _, rfl, .inl ⟨SqL.of eD2, fun t nt => ?_⟩⟩
        have ey : (LS.mirNx kk TA x)[j]? = some (LS.preOf TA x j) := by
          unfold LS.mirNx
          rw [List.getElem?_map, List.getElem?_range hj] <;> rfl
        have et1 := take_snoc ey
        have eA := LS.addNew_snoc ((LS.mirNx kk TA x).take j) o (LS.preOf TA x j)
        rw [← et1] at eA
        have s34 : Same H4 (upd H5 t (.tup ((LS.preOf TA x j).map nV))) := sm_upd s45 (s45.free nt)
        have kt : (upd H5 t (.tup ((LS.preOf TA x j).map nV))) t = some (.tup ((keyL (LS.preOf TA x j)).map kV)) := by rw [keyL_kV, upd_same]
        generalize hH6 : upd H5 t (.tup ((LS.preOf TA x j).map nV)) = H6 at s34 kt ⊢
        have dd4 := dd.same s34
        have hlo : (LS.addNew o ((LS.mirNx kk TA x).take j)).length ≤ 1000 := by
          obtain ⟨t2, e2⟩ := LS.bfs_pre _ _ _ _ eb'
          have h1 : (LS.addNew o (LS.mirNx kk TA x)).length ≤ 1000 := by
            have h1 : (LS.addNew o (LS.mirNx kk TA x)).length ≤ oE.length := by rw [e2, List.length_append]; omega
            omega
          have h2 : LS.addNew o (LS.mirNx kk TA x) = LS.addNew (LS.addNew o ((LS.mirNx kk TA x).take j)) ((LS.mirNx kk TA x).drop j) := by rw [← LS.addNew_app, List.take_append_drop]
          obtain ⟨t3, e3⟩ := LS.addNew_pre ((LS.mirNx kk TA x).drop j) (LS.addNew o ((LS.mirNx kk TA x).take j))
          rw [h2, e3, List.length_append] at h1
          omega
        have hjk : j < 1000 := Nat.lt_of_lt_of_le hj hk
        refine ⟨_, rfl, _, rfl, d, _, rfl, dd4.get keyL_inj kt, _, rfl, ?_⟩
        by_cases hm2 : LS.preOf TA x j ∈ LS.addNew o ((LS.mirNx kk TA x).take j)
        · rw [if_pos hm2] at eA ⊢
          refine iteF ?_
          have er4 := s34 _ _ er
          refine ⟨_, rfl, .inl ⟨rfl, _, SqL.of er4⟩, ?_⟩
          refine ⟨_, rfl, _, rfl, d, _, rfl, by have := dd4.get keyL_inj kt; rw [if_pos hm2] at this; exact this, _, _, _, rfl, rfl, er4, by simp only [List.length_map, List.length_take]; exact small5 (by omega), ?_⟩
          refine ⟨_, _, rfl, (sx.then s34).put (by simp), ?_, ?_⟩
          · rw [eA]
            exact dd4.keep (ex := [rw]) (SameX.refl.put (by simp)) (by simpa using Ne.symm nrl) (by simpa using Ne.symm nrd) (fun b hb xs e => by rw [List.mem_singleton] at hb; rw [hb, er4] at e; cases e)
          · rw [upd_same, eA, et1, List.map_append, List.map_append] <;> rfl
        · rw [if_neg hm2] at eA ⊢
          refine iteT ?_
          obtain ⟨qs, u1, u2, u3⟩ := dd4.push keyL_inj hm2 kt
          obtain ⟨qs1, y1, y2, _⟩ := id dd4.ex
          have er4 := s34 _ _ er
          generalize hO : LS.addNew o ((LS.mirNx kk TA x).take j) = oj at *
          refine ⟨_, rfl, _, oj.length, rfl, .inl ⟨_, SqL.of y1, by simp [y2]⟩, _, rfl, _, rfl, d, _, rfl, DPut.t dd4.dict kt (by unfold numT; rw [List.length_map]; exact small5 (by omega)), ?_⟩
          refine ⟨_, rfl, .inl ⟨rfl, _, SqL.of u1⟩, _, rfl, _, _, _, rfl, rfl, u1, by rw [List.length_map]; exact small5 (by omega), ?_⟩
          generalize hH7 : upd (upd H6 d (.dT (putK (numT keyL oj) (keyL (LS.preOf TA x j)) (nV oj.length)))) lp (.lst (qs.map V.ref ++ [.ref t])) = H7 at u3 ⊢
          have sx7 : SameX [lp, d, rw] H2 H7 := by
            rw [← hH7]
            exact ((sx.then s34).put (by simp)).put (by simp)
          have er7 : H7 rw = some (.lst ((((LS.mirNx kk TA x).take j).map fun y => LS.ixOf oj y).map nV)) := by
            rw [← hH7, upd_ne nrl, upd_ne nrd]
            exact er4
          have kt7 : H7 t = some (.tup ((keyL (LS.preOf TA x j)).map kV)) := by
            rw [← hH7, upd_ne (ne_of kt y1 (fun z => by cases z)), upd_ne (ne_of kt dd4.dict (fun z => by cases z))]
            exact kt
          have hin : LS.preOf TA x j ∈ oj ++ [LS.preOf TA x j] := by simp
          refine ⟨_, rfl, .inl ⟨rfl, _, SqL.of er7⟩, ?_⟩
          refine ⟨_, rfl, _, rfl, d, _, rfl, by have := u3.get keyL_inj kt7; rw [if_pos hin] at this; exact this, _, _, _, rfl, rfl, er7, by simp only [List.length_map, List.length_take]; exact small5 (by omega), ?_⟩
          refine ⟨_, _, rfl, sx7.put (by simp), ?_, ?_⟩
          · rw [eA]
            exact u3.keep (ex := [rw]) (SameX.refl.put (by simp)) (by simpa using Ne.symm nrl) (by simpa using Ne.symm nrd) (fun b hb xs e => by rw [List.mem_singleton] at hb; rw [hb, er7] at e; cases e)
          · rw [upd_same, eA, et1, List.map_append, List.map_append]
            rw [LS.ix_grow fun y hy => by rw [← hO]; exact (LS.mem_addNew _ _ _).mpr (.inr hy)]
            rfl
      · rintro σ3 H3 ⟨w7, w8, rfl, sx, dd, er⟩
        have et2 : (LS.mirNx kk TA x).take kk = LS.mirNx kk TA x := by
          have q : (LS.mirNx kk TA x).take (LS.mirNx kk TA x).length = LS.mirNx kk TA x := List.take_length
          rw [hnl] at q
          exact q
        rw [et2] at dd er
        have rw3 : RowsL H3 ls [lp, d] (LS.rowsOf (LS.mirNx kk TA) o i) := rw1.keep sx (by simp [Ne.symm nrls, nlsl, nlsd]) (by simp [nrw])
        obtain ⟨rr, z1, z2, z3⟩ := rw3.push er (by simp [nrl, nrd]) nrls
        -- rows.append(row)
        refine ⟨_, rfl, .inl ⟨rfl, _, SqL.of z1⟩, _, rfl, _, _, _, rfl, rfl, z1, by rw [List.length_map, z2, LS.rows_len hio]; exact small5 (by omega), ?_⟩
        have cl' := cl.next eo
        obtain ⟨t2, e2⟩ := LS.addNew_pre (LS.mirNx kk TA x) o
        have dd' : Disc keyL (upd H3 ls (.lst (rr.map V.ref ++ [.ref rw]))) lp d (LS.addNew o (LS.mirNx kk TA x)) := dd.keep (ex := [ls]) (SameX.refl.put (by simp)) (by simpa using Ne.symm nlsl) (by simpa using Ne.symm nlsd) (fun b hb xs e => by rw [List.mem_singleton] at hb; rw [hb, z1] at e; cases e)
        obtain ⟨ps4, x1, x2, _⟩ := id dd'.ex
        have hle : (LS.addNew o (LS.mirNx kk TA x)).length ≤ most := by
          obtain ⟨t3, e3⟩ := LS.bfs_pre _ _ _ _ eb'
          have h1 : (LS.addNew o (LS.mirNx kk TA x)).length ≤ oE.length := by rw [e3, List.length_append]; omega
          omega
        -- if len(some) > most: return None
        refine ⟨_, rfl, _, (LS.addNew o (LS.mirNx kk TA x)).length, rfl, .inl ⟨_, SqL.of x1, by simp [x2]⟩, _, rfl, _, _, rfl, rfl, _, rfl, ?_⟩
        rw [decide_eq_false (show ¬ ((LS.addNew o (LS.mirNx kk TA x)).length : Int) > (most : Int) by omega)]
        refine iteF ?_
        refine ⟨LS.addNew o (LS.mirNx kk TA x), _, _, _, rfl, eb', cl', by rw [e2, List.length_append]; omega, sm_upd (sx.same s1 (by simp [nlp, nd, nrwH])) nls, dd', ?_⟩
        rw [LS.rows_next cl eo]
        exact z3
    · rw [decide_eq_false (show ¬ (i : Int) < (o.length : Int) by omega)]
      refine iteF ?_
      have e := LS.bfs_end eb (by omega)
      subst e
      have ei : i = oE.length := by omega
      subst ei
      -- return (rows, [0 in ends for ends in some])
      refine ⟨_, rfl, _, rfl, lp, rfl, ⟨_, SqL.of q1⟩, fun D nD => lc_it (walk_list (K := K) (a := lp) (xs := ps.map V.ref)) (LcPv (RMap fun j => V.bl (LS.mirOk (oE.getD j []))) H2 D) (pv_start nD rfl) (fun j H' _ p => SqL.of (pv_same p _ _ q1)) ?_ ?_⟩
      · rintro j v _ H3 hj ⟨acc, eD, hl, sm, r'⟩ ⟨rfl, ev⟩
        obtain ⟨a, ea, rfl⟩ := of_map_at ev
        have hj' : j < oE.length := by rw [List.length_map, q2] at hj; exact hj
        have eo : oE[j]? = some oE[j] := List.getElem?_eq_getElem hj'
        have eg : oE.getD j [] = oE[j] := LS.getD_at hj'
        have s13 : Same H2 H3 := sm_trans sm hid_sub
        have ex := q3 j _ _ ea eo
        rw [keyL_kV] at ex
        refine ⟨rfl, _, rfl, a, _, rfl, .inr (SqT.of (s13 _ _ ex)), rfl, flat_nats _, ?_⟩
        refine pv_push eD hl sm (Same.refl _) (by omega) (rmap_push r' ?_)
        rw [if_neg (by decide), eg]
        have := inV_nat 0 oE[j]
        exact congrArg V.bl this
      rintro H3 ⟨acc, eD, hl, sm, r'⟩
      have s13 : Same H2 H3 := sm_trans sm hid_sub
      refine ⟨by show 2 ≤ sizeLine; decide, fun p np => ?_⟩
      have s34 := same_new (o := HO.tup [V.ref ls, V.ref D]) np
      have e2 : acc = (LS.tabOf (LS.mirNx kk TA) LS.mirOk oE).to.map V.bl := by
        have : acc = (List.range ((ps.map V.ref).length)).map fun j => V.bl (LS.mirOk (oE.getD j [])) := r'
        rw [this, List.length_map, q2]
        unfold LS.tabOf
        rw [List.map_map]
        exact map_range_getD oE [] fun q => V.bl (LS.mirOk q)
      have hp0 : 0 < oE.length := (List.getElem?_eq_some_iff.mp h0).1
      have elen : (LS.tabOf (LS.mirNx kk TA) LS.mirOk oE).st.length = oE.length := by simp [LS.tabOf]
      refine k (LS.tabOf (LS.mirNx kk TA) LS.mirOk oE) p ls D _ (hW.tab_ok hp0) hml.2 (by rw [elen]; omega) (sm_trans s1 (sm_trans s13 s34)) upd_same ?_ ?_
      · have q := (RowsL.at (K := K) rw1).same (sm_trans s13 s34)
        rw [LS.rows_all _ LS.mirOk] at q
        exact q
      · rw [← e2]
        exact .inl (SqL.of (s34 _ _ eD))
end
end LW
end
section
set_option Elab.async false
set_option linter.all false
set_option maxRecDepth 100000
set_option maxHeartbeats 1000000
/-! the text's classes: what is asked of them -/
namespace LW
open PySem PySem.Spec PyProof.Rows L2
structure Cl1 (K : PySem.W.Frag) (C : Addr) : Prop where
  cls : Cls K C
  ha : PySem.W.findIn K (.ref C) "__class__" = some (some (.builtin "object.__class__"))
  hm : PySem.W.mroIn K C (.type "object") = some true
  na : ∀ f ∈ fieldNames, NoAttr K C f
/-- the def at f -/
def FunM (K : PySem.W.Frag) (x qual : Str) (st : Stmt) (f : Addr) : Prop := ∃ fd, Fun K x qual st f fd
/-- the class at C is Clue or of Clue -/
structure ClC (K : PySem.W.Frag) (c : Cs) (C : Addr) : Prop where
  cnt : Meth K C "count" c.fCnt
  wit : Meth K C "within" c.fWit
  ren : Meth K C "renamed" c.fRen
  bes : Meth K C "beside" c.fBes
  and : Sp1 K C c.fAnd (PySem.dunder "and")
  or : Sp1 K C c.fOr (PySem.dunder "or")
  sub : Sp1 K C c.fSub (PySem.dunder "sub")
  xor : Sp1 K C c.fXor (PySem.dunder "xor")
  inv : Sp1 K C c.fInv "__invert__"
  neg : Sp1 K C c.fNeg "__neg__"
  bool : Sp1 K C c.fBool "__bool__"
  eq : Sp1 K C c.fEq "__eq__"
  ne : NeD K C
  kit : PySem.W.kitOne K (.ref C) (.ref c.clue) = some true
/-- what the walks ask of the classes -/
structure TC (K : PySem.W.Frag) (mg : Str → Option Value) (c : Cs) : Prop where
  T : Txt K mg
  g_Cell : mg "Cell" = some (.ref c.cell)
  g_Values : mg "Values" = some (.ref c.vals)
  g_Clue : mg "Clue" = some (.ref c.clue)
  cn : PySem.W.specialIn K (.builtin "object.__class__") "__get__" = some (some (.builtin "getset_descriptor.__get__"))
  ct : PySem.W.takesIn K (.builtin "object.__class__") = some true
  cl : ∀ C ∈ c.all, Cl1 K C
  cc : ∀ C ∈ c.clues, ClC K c C
  bin : ∀ C ∈ c.clues, ∀ D ∈ c.clues, ∀ nm ∈ ops, PySem.W.binIn K C D nm = true
  ord : ∀ C ∈ c.clues, ∀ D ∈ c.clues, PySem.W.ordIn K C D = true
  kit_str : PySem.W.kitOne K (.type "str") (.ref c.cell) = some false
  mk_cell : Mk K c.cell c.fCell
  mk_vals : Mk K c.vals c.fVal
  mk_clue : Mk K c.clue c.fClue
  s_cin : Sp1 K c.cell c.fCellIn "__contains__"
  s_vin : Sp1 K c.vals c.fValIn "__contains__"
  s_veq : Sp1 K c.vals c.fValEq "__eq__"
  m_vcell : Meth K c.vals "cell" c.fValCell
  m_vren : Meth K c.vals "renamed" c.fValRen
  mostR : ∃ mc u, ClX.CRead K c.vals mc ∧ ClX.CVal K c.vals mc "MOST" (.int 4) u
  f_Cell : FunM K "__init__" "Cell.__init__" (meth 27 0) c.fCell
  f_CellIn : FunM K "__contains__" "Cell.__contains__" (meth 27 10) c.fCellIn
  f_Val : FunM K "__init__" "Values.__init__" (meth 28 1) c.fVal
  f_ValCell : FunM K "cell" "Values.cell" (meth 28 3) c.fValCell
  f_ValRen : FunM K "renamed" "Values.renamed" (meth 28 8) c.fValRen
  f_ValIn : FunM K "__contains__" "Values.__contains__" (meth 28 9) c.fValIn
  f_ValEq : FunM K "__eq__" "Values.__eq__" (meth 28 11) c.fValEq
  f_Clue : FunM K "__init__" "Clue.__init__" (meth 37 1) c.fClue
  f_Cnt : FunM K "count" "Clue.count" (meth 37 4) c.fCnt
  f_Wit : FunM K "within" "Clue.within" (meth 37 6) c.fWit
  f_Ren : FunM K "renamed" "Clue.renamed" (meth 37 7) c.fRen
  f_Bes : FunM K "beside" "Clue.beside" (meth 37 8) c.fBes
  f_Bool : FunM K "__bool__" "Clue.__bool__" (meth 37 12) c.fBool
  f_Eq : FunM K "__eq__" "Clue.__eq__" (meth 37 13) c.fEq
  f_And : FunM K "__and__" "Clue.__and__" (meth 37 14) c.fAnd
  f_Or : FunM K "__or__" "Clue.__or__" (meth 37 15) c.fOr
  f_Sub : FunM K "__sub__" "Clue.__sub__" (meth 37 16) c.fSub
  f_Xor : FunM K "__xor__" "Clue.__xor__" (meth 37 17) c.fXor
  f_Inv : FunM K "__invert__" "Clue.__invert__" (meth 37 18) c.fInv
  f_Neg : FunM K "__neg__" "Clue.__neg__" (meth 37 19) c.fNeg
  o_vals : PySem.W.ordIn K c.vals c.vals = true
theorem TC.tyOf {K : PySem.W.Frag} {mg : Str → Option Value} {c : Cs} (T : TC K mg c) {H : Hp} {a C dx : Addr} {fs : List (Str × V)} (hC : C ∈ c.all) (e : H a = some (.ins C dx fs)) : TyX K H (.ref a) (.ref C) :=
  .base (.ins e (T.cl C hC).cls (T.cl C hC).ha T.cn T.ct (T.cl C hC).hm)
section
variable {P : Program} {w : World} {K : PySem.W.Frag} {mg : Str → Option Value} {base : Heap}
theorem FunM.fn {x qual : Str} {st : Stmt} {f : Addr} {N ps : List Str} {k : Nat} {sp : Sp} (g : FunM K x qual st f) (S : FnScope N ps (defScope st))
    (hb : ∀ (kV doc pm : Value) (an : Option Addr) (cdv ct : Value) (us : List Value), us.length = ps.length → bindArgs (PySem.W.fnOf x qual (defArgs st) (defBody st) (defScope st) .none kV doc pm an cdv ct) ⟨us, []⟩ = pure (ps.zip us))
    (len : ∀ vs H Q E, sp vs H Q E → vs.length = ps.length)
    (hbody : ∀ (cdv : Value) (A : Around) (outer : List Env) (s : Shared) (H : Hp) (vs : List V) (Q : VK) (E : XK), Room k (A.deeper (envOfC qual (defScope st) s.heap.objs.size f cdv)) → sp vs H Q E →
      ∃ t, PSs (cxOf CX0 P w K mg base N qual (defScope st) f cdv A outer s H E).nox (defBody st) t ∧ t { nx := fun _ H' => Q .non H', rt := Q } (L2.start N vs) H) : FnR P w K mg base CX0 (k + 1) f sp := by
  obtain ⟨fd, F⟩ := g
  exact ((F.ok S len hbody).raw (F.binds hb) .nil).imp fun vs H Q E z => by rw [List.append_nil]; exact z
end
/-! ### o.m(e, ..) where o's class is any -/
def tMe (K : PySem.W.Frag) (m : Str) (f : Addr) (sp : Sp) (ta : TE) (t : TA) : TE := fun σ H Q => ta σ H fun x H1 => ∃ a C dx fs, x = .ref a ∧ H1 a = some (.ins C dx fs) ∧ Cls K C ∧ Meth K C m f ∧ fs.lookup m = none ∧
  t σ H1 fun vs H2 => sp (x :: vs) H2 Q E0
theorem pe_me {X : Cx} {f : Addr} {m : Str} {k j : Nat} {sp : Sp} {o e : Expr} {es : List Expr} {ta : TE} {t : TA} {pos apos : Pos} {pl : Sem Bool} (K : PySem.W.Frag) (F : FnR X.prog X.w X.K X.mg X.base CX0 j f sp) (hj : j ≤ k) (hr : Room k X.A) (he : PE X o ta) (ha : PA X (e :: es) t) (hK : X.K = K := by rfl)
    (hst : starEach (e :: es) X.env = (false, eval e X.env) :: starEach es X.env := by rfl) (hpl : (backTo pos (starEach es X.env)).any (·.1) = false := by rfl)
    (ht : eval (.Call (.Attribute o m apos) (e :: es) [] pos) X.env = (do
      let ov ← eval o X.env
      standAt apos.atName
      let (f, first) ← holding [ov] (getMethod ov m pl)
      callWith pos f first (backTo pos (starEach (e :: es) X.env)) (backToKw pos (keywordEach [] X.env))) := by rfl) :
    PE X (.Call (.Attribute o m apos) (e :: es) [] pos) (tMe K m f sp ta t) := by
  subst hK
  refine ⟨fun pins s σ H Q I h => ?_⟩
  refine PySem.W.methodCall_KW (pl := pl) (thn (he.run pins s σ H _ I h) fun u s1 ⟨x, H1, I1, rx, a, C, dx, fs, ex, ea, c, hm, l, q⟩ => ?_) ht
  subst ex
  obtain rfl : u = Value.ref a := rx
  refine getmeth_ok I1 ea c hm l ?_
  refine PySem.W.callWith_K (first := [.ref a]) (h₀ := X.base) I.ok.mod.kin hm.kp (thn (ha.run pos pins s1 σ H1 _ I1 q) fun us s2 ⟨vs, H2, I2, r, q2⟩ => ⟨I2.kIn, ?_⟩) hst hpl
  exact run_own (us := .ref a :: us) (vs := .ref a :: vs) (F.mono hj) hr I2 (.cons rfl r) q2
theorem pe_gci {X : Cx} {x : Str} {i : Int} {pos : Pos} (hg : Gl X x) (h : ∃ t, X.mg x = some (.int i t)) (hd : (x == ("__debug__" : Str)) = false := by decide) : PE X (.Name x pos) (tC (.int i)) := by
  obtain ⟨t, h⟩ := h
  exact pe_glob hg h ⟨t, rfl⟩ hd
theorem pe_gcs {X : Cx} {x y : Str} {pos : Pos} (hg : Gl X x) (h : ∃ t, X.mg x = some (.str y t)) (hd : (x == ("__debug__" : Str)) = false := by decide) : PE X (.Name x pos) (tC (.str y)) := by
  obtain ⟨t, h⟩ := h
  exact pe_glob hg h ⟨t, rfl⟩ hd
theorem pe_bty {X : Cx} {x : Str} {n : String} {pos : Pos} (hg : Gl X x) (hm : X.mg x = none) (hv : bootBuiltins x = some (.type n)) (hn : x ≠ "__name__" := by decide) (hd : (x == ("__debug__" : Str)) = false := by decide) : PE X (.Name x pos) (tC (.ty n)) := pe_bltn hg hm hv (show RelV (.ty n) (.type n) from rfl) hn hd
theorem pe_ocl {X : Cx} {x : Str} {C : Addr} {pos : Pos} (hg : Gl X x) (hm : X.mg x = some (.ref C)) (hd : (x == ("__debug__" : Str)) = false := by decide) : PE X (.Name x pos) (tC (.ref C)) := pe_glob hg hm (show RelV (.ref C) (.ref C) from rfl) hd
theorem pe_mkR {X : Cx} {C f : Addr} {x : Str} {j k : Nat} {sp : Sp} {e : Expr} {es : List Expr} {t : TA} {p pos : Pos} (M : Mk X.K C f) (F : FnR X.prog X.w X.K X.mg X.base CX0 j f sp) (hj : j + 1 ≤ k) (hr : Room k X.A) (hg : Gl X x) (hm : X.mg x = some (.ref C)) (ha : PA X (e :: es) t) (hdb : (x == ("__debug__" : Str)) = false := by decide)
    (he : starEach (e :: es) X.env = (false, eval e X.env) :: starEach es X.env := by rfl) (hpl : (backTo pos (starEach es X.env)).any (·.1) = false := by rfl) : PE X (.Call (.Name x p) (e :: es) [] pos) (StX.tMakeR C sp E0 t) :=
  StX.pe_makeR M F (hr.mono hj) hg hm pass0 ha hdb he hpl
/-- texts by their signs -/
abbrev Sg (a : List Nat) : Str := SX.S a
theorem chars_S (a : List Nat) : chars (Sg a) = a.map fun c => V.str (Sg [c]) := rfl
theorem in_S (a : List Nat) (c : Nat) : (!(Builtin.Str.occurrences (Sg a) (Sg [c]) 0 (Sg a).length 1).isEmpty) = decide (c ∈ a) := SX.in_one a c
end LW
end
section
set_option Elab.async false
set_option linter.all false
set_option maxRecDepth 100000
set_option maxHeartbeats 1000000
/-! is_whole, is_letters, is_cell_string -/
namespace LW
open PySem PySem.Spec PyProof.Rows L2
abbrev st_is_whole : Stmt := top 24
theorem sc_is_whole : FnScope ["thing", "least", "most"] ["thing", "least", "most"] (defScope st_is_whole) := ⟨rfl, rfl, rfl, by decide +kernel, rfl, by decide +kernel, by decide +kernel⟩
abbrev st_is_letters : Stmt := top 25
theorem sc_is_letters : FnScope ["thing", "least", "most", "letter"] ["thing", "least", "most"] (defScope st_is_letters) := ⟨rfl, rfl, rfl, by decide +kernel, rfl, by decide +kernel, by decide +kernel⟩
abbrev st_is_cell_string : Stmt := top 26
theorem sc_is_cell_string : FnScope ["letters", "thing", "letter"] ["letters", "thing"] (defScope st_is_cell_string) := ⟨rfl, rfl, rfl, by decide +kernel, rfl, by decide +kernel, by decide +kernel⟩
/-- a list comprehension over a text -/
theorem lc_txt {a : List Nat} {g : TG} {tt : TT} {te : TE} {vs : List Nat} {σ : L2.St} {H1 : Hp} {Qd : Addr → Hp → Prop} (Pv : Addr → Nat → Hp → Prop) (h0 : ∀ D, H1 D = none → Pv D 0 (upd H1 D (.lst [])))
    (hs : ∀ D i c H, H1 D = none → a[i]? = some c → Pv D i H → g (.str (Sg [c])) (wipe σ vs) H fun σ2 H2 => wipe σ2 vs = wipe σ vs ∧ tt σ2 H2 fun b H3 =>
      if b = true then te σ2 H3 fun y H4 => ∃ acc, H4 D = some (.lst acc) ∧ acc.length < sizeLine ∧ Pv D (i + 1) (upd H4 D (.lst (acc ++ [y]))) else Pv D (i + 1) H3) (hd : ∀ D H, H1 D = none → Pv D a.length H → Qd D H) :
    ∀ D, H1 D = none → ∃ W : Nat → Nat → Hp → Prop, (∃ m, W 0 m (upd H1 D (.lst []))) ∧ ∀ i m H, W i m H →
      ((Its (Sg a)).stop i H ∧ Qd D H) ∨ ((Its (Sg a)).go i H ∧ ∃ Nx : Hp → Prop, (∀ H', Nx H' → ∃ m', m' < m ∧ W (i + 1) m' H') ∧ ∀ x H', (Its (Sg a)).yld i H x H' → g x (wipe σ vs) H' fun σ2 H2 => wipe σ2 vs = wipe σ vs ∧ tt σ2 H2 fun b H3 =>
        if b = true then te σ2 H3 fun y H4 => ∃ acc, H4 D = some (.lst acc) ∧ acc.length < sizeLine ∧ Nx (upd H4 D (.lst (acc ++ [y]))) else Nx H3) := fun D hD => by
  refine lc_it (walk_str (z := Sg a)) (Pv D) (h0 D hD) (fun _ _ _ _ => True.intro) ?_ (fun H p => hd D H hD (by simpa using p))
  rintro i x H H' hi p ⟨rfl, cc, e, rfl⟩
  exact hs D i cc H' hD (by simpa [SX.S] using e) p
theorem uniqK_chars {a : List Nat} (h : a.Nodup) : (uniqK ((Sg a).cps.toList.map fun c => (.inr ⟨#[c]⟩ : Key))).length = a.length := by
  have e : (Sg a).cps.toList = a := by simp [SX.S]
  rw [e, uniqK_map (fun c : Nat => (.inr ⟨#[c]⟩ : Key)) (fun x y z => by simpa using z), List.length_map]
  have := uniq_of_nodup h a.length (Nat.le_refl _)
  rw [List.take_length] at this
  rw [this]
theorem S_length (a : List Nat) : (Sg a).length = a.length := by simp [SX.S, Str.length]
/-- whole numbers alone -/
def spWhole : Sp := fun vs H Q _ => ∃ n lo hi : Int, vs = [.int n, .int lo, .int hi] ∧ Q (.bl (decide (lo ≤ n) && decide (n ≤ hi))) H
/-- good letters -/
def spLetters : Sp := fun vs H Q _ => ∃ (a : List Nat) (lo hi : Int), vs = [.str (Sg a), .int lo, .int hi] ∧ lo ≤ a.length ∧ (a.length : Int) ≤ hi ∧ a.length ≤ 4000 ∧ a.Nodup ∧ (∀ x ∈ a, 97 ≤ x ∧ x < 123) ∧ ∀ H', Same H H' → Q (.bl true) H'
def spCellStr : Sp := fun vs H Q _ => ∃ (L a : List Nat), vs = [.str (Sg L), .str (Sg a)] ∧ a.length ≤ 4000 ∧ a.Nodup ∧ (∀ x ∈ a, x ∈ L) ∧ ∀ H', Same H H' → Q (.bl true) H'
section
variable {P : Program} {w : World} {K : PySem.W.Frag} {mg : Str → Option Value} {base : Heap}
theorem kit_int_int : PySem.W.kitOne K (.type "int") (.type "int") = some true := by unfold PySem.W.kitOne; rw [if_pos (beq_self_eq_true _)]
theorem kit_str_str : PySem.W.kitOne K (.type "str") (.type "str") = some true := by unfold PySem.W.kitOne; rw [if_pos (beq_self_eq_true _)]
theorem kit_self {t : Value} : PySem.W.kitOne K t t = some true := by unfold PySem.W.kitOne; rw [if_pos (beq_self_eq_true _)]
theorem c_is_whole (T : Txt K mg) : Cal P w K mg base "is_whole" 1 ["thing", "least", "most"] spWhole := by
  refine FunG.cal T.f_is_whole sc_is_whole (fun _ _ _ _ _ _ us hl => match us, hl with | [_, _, _], _ => rfl) (fun vs H Q E h => ?_) (fun f cdv A outer s H vs Q E hr h => ?_)
  · obtain ⟨n, lo, hi, rfl, _⟩ := h
    rfl
  · obtain ⟨n, lo, hi, rfl, k⟩ := h
--TERM is_whole
    refine ⟨_, (pss_one (ps_ret (pe_and (pe_callB (call_isiKK K) (by rfl) T.b_isinstance bt_isinstance (pa_cons (pv 0) (pa_cons (pe_bty (by rfl) T.b_int bt_int) pa_nil))) (pe_and (pe_not (pe_callB (call_isiKK K) (by rfl) T.b_isinstance bt_isinstance (pa_cons (pv 0) (pa_cons (pe_bty (by rfl) T.b_bool bt_bool) pa_nil)))) (pe_one (pe_chain op_le op_le (pv 1) (pv 0) (pv 2))))))), ?_⟩
--END
    refine ⟨_, rfl, _, _, _, _, true, rfl, .ty _, .base (.int _), kit_self, true, rfl, ?_⟩
    rw [if_pos rfl]
    refine ⟨_, rfl, _, _, _, _, false, rfl, .ty _, .base (.int _), kit_ty (by decide +kernel), false, rfl, true, rfl, ?_⟩
    rw [if_pos rfl]
    refine ⟨_, rfl, _, rfl, _, _, rfl, rfl, decide (lo ≤ n), rfl, ?_⟩
    by_cases h : lo ≤ n
    · rw [decide_eq_true h, if_pos rfl]
      rw [decide_eq_true h, Bool.true_and] at k
      exact ⟨_, rfl, _, _, rfl, rfl, k⟩
    · rw [decide_eq_false h, if_neg (by decide)]
      rw [decide_eq_false h, Bool.false_and] at k
      exact k
theorem abc_S : ("abcdefghijklmnopqrstuvwxyz" : Str) = Sg ((List.range 26).map (· + 97)) := by decide +kernel
theorem c_is_letters (T : Txt K mg) : Cal P w K mg base "is_letters" 1 ["thing", "least", "most"] (spLetters) := by
  refine FunG.cal T.f_is_letters sc_is_letters (fun _ _ _ _ _ _ us hl => match us, hl with | [_, _, _], _ => rfl) (fun vs H Q E h => ?_) (fun f cdv A outer s H vs Q E hr h => ?_)
  · obtain ⟨a, lo, hi, rfl, _⟩ := h
    rfl
  · obtain ⟨a, lo, hi, rfl, h1, h2, h3, h4, h5, k⟩ := h
    have hz : a.length ≤ sizeLine := Nat.le_trans h3 (by decide)
    have hS := S_length a
--TERM is_letters
    refine ⟨_, (pss_cons (ps_if (PW.pt (pw_or (pt_not (pt_val (pe_callB (call_isiKK K) (by rfl) T.b_isinstance bt_isinstance (pa_cons (pv 0) (pa_cons (pe_bty (by rfl) T.b_str bt_str) pa_nil))))) (pw_or (pt_not (pt_chain op_le op_le (pv 1) (pe_callB (call_lenK K) (by rfl) T.b_len PySem.boot_len (pa_cons (pv 0) pa_nil)) (pv 2))) (pw_or1 (pt_cmpR op_lt (pe_lenSetK K rfl T.b_len rfl T.b_set (pv 0)) (pe_callB (call_lenK K) (by rfl) T.b_len PySem.boot_len (pa_cons (pv 0) pa_nil)) (nomark _)))))) (pss_one (ps_ret pe_bl))
  pss_nil)
  (pss_one (ps_ret (pe_callB (cr_allK K) (by rfl) T.b_all bt_all (pa_cons (pe_lc (own := [("letter", 3)]) rfl sc_is_letters.nd (pi_str (pv 0)) (blkOk_by (own := [("letter", 3)]) (by kernel_rfl)) (fun _ _ _ _ _ => (pg_name (i := 3) sc_is_letters.nd rfl (Or.inl rfl))) (fun _ _ _ _ _ => pts_nil) (fun _ _ _ _ _ => (pe_cmpR op_in_str (pv 3) (pe_gcs rfl T.g_ALPHABET) (by rfl)))) pa_nil))))), ?_⟩
--END
    refine ⟨_, rfl, _, _, _, _, true, rfl, .ty _, .base (.str _), kit_str_str, true, rfl, ?_⟩
    refine iteF ?_
    refine ⟨_, rfl, _, rfl, _, a.length, rfl, ⟨by rw [hS]; exact hz, hS.symm⟩, _, _, rfl, rfl, _, rfl, ?_⟩
    rw [decide_eq_true h1, if_pos rfl]
    refine ⟨_, rfl, _, _, rfl, rfl, _, rfl, ?_⟩
    rw [decide_eq_true h2]
    refine iteF ?_
    refine ⟨_, rfl, .inr ⟨Sg a, rfl, by rw [hS]; exact h3, ?_⟩⟩
    refine ⟨_, rfl, _, a.length, rfl, ⟨by rw [hS]; exact hz, hS.symm⟩, _, _, rfl, rfl, _, rfl, ?_⟩
    rw [uniqK_chars h4]
    rw [decide_eq_false (Int.lt_irrefl _)]
    refine iteF ?_
    refine ⟨_, rfl, Sg a, rfl, lc_txt (fun D => LcPv (RMap fun _ => V.bl true) H D) (fun D nD => pv_start nD rfl) ?_ ?_⟩
    · rintro D i c H1 nD hc ⟨acc, eD, hl, sm, r⟩
      have hc5 := h5 c (List.mem_of_getElem? hc)
      have hi : i < a.length := (List.getElem?_eq_some_iff.mp hc).1
      refine ⟨rfl, _, rfl, _, _, rfl, rfl, ?_⟩
      refine pv_push eD hl sm (Same.refl _) (by omega) (rmap_push r ?_)
      rw [abc_S, in_S, decide_eq_true]
      exact List.mem_map.mpr ⟨c - 97, List.mem_range.mpr (by omega), by omega⟩
    · rintro D H1 nD ⟨acc, eD, hl, sm, r⟩
      have e1 : acc = (List.replicate a.length true).map V.bl := by
        rw [show acc = _ from r, List.map_replicate]
        exact List.ext_getElem (by simp) (by simp)
      refine ⟨D, List.replicate a.length true, rfl, SqL.of (by rw [eD, e1]), ?_⟩
      have e2 : (List.replicate a.length true).all id = true := List.all_eq_true.mpr fun x hx => (List.mem_replicate.mp hx).2
      rw [e2]
      exact k H1 (sm_trans sm hid_sub)
theorem c_is_cell_string (T : Txt K mg) : Cal P w K mg base "is_cell_string" 1 ["letters", "thing"] (spCellStr) := by
  refine FunG.cal T.f_is_cell_string sc_is_cell_string (fun _ _ _ _ _ _ us hl => match us, hl with | [_, _], _ => rfl) (fun vs H Q E h => ?_) (fun f cdv A outer s H vs Q E hr h => ?_)
  · obtain ⟨L, a, rfl, _⟩ := h
    rfl
  · obtain ⟨L, a, rfl, h3, h4, h5, k⟩ := h
    have hz : a.length ≤ sizeLine := Nat.le_trans h3 (by decide)
    have hS := S_length a
--TERM is_cell_string
    refine ⟨_, (pss_cons (ps_if (PW.pt (pw_or (pt_not (pt_val (pe_callB (call_isiKK K) (by rfl) T.b_isinstance bt_isinstance (pa_cons (pv 1) (pa_cons (pe_bty (by rfl) T.b_str bt_str) pa_nil))))) (pw_or1 (pt_cmpR op_lt (pe_lenSetK K rfl T.b_len rfl T.b_set (pv 1)) (pe_callB (call_lenK K) (by rfl) T.b_len PySem.boot_len (pa_cons (pv 1) pa_nil)) (nomark _))))) (pss_one (ps_ret pe_bl))
  pss_nil)
  (pss_one (ps_ret (pe_callB (cr_allK K) (by rfl) T.b_all bt_all (pa_cons (pe_lc (own := [("letter", 2)]) rfl sc_is_cell_string.nd (pi_str (pv 1)) (blkOk_by (own := [("letter", 2)]) (by kernel_rfl)) (fun _ _ _ _ _ => (pg_name (i := 2) sc_is_cell_string.nd rfl (Or.inl rfl))) (fun _ _ _ _ _ => pts_nil) (fun _ _ _ _ _ => (pe_cmpR op_in_str (pv 2) (pv 0) (by rfl)))) pa_nil))))), ?_⟩
--END
    refine ⟨_, rfl, _, _, _, _, true, rfl, .ty _, .base (.str _), kit_str_str, true, rfl, ?_⟩
    refine iteF ?_
    refine ⟨_, rfl, .inr ⟨Sg a, rfl, by rw [hS]; exact h3, ?_⟩⟩
    refine ⟨_, rfl, _, a.length, rfl, ⟨by rw [hS]; exact hz, hS.symm⟩, _, _, rfl, rfl, _, rfl, ?_⟩
    rw [uniqK_chars h4]
    rw [decide_eq_false (Int.lt_irrefl _)]
    refine iteF ?_
    refine ⟨_, rfl, Sg a, rfl, lc_txt (fun D => LcPv (RMap fun _ => V.bl true) H D) (fun D nD => pv_start nD rfl) ?_ ?_⟩
    · rintro D i c H1 nD hc ⟨acc, eD, hl, sm, r⟩
      have hc5 := h5 c (List.mem_of_getElem? hc)
      have hi : i < a.length := (List.getElem?_eq_some_iff.mp hc).1
      refine ⟨rfl, _, rfl, _, rfl, _, _, rfl, rfl, ?_⟩
      refine pv_push eD hl sm (Same.refl _) (by omega) (rmap_push r ?_)
      rw [in_S, decide_eq_true hc5]
    · rintro D H1 nD ⟨acc, eD, hl, sm, r⟩
      have e1 : acc = (List.replicate a.length true).map V.bl := by
        rw [show acc = _ from r, List.map_replicate]
        exact List.ext_getElem (by simp) (by simp)
      refine ⟨D, List.replicate a.length true, rfl, SqL.of (by rw [eD, e1]), ?_⟩
      have e2 : (List.replicate a.length true).all id = true := List.all_eq_true.mpr fun x hx => (List.mem_replicate.mp hx).2
      rw [e2]
      exact k H1 (sm_trans sm hid_sub)
end
end LW
end
section
set_option Elab.async false
set_option linter.all false
set_option maxRecDepth 100000
set_option maxHeartbeats 1000000
/-! Cell and Values -/
namespace LW
open PySem PySem.Spec PyProof.Rows L2
theorem putF_new {f : Str} {v : V} : ∀ {fs : List (Str × V)}, fs.lookup f = none → putF f v fs = fs ++ [(f, v)]
  | [], _ => rfl
  | (g, x) :: r, h => by
    have hne : ¬ g = f := fun z => by
      subst z
      rw [List.lookup_cons, beq_self_eq_true] at h
      cases h
    have h2 : r.lookup f = none := by
      rw [List.lookup_cons, show (f == g) = false from beq_eq_false_iff_ne.mpr fun z => hne z.symm] at h
      exact h
    show (if g = f then _ else _) = _
    rw [if_neg hne, putF_new h2] <;> rfl
def ValO (c : Cs) (H : Hp) (v : Addr) (L : List Nat) : Prop := ∃ dx, H v = some (.ins c.vals dx [("letters", .str (Sg L))])
theorem ValO.same {c : Cs} {H H' : Hp} {v : Addr} {L : List Nat} (e : Same H H') (h : ValO c H v L) : ValO c H' v L := let ⟨dx, h⟩ := h; ⟨dx, e _ _ h⟩
theorem ValO.sameX {c : Cs} {H H' : Hp} {v : Addr} {L : List Nat} {ex : List Addr} (e : SameX ex H H') (h : ValO c H v L) (n : v ∉ ex) : ValO c H' v L := let ⟨dx, h⟩ := h; ⟨dx, e _ _ n h⟩
def CellO (c : Cs) (H : Hp) (p : Addr) (a : List Nat) : Prop := ∃ dx v n, H p = some (.ins c.cell dx [("alphabet", .ref v), ("number", nV n), ("letters", .str (Sg a))])
theorem CellO.same {c : Cs} {H H' : Hp} {v : Addr} {L : List Nat} (e : Same H H') (h : CellO c H v L) : CellO c H' v L := let ⟨dx, a, n, h⟩ := h; ⟨dx, a, n, e _ _ h⟩
theorem TC.vl {K : PySem.W.Frag} {mg : Str → Option Value} {c : Cs} (Z : TC K mg c) : Cl1 K c.vals := Z.cl _ (by simp [Cs.all])
theorem TC.ce {K : PySem.W.Frag} {mg : Str → Option Value} {c : Cs} (Z : TC K mg c) : Cl1 K c.cell := Z.cl _ (by simp [Cs.all])
theorem TC.cq {K : PySem.W.Frag} {mg : Str → Option Value} {c : Cs} (Z : TC K mg c) {C : Addr} (h : C ∈ c.clues) : Cl1 K C := Z.cl _ (by simp [Cs.all, h])
theorem pe_cvalK {X : Cx} {e : Expr} {f : Str} {pos : Pos} {ta : TE} (K : PySem.W.Frag) (he : PE X e ta) (hb : attributeBase e f X.env (eval e X.env) = eval e X.env := by rfl) (hK : X.K = K := by rfl) : PE X (.Attribute e f pos) (ClX.tCVal K ta f) := by
  subst hK
  exact ClX.pe_cval he hb
theorem op_ownInK {X : Cx} {k : Nat} {f : Addr} {sp : Sp} (K : PySem.W.Frag) (F : FnR X.prog X.w X.K X.mg X.base CX0 k f sp) (hr : Room k X.A) (hK : X.K = K := by rfl) : OpR X (compareOp .In) (rOwIn K f sp false) := by
  subst hK
  exact op_ownIn F hr
/-- one sign in the letters -/
def spIn1 (c : Cs) (O : Hp → Addr → List Nat → Prop) : Sp := fun vs H Q _ => ∃ (v : Addr) (L : List Nat) (y : Nat), vs = [.ref v, .str (Sg [y])] ∧ O H v L ∧ Q (.bl (decide (y ∈ L))) H
/-- the letters of the law's values -/
structure Abc (L : List Nat) : Prop where
  lo : 2 ≤ L.length
  hi : L.length ≤ 4
  nd : L.Nodup
  az : ∀ x ∈ L, 97 ≤ x ∧ x < 123
def spValI (c : Cs) : Sp := fun vs H Q _ => ∃ (x dx : Addr) (L : List Nat), vs = [.ref x, .str (Sg L)] ∧ H x = some (.ins c.vals dx []) ∧ Abc L ∧ ∀ H', SameX [x] H H' → H' x = some (.ins c.vals dx [("letters", .str (Sg L))]) → Q .non H'
/-- the same letters -/
def spValEq (c : Cs) : Sp := fun vs H Q _ => ∃ (v v' : Addr) (L : List Nat), vs = [.ref v, .ref v'] ∧ ValO c H v L ∧ ValO c H v' L ∧ Q (.bl true) H
abbrev st_Cell_contains : Stmt := meth 27 10
theorem sc_Cell_contains : FnScope ["self", "letter"] ["self", "letter"] (defScope st_Cell_contains) := ⟨rfl, rfl, rfl, by decide +kernel, rfl, by decide +kernel, by decide +kernel⟩
abbrev st_Values_contains : Stmt := meth 28 9
theorem sc_Values_contains : FnScope ["self", "letter"] ["self", "letter"] (defScope st_Values_contains) := ⟨rfl, rfl, rfl, by decide +kernel, rfl, by decide +kernel, by decide +kernel⟩
abbrev st_Values_init : Stmt := meth 28 1
theorem sc_Values_init : FnScope ["self", "letters"] ["self", "letters"] (defScope st_Values_init) := ⟨rfl, rfl, rfl, by decide +kernel, rfl, by decide +kernel, by decide +kernel⟩
abbrev st_Values_eq : Stmt := meth 28 11
theorem sc_Values_eq : FnScope ["self", "other"] ["self", "other"] (defScope st_Values_eq) := ⟨rfl, rfl, rfl, by decide +kernel, rfl, by decide +kernel, by decide +kernel⟩
section
variable {P : Program} {w : World} {K : PySem.W.Frag} {mg : Str → Option Value} {base : Heap} {c : Cs}
theorem c_Cell_contains (Z : TC K mg c) : FnR P w K mg base CX0 1 c.fCellIn (spIn1 c (CellO c)) := by
  have T := Z.T
  refine FunM.fn Z.f_CellIn sc_Cell_contains (fun _ _ _ _ _ _ us hl => match us, hl with | [_, _], _ => rfl) (fun vs H Q E h => ?_) (fun cdv A outer s H vs Q E hr h => ?_)
  · obtain ⟨v, L, y, rfl, _⟩ := h
    rfl
  · obtain ⟨v, L, y, rfl, ⟨dx, u, n, hO⟩, k⟩ := h
--TERM Cell.__contains__
    refine ⟨_, (pss_one (ps_ret (pe_and (pe_callB (call_isiKK K) (by rfl) T.b_isinstance bt_isinstance (pa_cons (pv 1) (pa_cons (pe_bty (by rfl) T.b_str bt_str) pa_nil))) (pe_and (pe_cmpR op_eq (pe_callB (call_lenK K) (by rfl) T.b_len PySem.boot_len (pa_cons (pv 1) pa_nil)) pe_int (nomark _)) (pe_one (pe_cmpR op_in_str (pv 1) (pe_fldK K (pv 0)) (by rfl))))))), ?_⟩
--END
    refine ⟨_, rfl, _, _, _, _, true, rfl, .ty _, .base (.str _), kit_str_str, true, rfl, ?_⟩
    rw [if_pos rfl]
    refine ⟨_, rfl, _, 1, rfl, ⟨by rw [S_length]; show 1 ≤ sizeLine; decide, rfl⟩, rfl, true, rfl, ?_⟩
    rw [if_pos rfl]
    refine ⟨_, rfl, _, rfl, v, _, _, _, _, rfl, hO, Z.ce.cls, Z.ce.na _ (by simp [fieldNames]), rfl, _, _, rfl, rfl, ?_⟩
    rw [in_S]
    exact k
theorem c_Values_contains (Z : TC K mg c) : FnR P w K mg base CX0 1 c.fValIn (spIn1 c (ValO c)) := by
  have T := Z.T
  refine FunM.fn Z.f_ValIn sc_Values_contains (fun _ _ _ _ _ _ us hl => match us, hl with | [_, _], _ => rfl) (fun vs H Q E h => ?_) (fun cdv A outer s H vs Q E hr h => ?_)
  · obtain ⟨v, L, y, rfl, _⟩ := h
    rfl
  · obtain ⟨v, L, y, rfl, ⟨dx, hO⟩, k⟩ := h
--TERM Values.__contains__
    refine ⟨_, (pss_one (ps_ret (pe_and (pe_callB (call_isiKK K) (by rfl) T.b_isinstance bt_isinstance (pa_cons (pv 1) (pa_cons (pe_bty (by rfl) T.b_str bt_str) pa_nil))) (pe_and (pe_cmpR op_eq (pe_callB (call_lenK K) (by rfl) T.b_len PySem.boot_len (pa_cons (pv 1) pa_nil)) pe_int (nomark _)) (pe_one (pe_cmpR op_in_str (pv 1) (pe_fldK K (pv 0)) (by rfl))))))), ?_⟩
--END
    refine ⟨_, rfl, _, _, _, _, true, rfl, .ty _, .base (.str _), kit_str_str, true, rfl, ?_⟩
    rw [if_pos rfl]
    refine ⟨_, rfl, _, 1, rfl, ⟨by rw [S_length]; show 1 ≤ sizeLine; decide, rfl⟩, rfl, true, rfl, ?_⟩
    rw [if_pos rfl]
    refine ⟨_, rfl, _, rfl, v, _, _, _, _, rfl, hO, Z.vl.cls, Z.vl.na _ (by simp [fieldNames]), rfl, _, _, rfl, rfl, ?_⟩
    rw [in_S]
    exact k
theorem c_Values_init (Z : TC K mg c) : FnR P w K mg base CX0 2 c.fVal (spValI c) := by
  have T := Z.T
  have c_is_letters := c_is_letters (P := P) (w := w) (base := base) T
  refine FunM.fn Z.f_Val sc_Values_init (fun _ _ _ _ _ _ us hl => match us, hl with | [_, _], _ => rfl) (fun vs H Q E h => ?_) (fun cdv A outer s H vs Q E hr h => ?_)
  · obtain ⟨x, dx, L, rfl, _⟩ := h
    rfl
  · obtain ⟨x, dx, L, rfl, hx, hL, k⟩ := h
    obtain ⟨mc, u, hcr, hcv⟩ := Z.mostR
--TERM Values.__init__
    refine ⟨_, (pss_cons (ps_if (pt_not (pt_val (pe_cal c_is_letters (by decide) hr (pa_cons (pv 1) (pa_cons pe_int (pa_cons (pe_cvalK K (pe_ocl rfl Z.g_Values)) pa_nil)))))) (pss_one ps_never)
  pss_nil)
  (pss_one (ps_fldK K (pv 0) (pv 1)))), ?_⟩
--END
    refine ⟨_, rfl, c.vals, mc, _, u, rfl, hcr, hcv, ?_⟩
    refine ⟨L, 2, 4, rfl, by have := hL.lo; omega, by have := hL.hi; omega, by have := hL.hi; omega, hL.nd, hL.az, fun H1 sm => ?_⟩
    refine ⟨true, rfl, iteF ?_⟩
    refine ⟨_, rfl, _, rfl, x, _, dx, _, rfl, sm _ _ hx, Z.vl.cls, Z.vl.na _ (by simp [fieldNames]), by decide, ?_⟩
    exact k _ ((SameX.refl.then sm).put (by simp)) upd_same
theorem c_Values_eq (Z : TC K mg c) : FnR P w K mg base CX0 1 c.fValEq (spValEq c) := by
  have T := Z.T
  refine FunM.fn Z.f_ValEq sc_Values_eq (fun _ _ _ _ _ _ us hl => match us, hl with | [_, _], _ => rfl) (fun vs H Q E h => ?_) (fun cdv A outer s H vs Q E hr h => ?_)
  · obtain ⟨v, v', L, rfl, _⟩ := h
    rfl
  · obtain ⟨v, v', L, rfl, ⟨d1, h1⟩, ⟨d2, h2⟩, k⟩ := h
--TERM Values.__eq__
    refine ⟨_, (pss_one (ps_ret (pe_and (pe_callB (call_isiKK K) (by rfl) T.b_isinstance bt_isinstance (pa_cons (pv 1) (pa_cons (pe_ocl rfl Z.g_Values) pa_nil))) (pe_one (pe_cmpR op_eq (pe_fldK K (pv 0)) (pe_fldK K (pv 1)) (nomark _)))))), ?_⟩
--END
    refine ⟨_, rfl, _, _, _, _, true, rfl, .own _, Z.tyOf (by simp [Cs.all]) h2, kit_self, true, rfl, ?_⟩
    rw [if_pos rfl]
    refine ⟨_, rfl, v, _, _, _, _, rfl, h1, Z.vl.cls, Z.vl.na _ (by simp [fieldNames]), rfl, ?_⟩
    refine ⟨_, rfl, v', _, _, _, _, rfl, h2, Z.vl.cls, Z.vl.na _ (by simp [fieldNames]), rfl, rfl, ?_⟩
    rw [decide_eq_true rfl]
    exact k
end
end LW
end
section
set_option linter.all false
/-! bits of a sum of powers -/
namespace LS
theorem bit_add {e r i : Nat} (h : r.testBit e = false) : (2 ^ e + r).testBit i = (decide (i = e) || r.testBit i) := by
  rcases Nat.lt_trichotomy i e with hi | hi | hi
  · rw [Nat.testBit_two_pow_add_gt hi, decide_eq_false (Nat.ne_of_lt hi), Bool.false_or]
  · subst hi
    rw [Nat.testBit_two_pow_add_eq, h]
    simp
  · have e1 : (2 ^ e + r) / 2 ^ e = r / 2 ^ e + 1 := by
      rw [Nat.add_comm, Nat.add_div_right _ (Nat.two_pow_pos e)]
    have e2 : r / 2 ^ e % 2 = 0 := by
      have z := h
      rw [Nat.testBit_eq_decide_div_mod_eq] at z
      have := of_decide_eq_false z
      omega
    have e3 : (2 ^ e + r) / 2 ^ (e + 1) = r / 2 ^ (e + 1) := by
      rw [Nat.pow_succ, ← Nat.div_div_eq_div_mul, ← Nat.div_div_eq_div_mul, e1]
      omega
    obtain ⟨d, rfl⟩ := Nat.exists_eq_add_of_lt hi
    have e4 : ∀ y : Nat, y.testBit (e + d + 1) = (y / 2 ^ (e + 1)).testBit d := fun y => by
      rw [Nat.testBit_div_two_pow, show e + d + 1 = d + (e + 1) by omega]
    rw [e4, e4, e3, decide_eq_false (by omega), Bool.false_or]
theorem bit_sum : ∀ {es : List Nat}, es.Nodup → ∀ i : Nat, ((es.map fun e => 2 ^ e).sum).testBit i = decide (i ∈ es)
  | [], _, i => by simp
  | e :: es, h, i => by
    obtain ⟨h1, h2⟩ := List.nodup_cons.mp h
    have ih := bit_sum h2
    rw [List.map_cons, List.sum_cons, bit_add (by rw [ih, decide_eq_false h1]), ih]
    simp [List.mem_cons]
/-- the number of a cell's letters -/
def cellNum (L a : List Nat) : Nat := (a.map fun y => 2 ^ L.idxOf y).sum
theorem cellNum_bit {L a : List Nat} (ha : a.Nodup) (hL : L.Nodup) (hs : ∀ x ∈ a, x ∈ L) {i : Nat} (hi : i < L.length) : (cellNum L a).testBit i = decide (L[i] ∈ a) := by
  have inj : (a.map fun y => L.idxOf y).Nodup := by
    clear hi i
    induction a with
    | nil => simp
    | cons x r ih =>
      obtain ⟨h1, h2⟩ := List.nodup_cons.mp ha
      rw [List.map_cons, List.nodup_cons]
      refine ⟨fun z => ?_, ih h2 fun y hy => hs y (List.mem_cons_of_mem _ hy)⟩
      obtain ⟨y, hy, e⟩ := List.mem_map.mp z
      have hx := hs x List.mem_cons_self
      have hyL := hs y (List.mem_cons_of_mem _ hy)
      have e1 := LS.idxOf_at hx
      have e2 := LS.idxOf_at hyL
      rw [e] at e2
      have : x = y := Option.some.inj (e1.symm.trans e2)
      subst this
      exact h1 hy
  have e := bit_sum inj i
  unfold cellNum
  rw [List.map_map] at e
  refine e.trans ?_
  by_cases h : L[i] ∈ a
  · rw [decide_eq_true h, decide_eq_true]
    exact List.mem_map.mpr ⟨L[i], h, LS.idxOf_of hL (List.getElem?_eq_getElem hi)⟩
  · rw [decide_eq_false h, decide_eq_false]
    intro z
    obtain ⟨y, hy, ey⟩ := List.mem_map.mp z
    have e1 := LS.idxOf_at (hs y hy)
    rw [ey, List.getElem?_eq_getElem hi] at e1
    exact h (Option.some.inj e1 ▸ hy)
def cellLet (L : List Nat) (n : Nat) : List Nat := ((List.range L.length).filter fun i => n.testBit i).map fun i => L.getD i 0
theorem mem_cellLet {L a : List Nat} (ha : a.Nodup) (hL : L.Nodup) (hs : ∀ x ∈ a, x ∈ L) (y : Nat) : y ∈ cellLet L (cellNum L a) ↔ y ∈ a := by
  unfold cellLet
  rw [List.mem_map]
  constructor
  · rintro ⟨i, hi, rfl⟩
    obtain ⟨h1, h2⟩ := List.mem_filter.mp hi
    have hl := List.mem_range.mp h1
    rw [cellNum_bit ha hL hs hl] at h2
    rw [LS.getD_at hl]
    exact of_decide_eq_true h2
  · intro hy
    have hx := hs y hy
    have hl : L.idxOf y < L.length := List.idxOf_lt_length_iff.mpr hx
    have e1 := LS.idxOf_at hx
    rw [List.getElem?_eq_getElem hl] at e1
    have e2 := Option.some.inj e1
    refine ⟨L.idxOf y, List.mem_filter.mpr ⟨List.mem_range.mpr hl, ?_⟩, by rw [LS.getD_at hl]; exact e2⟩
    rw [cellNum_bit ha hL hs hl, e2]
    exact decide_eq_true hy
end LS
end
section
set_option Elab.async false
set_option linter.all false
set_option maxRecDepth 100000
set_option maxHeartbeats 1000000
/-! Cell(..), values.cell -/
namespace LW
open PySem PySem.Spec PyProof.Rows L2
abbrev st_Cell_init : Stmt := meth 27 0
theorem sc_Cell_init : FnScope ["self", "values", "number", "at", "letter"] ["self", "values", "number"] (defScope st_Cell_init) := ⟨rfl, rfl, rfl, by decide +kernel, rfl, by decide +kernel, by decide +kernel⟩
abbrev st_Values_cell : Stmt := meth 28 3
theorem sc_Values_cell : FnScope ["self", "letters", "letter"] ["self", "letters"] (defScope st_Values_cell) := ⟨rfl, rfl, rfl, by decide +kernel, rfl, by decide +kernel, by decide +kernel⟩
def RFlt (f : Nat → Bool) (g : Nat → V) : Nat → List V → Hp → Prop := fun i acc _ => acc = ((List.range i).filter f).map g
theorem rflt_push {f : Nat → Bool} {g : Nat → V} {i : Nat} {acc : List V} {H H' : Hp} {y : V} (r : RFlt f g i acc H) (e : f i = true) (ey : y = g i) : RFlt f g (i + 1) (acc ++ [y]) H' := by
  unfold RFlt at r ⊢
  rw [List.range_succ, List.filter_append, List.map_append, r, List.filter_cons_of_pos e, ey] <;> rfl
theorem rflt_skip {f : Nat → Bool} {g : Nat → V} {i : Nat} {acc : List V} {H H' : Hp} (r : RFlt f g i acc H) (e : f i = false) : RFlt f g (i + 1) acc H' := by
  unfold RFlt at r ⊢
  rw [List.range_succ, List.filter_append, List.map_append, r, List.filter_cons_of_neg (by rw [e]; decide)] <;> simp
theorem bit_and1 (n i : Nat) : decide (V.int (Builtin.bitAnd ((n : Int) / 2 ^ ((i : Int)).toNat) 1) = V.int 1) = n.testBit i := by
  have e1 : (n : Int) / 2 ^ ((i : Int)).toNat = ((n / 2 ^ i : Nat) : Int) := by
    rw [Int.toNat_natCast, Int.natCast_ediv, Int.natCast_pow] <;> rfl
  have e2 : Builtin.bitAnd ((n / 2 ^ i : Nat) : Int) 1 = ((n / 2 ^ i % 2 : Nat) : Int) := by
    unfold Builtin.bitAnd
    rw [decide_eq_true (Int.natCast_nonneg _)]
    show (((((n / 2 ^ i : Nat) : Int).toNat &&& (1 : Int).toNat : Nat)) : Int) = _
    rw [Int.toNat_natCast, show (1 : Int).toNat = 1 from rfl, Nat.and_one_is_mod]
  rw [e1, e2, Nat.testBit_eq_decide_div_mod_eq, decide_eq_decide]
  constructor
  · intro z
    have := V.int.inj z
    omega
  · intro z
    rw [z] <;> rfl
theorem joinL_nil : ∀ l : List (List Nat), TL.joinL [] l = l.flatten
  | [] => rfl
  | [p] => by simp [TL.joinL]
  | p :: q :: r => by
    show p ++ ([] ++ TL.joinL [] (q :: r)) = _
    rw [joinL_nil (q :: r), List.nil_append, List.flatten_cons (l := p)]
theorem join_parts (l : List (List Nat)) : Txt.join (Str.ofString "") (l.map Sg) = Sg l.flatten := by
  rw [show Str.ofString "" = Sg [] from rfl]
  exact (SX.join_S [] l).trans (by rw [joinL_nil])
theorem flat_ones (l : List Nat) : (l.map fun y => [y]).flatten = l := by
  induction l with
  | nil => rfl
  | cons a r ih => rw [List.map_cons, List.flatten_cons, ih] <;> rfl
theorem join_ones (l : List Nat) : Txt.join (Str.ofString "") (l.map fun y => Sg [y]) = Sg l := by
  have := join_parts (l.map fun y => [y])
  rw [List.map_map, flat_ones] at this
  exact this
theorem sum_ones (l : List Nat) : ((l.map fun y => Sg [y]).map fun x => x.length).sum = l.length := by
  induction l with
  | nil => rfl
  | cons a r ih =>
    rw [List.map_cons, List.map_cons, List.sum_cons, ih, S_length, List.length_cons]
    simp
    omega
def spCellI (c : Cs) : Sp := fun vs H Q _ => ∃ (x v dx : Addr) (L : List Nat) (n : Nat), vs = [.ref x, .ref v, nV n] ∧ H x = some (.ins c.cell dx []) ∧ ValO c H v L ∧ L.length ≤ 100 ∧
  ∀ H', SameX [x] H H' → H' x = some (.ins c.cell dx [("alphabet", .ref v), ("number", nV n), ("letters", .str (Sg (LS.cellLet L n)))]) → Q .non H'
def spVCell (c : Cs) : Sp := fun vs H Q _ => ∃ (v : Addr) (L a : List Nat), vs = [.ref v, .str (Sg a)] ∧ ValO c H v L ∧ L.length ≤ 100 ∧ L.Nodup ∧ a.length ≤ 4000 ∧ a.Nodup ∧ (∀ y ∈ a, y ∈ L) ∧
  ∀ p b H', (∀ y, y ∈ b ↔ y ∈ a) → Same H H' → CellO c H' p b → Q (.ref p) H'
section
variable {P : Program} {w : World} {K : PySem.W.Frag} {mg : Str → Option Value} {base : Heap} {c : Cs}
theorem c_Cell_init (Z : TC K mg c) : FnR P w K mg base CX0 1 c.fCell (spCellI c) := by
  have T := Z.T
  refine FunM.fn Z.f_Cell sc_Cell_init (fun _ _ _ _ _ _ us hl => match us, hl with | [_, _, _], _ => rfl) (fun vs H Q E h => ?_) (fun cdv A outer s H vs Q E hr h => ?_)
  · obtain ⟨x, v, dx, L, n, rfl, _⟩ := h
    rfl
  · obtain ⟨x, v, dx, L, n, rfl, hx, ⟨dv, hv⟩, hz, k⟩ := h
--TERM Cell.__init__
    refine ⟨_, (pss_cons (ps_fldK K (pv 0) (pv 1))
  (pss_cons (ps_fldK K (pv 0) (pv 2))
  (pss_one (ps_fldK K (pv 0) (pe_bmK K PySem.F.plainAttrs_str PySem.F.slot_str_join PySem.F.type_str_join (mt_joinK K) pe_str (pa_cons (pe_lc (own := [("at", 3), ("letter", 4)]) rfl sc_Cell_init.nd (pi_enumS K T.b_enumerate (pa_cons (pe_fldK K (pv 1)) pa_nil)) (blkOk_by (own := [("at", 3), ("letter", 4)]) (by kernel_rfl)) (fun _ _ _ _ _ => (pg_tupK K (n := 2) (pgs_cons (pg_name (i := 3) sc_Cell_init.nd rfl (Or.inl rfl) (.inr rfl)) (pgs_cons (pg_name (i := 4) sc_Cell_init.nd rfl (Or.inl rfl) (.inr rfl)) pgs_nil)))) (fun _ _ _ _ _ => (pts_one (pt_cmpR op_eq (pe_op op_and (pe_op op_shr (pv 2) (pv 3)) pe_int) pe_int (nomark _)))) (fun _ _ _ _ _ => (pv 4))) pa_nil)))))), ?_⟩
--END
    have hvx : v ≠ x := fun z => by
      rw [z, hx] at hv
      injection Option.some.inj hv with _ _ h3
      cases h3
    refine ⟨_, rfl, _, rfl, x, _, dx, _, rfl, hx, Z.ce.cls, Z.ce.na _ (by simp [fieldNames]), by decide, ?_⟩
    refine ⟨_, rfl, _, rfl, x, _, dx, _, rfl, upd_same, Z.ce.cls, Z.ce.na _ (by simp [fieldNames]), by show 1 < 1000; decide, ?_⟩
    rw [upd_upd, show putF (Str.ofString "alphabet") (V.ref v) [] = [(Str.ofString "alphabet", V.ref v)] from rfl, putF_new (f := Str.ofString "number") rfl]
    have hv1 : ∀ o, upd H x o v = some (.ins c.vals dv [("letters", .str (Sg L))]) := fun o => by rw [upd_ne hvx]; exact hv
    generalize hH1 : upd H x _ = H1
    have hv2 : H1 v = some (.ins c.vals dv [("letters", .str (Sg L))]) := by rw [← hH1]; exact hv1 _
    have hx2 : H1 x = some (.ins c.cell dx [("alphabet", .ref v), ("number", nV n)]) := by rw [← hH1, upd_same] <;> rfl
    have sx : SameX [x] H H1 := by rw [← hH1]; exact SameX.refl.put (by simp)
    refine ⟨rfl, _, rfl, v, _, _, _, _, rfl, hv2, Z.vl.cls, Z.vl.na _ (by simp [fieldNames]), rfl, .txt (Sg L), L.map fun y => V.str (Sg [y]), rfl, chars_S L, fun D nD => lc_it (walk_enumS (K := K) (S := .txt (Sg L)) (xs := L.map fun y => V.str (Sg [y])))
      (LcPv (RFlt (fun i => n.testBit i) fun i => V.str (Sg [L.getD i 0])) H1 D) (pv_start nD rfl) (fun _ _ _ _ => chars_S L) ?_ ?_⟩
    · rintro i y H2 H3 hi ⟨acc, eD, hl, sm, r⟩ ⟨t, y1, y2, rfl, nt, rfl, e1, e2⟩
      cases e1
      obtain ⟨p, ep, rfl⟩ := of_map_at e2
      have s23 : Same H2 (upd H2 t (.tup [.int (i : Nat), .str (Sg [p])])) := same_new nt
      refine ⟨t, _, rfl, SqT.of upd_same, rfl, _, _, rfl, _, _, rfl, rfl, rfl, ?_⟩
      refine ⟨_, rfl, _, rfl, _, _, rfl, rfl, by omega, _, _, rfl, rfl, rfl, _, rfl, ?_⟩
      rw [bit_and1]
      have hp : L.getD i 0 = p := by rw [List.getD_eq_getElem?_getD, ep] <;> rfl
      have s34 := s23
      have eD2 := s23 D _ eD
      have hi2 : i < 100 := by rw [List.length_map] at hi; omega
      cases hb : n.testBit i with
      | true => exact iteT ⟨_, rfl, pv_push eD hl sm s23 (by omega) (rflt_push r hb (by rw [hp]))⟩
      | false => exact iteF (pv_skip eD hl sm s23 (rflt_skip r hb))
    · rintro H2 ⟨acc, eD, hl, sm, r⟩
      have hlen : (LS.cellLet L n).length ≤ 100 := by
        unfold LS.cellLet
        rw [List.length_map]
        exact Nat.le_trans (List.length_filter_le _ _) (by rw [List.length_range]; exact hz)
      refine ⟨Str.ofString "", D, (LS.cellLet L n).map fun y => Sg [y], rfl, rfl, .inl (SqL.of ?_), ?_, ?_⟩
      · rw [eD, show acc = _ from r]
        unfold LS.cellLet
        simp [List.map_map]
      · rw [sum_ones, show (Str.ofString "").length = 0 from rfl]
        omega
      · rw [join_ones]
        have s12 := sm_trans sm hid_sub
        refine ⟨_, rfl, x, _, dx, _, rfl, s12 _ _ hx2, Z.ce.cls, Z.ce.na _ (by simp [fieldNames]), by show 2 < 1000; decide, ?_⟩
        refine k _ ((sx.then s12).put (by simp)) ?_
        rw [upd_same, putF_new rfl] <;> rfl
theorem made_same {H0 H2 H' : Hp} {x dx : Addr} {o o' : HO} (s : Same H0 H2) (nx : H2 x = none) (ndx : H2 dx = none) (e : SameX [x] (upd (upd H2 dx o) x o') H') : Same H0 H' := fun b u hb => by
  have h2 := s _ _ hb
  have n1 := ne_of_none h2 nx
  have n2 := ne_of_none h2 ndx
  exact e b u (by simpa using n1) (by rw [upd_ne n1, upd_ne n2]; exact h2)
theorem cast_sum (l : List Nat) (f : Nat → Nat) : (l.map fun y => ((f y : Nat) : Int)).sum = (((l.map f).sum : Nat) : Int) := by
  induction l with
  | nil => rfl
  | cons a r ih => rw [List.map_cons, List.sum_cons, ih, List.map_cons, List.sum_cons, Int.natCast_add]
theorem occ_at {L : List Nat} {y : Nat} (hL : L.Nodup) (hy : y ∈ L) : ∃ rest, Builtin.Str.occurrences (Sg L) (Sg [y]) 0 (Sg L).length 1 = L.idxOf y :: rest := by
  have h1 := in_S L y
  rw [decide_eq_true hy] at h1
  cases e : Builtin.Str.occurrences (Sg L) (Sg [y]) 0 (Sg L).length 1 with
  | nil =>
    rw [e] at h1
    cases h1
  | cons i rest =>
    refine ⟨rest, ?_⟩
    obtain ⟨h2, h3⟩ := PySem.StrLaws.occ_spec (Sg L) (Sg [y]) 0 (Sg L).length 1 i (by rw [e]; exact List.mem_cons_self)
    rw [S_length, S_length, List.length_singleton] at h2
    have h4 : (Sg L).cps.extract i (i + 1) = #[y] := beq_iff_eq.mp h3
    have h5 : L[i]? = some y := by
      have h6 := congrArg (fun a : Array Nat => a[0]?) h4
      simp only [Array.getElem?_extract] at h6
      have h7 : 0 < min (i + 1) L.length - i ∧ L[i]? = some y := by simpa [SX.S] using h6
      exact h7.2
    rw [LS.idxOf_of hL h5]
theorem c_Values_cell (Z : TC K mg c) : FnR P w K mg base CX0 3 c.fValCell (spVCell c) := by
  have T := Z.T
  have c_is_cell_string := c_is_cell_string (P := P) (w := w) (base := base) T
  have c_Cell_init := c_Cell_init (P := P) (w := w) (base := base) Z
  refine FunM.fn Z.f_ValCell sc_Values_cell (fun _ _ _ _ _ _ us hl => match us, hl with | [_, _], _ => rfl) (fun vs H Q E h => ?_) (fun cdv A outer s H vs Q E hr h => ?_)
  · obtain ⟨v, L, a, rfl, _⟩ := h
    rfl
  · obtain ⟨v, L, a, rfl, ⟨dv, hv⟩, hz, hL, ha, hn, hs, k⟩ := h
--TERM Values.cell
    refine ⟨_, (pss_cons (ps_if (pt_not (pt_val (pe_cal c_is_cell_string (by decide) hr (pa_cons (pe_fldK K (pv 0)) (pa_cons (pv 1) pa_nil))))) (pss_one ps_never)
  pss_nil)
  (pss_one (ps_ret (pe_mkR Z.mk_cell c_Cell_init (by decide) hr rfl Z.g_Cell (pa_cons (pv 0) (pa_cons (pe_callB (cr_sumK K) (by rfl) T.b_sum bt_sum (pa_cons (pe_lc (own := [("letter", 2)]) rfl sc_Values_cell.nd (pi_str (pv 1)) (blkOk_by (own := [("letter", 2)]) (by kernel_rfl)) (fun _ _ _ _ _ => (pg_name (i := 2) sc_Values_cell.nd rfl (Or.inl rfl))) (fun _ _ _ _ _ => pts_nil) (fun _ _ _ _ _ => (pe_op op_shl pe_int (pe_bmK K PySem.F.plainAttrs_str PySem.F.slot_str_index PySem.F.type_str_index mt_sindex (pe_fldK K (pv 0)) (pa_cons (pv 2) pa_nil))))) pa_nil)) pa_nil)))))), ?_⟩
--END
    refine ⟨_, rfl, v, _, _, _, _, rfl, hv, Z.vl.cls, Z.vl.na _ (by simp [fieldNames]), rfl, _, rfl, ?_⟩
    refine ⟨L, a, rfl, ha, hn, hs, fun H1 s1 => ⟨true, rfl, iteF ?_⟩⟩
    have hv1 := s1 _ _ hv
    refine ⟨_, rfl, _, rfl, Sg a, rfl, lc_txt (fun D => LcPv (RMap fun i => nV (2 ^ L.idxOf (a.getD i 0))) H1 D) (fun D nD => pv_start nD rfl) ?_ ?_⟩
    · rintro D i y H2 nD hy ⟨acc, eD, hl, sm, r⟩
      have s2 := sm_trans sm hid_sub
      have hyL := hs y (List.mem_of_getElem? hy)
      have hi : i < a.length := (List.getElem?_eq_some_iff.mp hy).1
      have hy2 : a.getD i 0 = y := by rw [List.getD_eq_getElem?_getD, hy] <;> rfl
      obtain ⟨rest, ho⟩ := occ_at hL hyL
      have hix : L.idxOf y < L.length := List.idxOf_lt_length_iff.mpr hyL
      refine ⟨rfl, _, rfl, v, _, _, _, _, rfl, s2 _ _ hv1, Z.vl.cls, Z.vl.na _ (by simp [fieldNames]), rfl, rfl, _, rfl, _, _, _, _, rfl, rfl, ho, _, _, rfl, rfl, ⟨by omega, by omega, by decide⟩, ?_⟩
      refine pv_push eD hl sm (Same.refl _) (by omega) (rmap_push r ?_)
      rw [hy2]
      simp
    · rintro D H2 nD ⟨acc, eD, hl, sm, r⟩
      have s2 := sm_trans sm hid_sub
      refine ⟨D, a.map fun y => ((2 ^ L.idxOf y : Nat) : Int), rfl, SqL.of ?_, ?_⟩
      · rw [eD, show acc = _ from r, map_range_getD a 0 fun y => nV (2 ^ L.idxOf y), List.map_map] <;> rfl
      · have e : (a.map fun y => ((2 ^ L.idxOf y : Nat) : Int)).sum = ((LS.cellNum L a : Nat) : Int) := cast_sum a fun y => 2 ^ L.idxOf y
        rw [e]
        intro x dx nx ndx hne
        have nvx : ∀ z : Addr, z = v → H2 z ≠ none := fun z e => by rw [e, s2 _ _ hv1]; intro q; cases q
        refine ⟨x, v, dx, L, LS.cellNum L a, rfl, upd_same, ⟨dv, ?_⟩, hz, fun H' sx hx' => ⟨rfl, ?_⟩⟩
        · rw [upd_ne (ne_of_none (s2 _ _ hv1) nx), upd_ne (ne_of_none (s2 _ _ hv1) ndx)]
          exact s2 _ _ hv1
        · refine k x (LS.cellLet L (LS.cellNum L a)) H' (LS.mem_cellLet hn hL hs) (made_same (sm_trans s1 s2) nx ndx sx) ⟨dx, v, _, hx'⟩
end
end LW
end
section
set_option Elab.async false
set_option linter.all false
set_option maxRecDepth 100000
set_option maxHeartbeats 1000000
/-! need_values, is_word, need_room, Clue(..) -/
namespace LW
open PySem PySem.Spec PyProof.Rows L2
theorem pe_never {X : Cx} {e : Expr} : PE X e (fun _ _ _ => False) := ⟨fun _ _ _ _ _ _ h => h.elim⟩
abbrev st_need_values : Stmt := top 33
theorem sc_need_values : FnScope ["values"] ["values"] (defScope st_need_values) := ⟨rfl, rfl, rfl, by decide +kernel, rfl, by decide +kernel, by decide +kernel⟩
abbrev st_is_word : Stmt := top 35
theorem sc_is_word : FnScope ["values", "thing", "letter"] ["values", "thing"] (defScope st_is_word) := ⟨rfl, rfl, rfl, by decide +kernel, rfl, by decide +kernel, by decide +kernel⟩
abbrev st_need_room : Stmt := top 36
theorem sc_need_room : FnScope ["table"] ["table"] (defScope st_need_room) := ⟨rfl, rfl, rfl, by decide +kernel, rfl, by decide +kernel, by decide +kernel⟩
abbrev st_cell_told : Stmt := top 29
theorem sc_cell_told : FnScope ["values", "thing"] ["values", "thing"] (defScope st_cell_told) := ⟨rfl, rfl, rfl, by decide +kernel, rfl, by decide +kernel, by decide +kernel⟩
def spNeedV (c : Cs) : Sp := fun vs H Q _ => ∃ (v : Addr) (L : List Nat), vs = [.ref v] ∧ ValO c H v L ∧ Q .non H
def spIsWord (c : Cs) : Sp := fun vs H Q _ => ∃ (v : Addr) (L a : List Nat), vs = [.ref v, .str (Sg a)] ∧ ValO c H v L ∧ a.length ≤ 4000 ∧ (∀ y ∈ a, y ∈ L) ∧ ∀ H', Same H H' → Q (.bl true) H'
def spRoom (K : PySem.W.Frag) : Sp := fun vs H Q _ => ∃ (p r t : Addr) (xs : List V), vs = [.ref p] ∧ H p = some (.tup [.ref r, .ref t]) ∧ SqA K H r xs ∧ xs.length ≤ 64 ∧ Q (.ref p) H
section
variable {P : Program} {w : World} {K : PySem.W.Frag} {mg : Str → Option Value} {base : Heap} {c : Cs}
theorem c_need_values (Z : TC K mg c) : Cal P w K mg base "need_values" 1 ["values"] (spNeedV c) := by
  have T := Z.T
  refine FunG.cal T.f_need_values sc_need_values (fun _ _ _ _ _ _ us hl => match us, hl with | [_], _ => rfl) (fun vs H Q E h => ?_) (fun f cdv A outer s H vs Q E hr h => ?_)
  · obtain ⟨v, L, rfl, _⟩ := h
    rfl
  · obtain ⟨v, L, rfl, ⟨dx, hv⟩, k⟩ := h
--TERM need_values
    refine ⟨_, (pss_one (ps_if (pt_not (pt_val (pe_callB (call_isiKK K) (by rfl) T.b_isinstance bt_isinstance (pa_cons (pv 0) (pa_cons (pe_ocl rfl Z.g_Values) pa_nil))))) (pss_one ps_never)
  pss_nil)), ?_⟩
--END
    refine ⟨_, rfl, _, _, _, _, true, rfl, .own _, Z.tyOf (by simp [Cs.all]) hv, kit_self, true, rfl, ?_⟩
    exact iteF k
theorem c_is_word (Z : TC K mg c) : Cal P w K mg base "is_word" 2 ["values", "thing"] (spIsWord c) := by
  have T := Z.T
  have c_Values_contains := c_Values_contains (P := P) (w := w) (base := base) Z
  refine FunG.cal T.f_is_word sc_is_word (fun _ _ _ _ _ _ us hl => match us, hl with | [_, _], _ => rfl) (fun vs H Q E h => ?_) (fun f cdv A outer s H vs Q E hr h => ?_)
  · obtain ⟨v, L, a, rfl, _⟩ := h
    rfl
  · obtain ⟨v, L, a, rfl, ⟨dx, hv⟩, ha, hs, k⟩ := h
--TERM is_word
    refine ⟨_, (pss_one (ps_ret (pe_and (pe_callB (call_isiKK K) (by rfl) T.b_isinstance bt_isinstance (pa_cons (pv 1) (pa_cons (pe_bty (by rfl) T.b_str bt_str) pa_nil))) (pe_one (pe_callB (cr_allK K) (by rfl) T.b_all bt_all (pa_cons (pe_lc (own := [("letter", 2)]) rfl sc_is_word.nd (pi_str (pv 1)) (blkOk_by (own := [("letter", 2)]) (by kernel_rfl)) (fun _ _ _ _ _ => (pg_name (i := 2) sc_is_word.nd rfl (Or.inl rfl))) (fun _ _ _ _ _ => pts_nil) (fun _ _ _ _ _ => (pe_cmpR (op_ownInK K c_Values_contains (hr.mono (by decide))) (pv 2) (pv 0) (by rfl)))) pa_nil)))))), ?_⟩
--END
    refine ⟨_, rfl, _, _, _, _, true, rfl, .ty _, .base (.str _), kit_str_str, true, rfl, ?_⟩
    rw [if_pos rfl]
    refine ⟨_, rfl, Sg a, rfl, lc_txt (fun D => LcPv (RMap fun _ => V.bl true) H D) (fun D nD => pv_start nD rfl) ?_ ?_⟩
    · rintro D i y H1 nD hc ⟨acc, eD, hl, sm, r⟩
      have hc5 := hs y (List.mem_of_getElem? hc)
      have hi : i < a.length := (List.getElem?_eq_some_iff.mp hc).1
      have s1 := sm_trans sm hid_sub
      refine ⟨rfl, _, rfl, _, rfl, v, _, _, _, rfl, s1 _ _ hv, Z.s_vin, v, L, y, rfl, ⟨dx, s1 _ _ hv⟩, _, rfl, ?_⟩
      exact pv_push eD hl sm (Same.refl _) (by omega) (rmap_push r (by rw [decide_eq_true hc5] <;> rfl))
    · rintro D H1 nD ⟨acc, eD, hl, sm, r⟩
      have e1 : acc = (List.replicate a.length true).map V.bl := by
        rw [show acc = _ from r, List.map_replicate]
        exact List.ext_getElem (by simp) (by simp)
      refine ⟨D, List.replicate a.length true, rfl, SqL.of (by rw [eD, e1]), ?_⟩
      have e2 : (List.replicate a.length true).all id = true := List.all_eq_true.mpr fun x hx => (List.mem_replicate.mp hx).2
      rw [e2]
      exact k H1 (sm_trans sm hid_sub)
theorem c_need_room (T : Txt K mg) : Cal P w K mg base "need_room" 1 ["table"] (spRoom K) := by
  refine FunG.cal T.f_need_room sc_need_room (fun _ _ _ _ _ _ us hl => match us, hl with | [_], _ => rfl) (fun vs H Q E h => ?_) (fun f cdv A outer s H vs Q E hr h => ?_)
  · obtain ⟨p, r, t, xs, rfl, _⟩ := h
    rfl
  · obtain ⟨p, r, t, xs, rfl, hp, hs, hl, k⟩ := h
--TERM need_room
    refine ⟨_, (pss_cons (ps_if (PW.pt (pw_or (pt_cmpR op_isN (pv 0) pe_non (nomark _)) (pw_or1 (pt_cmpR op_gt (pe_callB (call_lenK K) (by rfl) T.b_len PySem.boot_len (pa_cons (pe_ix (ix_tupK K) (pv 0) pe_int (fun _ _ => rfl)) pa_nil)) (pe_gci rfl T.g_MOST_STATES) (nomark _))))) (pss_one ps_never)
  pss_nil)
  (pss_one (ps_ret (pv 0)))), ?_⟩
--END
    have hlen : LenV K (.ref r) H xs.length := hs.elim (fun z => .inl ⟨_, z, rfl⟩) fun z => .inr ⟨_, z, rfl⟩
    refine ⟨_, rfl, rfl, _, rfl, ?_⟩
    rw [decide_eq_false (fun z => by cases z)]
    refine iteF ?_
    refine ⟨_, rfl, p, _, 0, _, rfl, rfl, SqT.of hp, rfl, _, _, rfl, hlen, _, _, rfl, rfl, _, rfl, ?_⟩
    rw [decide_eq_false (by omega)]
    exact iteF ⟨_, rfl, k⟩
end
end LW
end
section
set_option Elab.async false
set_option linter.all false
set_option maxRecDepth 100000
set_option maxHeartbeats 1000000
/-! cell_told, values.renamed -/
namespace LW
open PySem PySem.Spec PyProof.Rows L2
abbrev st_Values_renamed : Stmt := meth 28 8
theorem sc_Values_renamed : FnScope ["self", "names", "found", "letter"] ["self", "names"] (defScope st_Values_renamed) := ⟨rfl, rfl, rfl, by decide +kernel, rfl, by decide +kernel, by decide +kernel⟩
def spTold (c : Cs) : Sp := fun vs H Q _ => ∃ (v : Addr) (L a : List Nat), vs = [.ref v, .str (Sg a)] ∧ ValO c H v L ∧ L.length ≤ 100 ∧ L.Nodup ∧ a.length ≤ 4000 ∧ a.Nodup ∧ (∀ y ∈ a, y ∈ L) ∧
  ∀ p b H', (∀ y, y ∈ b ↔ y ∈ a) → Same H H' → CellO c H' p b → Q (.ref p) H'
/-- the names of signs as a dict -/
abbrev sK (y : Nat) : Key := .inr (Sg [y])
theorem sK_inj (x y : Nat) (h : sK x = sK y) : x = y := by
  have h1 := Sum.inr.inj h
  have h2 := congrArg (fun s : Str => s.cps.toList) h1
  simpa [SX.S] using h2
def nmsOf (g : Nat → Nat) (L : List Nat) : List (Key × V) := L.map fun y => (sK y, .str (Sg [g y]))
def spVRen (c : Cs) : Sp := fun vs H Q _ => ∃ (v nd : Addr) (L : List Nat) (g : Nat → Nat), vs = [.ref v, .ref nd] ∧ ValO c H v L ∧ H nd = some (.dK (nmsOf g L)) ∧ L.length ≤ 4 ∧ Abc (L.map g) ∧
  ∀ p H', Same H H' → ValO c H' p (L.map g) → Q (.ref p) H'
section
variable {P : Program} {w : World} {K : PySem.W.Frag} {mg : Str → Option Value} {base : Heap} {c : Cs}
theorem c_cell_told (Z : TC K mg c) : Cal P w K mg base "cell_told" 4 ["values", "thing"] (spTold c) := by
  have T := Z.T
  have c_is_cell_string := c_is_cell_string (P := P) (w := w) (base := base) T
  have c_Values_cell := c_Values_cell (P := P) (w := w) (base := base) Z
  refine FunG.cal T.f_cell_told sc_cell_told (fun _ _ _ _ _ _ us hl => match us, hl with | [_, _], _ => rfl) (fun vs H Q E h => ?_) (fun f cdv A outer s H vs Q E hr h => ?_)
  · obtain ⟨v, L, a, rfl, _⟩ := h
    rfl
  · obtain ⟨v, L, a, rfl, ⟨dv, hv⟩, hz, hL, ha, hn, hs, k⟩ := h
--TERM cell_told
    refine ⟨_, (pss_cons (ps_if (pt_val (pe_callB (call_isiKK K) (by rfl) T.b_isinstance bt_isinstance (pa_cons (pv 1) (pa_cons (pe_ocl rfl Z.g_Cell) pa_nil)))) (pss_one (ps_ret (pe_never)))
  pss_nil)
  (pss_one (ps_ret (pe_ifExp (pt_val (pe_cal c_is_cell_string (by decide) hr (pa_cons (pe_fldK K (pv 0)) (pa_cons (pv 1) pa_nil)))) (pe_me K c_Values_cell (by decide) hr (pv 0) (pa_cons (pv 1) pa_nil)) pe_non)))), ?_⟩
--END
    refine ⟨_, rfl, _, _, _, _, false, rfl, .own _, .base (.str _), Z.kit_str, _, rfl, iteF ?_⟩
    refine ⟨_, rfl, v, _, _, _, _, rfl, hv, Z.vl.cls, Z.vl.na _ (by simp [fieldNames]), rfl, _, rfl, ?_⟩
    refine ⟨L, a, rfl, ha, hn, hs, fun H1 s1 => ⟨true, rfl, iteT ?_⟩⟩
    refine ⟨_, rfl, v, _, _, _, rfl, s1 _ _ hv, Z.vl.cls, Z.m_vcell, rfl, _, rfl, v, L, a, rfl, ⟨dv, s1 _ _ hv⟩, hz, hL, ha, hn, hs, fun p b H' hb s2 hp => k p b H' hb (sm_trans s1 s2) hp⟩
theorem c_Values_renamed (Z : TC K mg c) : FnR P w K mg base CX0 4 c.fValRen (spVRen c) := by
  have T := Z.T
  have c_is_letters := c_is_letters (P := P) (w := w) (base := base) T
  have c_Values_init := c_Values_init (P := P) (w := w) (base := base) Z
  refine FunM.fn Z.f_ValRen sc_Values_renamed (fun _ _ _ _ _ _ us hl => match us, hl with | [_, _], _ => rfl) (fun vs H Q E h => ?_) (fun cdv A outer s H vs Q E hr h => ?_)
  · obtain ⟨v, nd, L, g, rfl, _⟩ := h
    rfl
  · obtain ⟨v, nd, L, g, rfl, ⟨dv, hv⟩, hd, hz, hM, k⟩ := h
    have hu := hu_of hr
--TERM Values.renamed
    refine ⟨_, (pss_cons (ps_if (PW.pt (pw_or (pt_not (pt_val (pe_callB (call_isiKK K) (by rfl) T.b_isinstance bt_isinstance (pa_cons (pv 1) (pa_cons (pe_bty (by rfl) T.b_dict bt_dict) pa_nil))))) (pw_or1 (pt_cmpR op_ne (pe_callB call_lenD (by rfl) T.b_len PySem.boot_len (pa_cons (pv 1) pa_nil)) (pe_callB (call_lenK K) (by rfl) T.b_len PySem.boot_len (pa_cons (pe_fldK K (pv 0)) pa_nil)) (nomark _))))) (pss_one ps_never)
  pss_nil)
  (pss_cons (ps_if (pt_not (pt_val (pe_callB (cr_allK K) (by rfl) T.b_all bt_all (pa_cons (pe_lc (own := [("letter", 3)]) rfl sc_Values_renamed.nd (pi_str (pe_fldK K (pv 0))) (blkOk_by (own := [("letter", 3)]) (by kernel_rfl)) (fun _ _ _ _ _ => (pg_name (i := 3) sc_Values_renamed.nd rfl (Or.inl rfl))) (fun _ _ _ _ _ => pts_nil) (fun _ _ _ _ _ => (pe_cmp (pc_din hu (pv 3) (pv 1))))) pa_nil)))) (pss_one ps_never)
  pss_nil)
  (pss_cons (ps_setLc (i := 2) (own := [("letter", 3)]) rfl sc_Values_renamed.nd rfl rfl (sw_true rfl rfl rfl (by decide +kernel)) (pi_str (pe_fldK K (pv 0))) (blkOk_by (own := [("letter", 3)]) (by kernel_rfl)) (fun _ _ _ _ _ => (pg_name (i := 3) sc_Values_renamed.nd rfl (Or.inl rfl))) (fun _ _ _ _ _ => pts_nil) (fun _ _ _ _ _ => (pe_dget hu (pv 1) (pv 3) (fun _ _ => rfl))))
  (pss_cons (ps_if (PW.pt (pw_or (pt_not (pt_val (pe_callB (cr_allK K) (by rfl) T.b_all bt_all (pa_cons (pe_lc (own := [("letter", 3)]) rfl sc_Values_renamed.nd (pi_listK K (pv 2)) (blkOk_by (own := [("letter", 3)]) (by kernel_rfl)) (fun _ _ _ _ _ => (pg_name (i := 3) sc_Values_renamed.nd rfl (Or.inl rfl))) (fun _ _ _ _ _ => pts_nil) (fun _ _ _ _ _ => (pe_cal c_is_letters (by decide) hr (pa_cons (pv 3) (pa_cons pe_int (pa_cons pe_int pa_nil)))))) pa_nil)))) (pw_or1 (pt_cmpR op_lt (pe_lenSetK K rfl T.b_len rfl T.b_set (pv 2)) (pe_callB (call_lenK K) (by rfl) T.b_len PySem.boot_len (pa_cons (pv 2) pa_nil)) (nomark _))))) (pss_one ps_never)
  pss_nil)
  (pss_one (ps_ret (pe_mkR Z.mk_vals c_Values_init (by decide) hr rfl Z.g_Values (pa_cons (pe_bmK K PySem.F.plainAttrs_str PySem.F.slot_str_join PySem.F.type_str_join (mt_joinK K) pe_str (pa_cons (pv 2) pa_nil)) pa_nil)))))))), ?_⟩
--END
    refine ⟨_, rfl, _, _, _, _, true, rfl, .ty _, .base (.dK hd), kit_self, true, rfl, iteF ?_⟩
    refine ⟨_, rfl, nd, _, rfl, hd, ?_⟩
    have hS := S_length L
    have hln : (nmsOf g L).length = L.length := by unfold nmsOf; rw [List.length_map]
    have fld : ∀ {H' : Hp} {Q : VK} {x1 x2 x3 : Option V}, Same H H' → Q (.str (Sg L)) H' → tFld K (tVar 0) (Str.ofString "letters") [some (.ref v), x1, x2, x3] H' Q := fun sm q => ⟨_, rfl, v, _, _, _, _, rfl, sm _ _ hv, Z.vl.cls, Z.vl.na _ (by simp [fieldNames]), rfl, q⟩
    have hval : ∀ y ∈ L, valV (nmsOf g L) (sK y) = some (.str (Sg [g y])) := fun y hy => by
      unfold nmsOf
      rw [valV_map sK sK_inj (fun y => V.str (Sg [g y])) y, if_pos hy]
    refine fld (Same.refl _) ⟨_, L.length, rfl, ⟨by rw [hS]; exact Nat.le_trans hz (by decide), hS.symm⟩, rfl, ?_⟩
    rw [hln, decide_eq_true rfl]
    refine ⟨_, rfl, iteF ?_⟩
    -- all names are named
    refine ⟨_, rfl, v, _, _, _, _, rfl, Same.refl _ _ _ hv, Z.vl.cls, Z.vl.na _ (by simp [fieldNames]), rfl, Sg L, rfl, lc_txt (fun D => LcPv (RMap fun _ => V.bl true) H D) (fun D nD => pv_start nD rfl) ?_ ?_⟩
    · rintro D i y H1 nD hc ⟨acc, eD, hl, sm, r⟩
      have hyL := List.mem_of_getElem? hc
      have hi : i < L.length := (List.getElem?_eq_some_iff.mp hc).1
      have s1 := sm_trans sm hid_sub
      refine ⟨rfl, _, rfl, _, rfl, nd, _, rfl, DGet.k (k := sK y) (s1 _ _ hd), ?_⟩
      rw [hval y hyL]
      exact pv_push eD hl sm (Same.refl _) (by omega) (rmap_push r rfl)
    rintro D H1 nD ⟨acc, eD, hl, sm, r⟩
    have e1 : acc = (List.replicate L.length true).map V.bl := by
      rw [show acc = _ from r, List.map_replicate]
      exact List.ext_getElem (by simp) (by simp)
    have e2 : ∀ n, (List.replicate n true).all id = true := fun n => List.all_eq_true.mpr fun x hx => (List.mem_replicate.mp hx).2
    refine ⟨D, List.replicate L.length true, rfl, SqL.of (by rw [eD, e1]), true, by rw [e2], iteF ?_⟩
    have s1 := sm_trans sm hid_sub
    -- found
    refine ⟨_, rfl, v, _, _, _, _, rfl, s1 _ _ hv, Z.vl.cls, Z.vl.na _ (by simp [fieldNames]), rfl, Sg L, rfl, lc_txt (fun D => LcPv (RMap fun i => V.str (Sg [g (L.getD i 0)])) H1 D) (fun D nD => pv_start nD rfl) ?_ ?_⟩
    · rintro D2 i y H2 nD2 hc ⟨acc2, eD2, hl2, sm2, r2⟩
      have hyL := List.mem_of_getElem? hc
      have hi : i < L.length := (List.getElem?_eq_some_iff.mp hc).1
      have s2 := sm_trans s1 (sm_trans sm2 hid_sub)
      have hy2 : L.getD i 0 = y := by rw [List.getD_eq_getElem?_getD, hc] <;> rfl
      refine ⟨rfl, _, rfl, _, rfl, nd, .str (Sg [g y]), rfl, ?_, ?_⟩
      · have := DGet.k (k := sK y) (s2 _ _ hd)
        rw [hval y hyL] at this
        exact this
      exact pv_push eD2 hl2 sm2 (Same.refl _) (by omega) (rmap_push r2 (by rw [hy2]))
    rintro F H2 nF ⟨acc2, eF, hl2, sm2, r2⟩
    have s12 := sm_trans sm2 hid_sub
    have s2 := sm_trans s1 s12
    have e3 : acc2 = (L.map g).map fun y => V.str (Sg [y]) := by
      rw [show acc2 = _ from r2, map_range_getD L 0 fun y => V.str (Sg [g y]), List.map_map] <;> rfl
    rw [e3] at eF
    have hM1 := hM.hi
    have hMl : (L.map g).length = L.length := List.length_map _
    -- each is one letter
    have key : (L.map g).Nodup := hM.nd
    have kl : ∀ {H' : Hp}, Same H2 H' → SqL K H' F ((L.map g).map fun y => V.str (Sg [y])) := fun sm => SqL.of (sm _ _ eF)
    refine ⟨_, rfl, F, rfl, ⟨_, SqL.of eF⟩, fun D3 nD3 => lc_it (walk_list (K := K) (a := F) (xs := (L.map g).map fun y => V.str (Sg [y]))) (LcPv (RMap fun _ => V.bl true) H2 D3) (pv_start nD3 rfl) (fun i H' _ p => kl (pv_same p)) ?_ ?_⟩
    · rintro i x H3 H4 hi ⟨acc3, eD3, hl3, sm3, r3⟩ ⟨rfl, hx⟩
      obtain ⟨y, hy, rfl⟩ := of_map_at hx
      rw [List.length_map] at hi
      have hym := List.mem_of_getElem? hy
      refine ⟨rfl, _, rfl, [y], 1, 1, rfl, Int.le_refl _, Int.le_refl _, by show 1 ≤ 4000; decide, by simp, fun z hz => by rw [List.mem_singleton] at hz; subst hz; exact hM.az _ hym, fun H5 s5 => ?_⟩
      exact pv_push eD3 hl3 sm3 s5 (by omega) (rmap_push r3 rfl)
    rintro H3 ⟨acc3, eD3, hl3, sm3, r3⟩
    have e4 : acc3 = (List.replicate ((L.map g).map fun y => V.str (Sg [y])).length true).map V.bl := by
      rw [show acc3 = _ from r3, List.map_replicate]
      exact List.ext_getElem (by simp) (by simp)
    have s3 := sm_trans sm3 hid_sub
    refine ⟨D3, _, rfl, SqL.of (by rw [eD3, e4]), true, by rw [e2], iteF ?_⟩
    -- all are different
    refine ⟨_, rfl, .inl ⟨F, (L.map g).map sK, rfl, ?_, ?_, ?_⟩⟩
    · rw [List.map_map]
      exact kl s3
    · rw [List.length_map]
      omega
    rw [uniqK_map sK sK_inj, List.length_map]
    have hu2 : LS.uniq (L.map g) = L.map g := by
      have := uniq_of_nodup key _ (Nat.le_refl _)
      rwa [List.take_length] at this
    rw [hu2]
    refine ⟨_, rfl, _, (L.map g).length, rfl, .inl ⟨_, kl s3, by simp⟩, _, _, rfl, rfl, _, rfl, ?_⟩
    rw [decide_eq_false (Int.lt_irrefl _)]
    refine iteF ?_
    refine ⟨rfl, _, rfl, Str.ofString "", F, (L.map g).map fun y => Sg [y], rfl, rfl, .inl ?_, ?_, ?_⟩
    · rw [List.map_map]
      exact kl s3
    · rw [sum_ones, show (Str.ofString "").length = 0 from rfl]
      omega
    rw [join_ones]
    intro x dx nx ndx hne
    refine ⟨x, dx, L.map g, rfl, upd_same, hM, fun H' sx hx' => ⟨rfl, ?_⟩⟩
    exact k x H' (made_same (sm_trans s2 s3) nx ndx sx) ⟨dx, hx'⟩
end
end LW
end
section
set_option Elab.async false
set_option linter.all false
set_option maxRecDepth 100000
set_option maxHeartbeats 1000000
/-! Clue(..) -/
namespace LW
open PySem PySem.Spec PyProof.Rows L2
abbrev st_Clue_init : Stmt := meth 37 1
theorem sc_Clue_init : FnScope ["self", "values", "table"] ["self", "values", "table"] (defScope st_Clue_init) := ⟨rfl, rfl, rfl, by decide +kernel, rfl, by decide +kernel, by decide +kernel⟩
/-- the things in ex are instances -/
def InsAt (ex : List Addr) (H : Hp) : Prop := ∀ b ∈ ex, ∃ C dx fs, H b = some (.ins C dx fs)
section
variable {K : PySem.W.Frag} {H H' : Hp} {ex : List Addr}
theorem InsAt.ne {b : Addr} (h : InsAt ex H) {o : HO} (e : H b = some o) (n : ∀ C dx fs, o ≠ .ins C dx fs) : b ∉ ex := fun z => by
  obtain ⟨C, dx, fs, e2⟩ := h b z
  exact n C dx fs (Option.some.inj (e.symm.trans e2))
theorem SqL.insX {a : Addr} {xs : List V} (h : SqL K H a xs) (e : SameX ex H H') (n : InsAt ex H) : SqL K H' a xs := by
  rcases h with (h | ⟨o, h⟩) | h
  · exact .inl (.inl (e _ _ (n.ne h fun _ _ _ z => by cases z) h))
  · exact .inl (.inr ⟨o, e _ _ (n.ne h fun _ _ _ z => by cases z) h⟩)
  · exact .inr h
theorem SqT.insX {a : Addr} {xs : List V} (h : SqT K H a xs) (e : SameX ex H H') (n : InsAt ex H) : SqT K H' a xs := by
  rcases h with (h | ⟨o, h⟩) | h
  · exact .inl (.inl (e _ _ (n.ne h fun _ _ _ z => by cases z) h))
  · exact .inl (.inr ⟨o, e _ _ (n.ne h fun _ _ _ z => by cases z) h⟩)
  · exact .inr h
theorem SqA.insX {a : Addr} {xs : List V} (h : SqA K H a xs) (e : SameX ex H H') (n : InsAt ex H) : SqA K H' a xs := h.elim (fun h => .inl (SqL.insX h e n)) fun h => .inr (SqT.insX h e n)
theorem RowsAt.insX {a : Addr} {st : List (List Nat)} (h : RowsAt K H a st) (e : SameX ex H H') (n : InsAt ex H) : RowsAt K H' a st := by
  obtain ⟨rs, h1, h2, h3⟩ := h
  exact ⟨rs, h1.insX e n, h2, fun i r row e1 e2 => (h3 i r row e1 e2).insX e n⟩
theorem RowsT.insX {a : Addr} {st : List (List Nat)} (h : RowsT H a st) (e : SameX ex H H') (n : InsAt ex H) : RowsT H' a st := by
  obtain ⟨rs, h1, h2, h3⟩ := h
  exact ⟨rs, e _ _ (n.ne h1 fun _ _ _ z => by cases z) h1, h2, fun i r row e1 e2 => e _ _ (n.ne (h3 i r row e1 e2) fun _ _ _ z => by cases z) (h3 i r row e1 e2)⟩
theorem tup_insX {a : Addr} {xs : List V} (h : H a = some (.tup xs)) (e : SameX ex H H') (n : InsAt ex H) : H' a = some (.tup xs) := e _ _ (n.ne h fun _ _ _ z => by cases z) h
end
/-- some table of the language is small -/
def Small (k n : Nat) (L : List Nat → Bool) : Prop := ∃ D : LS.Tb, D.Ok k ∧ (∀ w, LS.Wd k w → D.lang w = L w) ∧ D.st.length ≤ n
def spClueI (c : Cs) (K : PySem.W.Frag) : Sp := fun vs H Q _ => ∃ (x v p C dx r t : Addr) (T : LS.Tb) (k : Nat), vs = [.ref x, .ref v, .ref p] ∧ H x = some (.ins C dx []) ∧ C ∈ c.clues ∧ H p = some (.tup [.ref r, .ref t]) ∧ RowsAt K H r T.st ∧ SqA K H t (T.to.map V.bl) ∧
  T.Ok k ∧ k ≤ 1000 ∧ T.st.length ≤ 1000 ∧ Small k 64 T.lang ∧
  ∀ T' r' t' H', LS.Canon k T' → (∀ w, LS.Wd k w → T'.lang w = T.lang w) → T'.st.length ≤ 64 → SameX [x] H H' → H' x = some (.ins C dx [("alphabet", .ref v), ("steps", .ref r'), ("told", .ref t')]) → RowsT H' r' T'.st → H' t' = some (.tup (T'.to.map V.bl)) → Q .non H'
section
variable {P : Program} {w : World} {K : PySem.W.Frag} {mg : Str → Option Value} {base : Heap} {c : Cs}
theorem c_Clue_init (Z : TC K mg c) : FnR P w K mg base CX0 4 c.fClue (spClueI c K) := by
  have T := Z.T
  have c_least_table := c_least_table (P := P) (w := w) (base := base) T
  have c_need_room := c_need_room (P := P) (w := w) (base := base) T
  refine FunM.fn Z.f_Clue sc_Clue_init (fun _ _ _ _ _ _ us hl => match us, hl with | [_, _, _], _ => rfl) (fun vs H Q E h => ?_) (fun cdv A outer s H vs Q E hr h => ?_)
  · obtain ⟨x, v, p, C, dx, r, t, Tb, k, rfl, _⟩ := h
    rfl
  · obtain ⟨x, v, p, C, dx, r, t, Tb, k, rfl, hx, hC, hp, hR, hT, ok, hk, hz, ⟨D, dok, dl, dz⟩, kk⟩ := h
--TERM Clue.__init__
    refine ⟨_, (pss_cons (ps_fldK K (pv 0) (pv 1))
  (pss_one (ps_asg (pe_cal c_need_room (by decide) hr (pa_cons (pe_cal c_least_table (by decide) hr (pa_cons (pe_ix (ix_tupK K) (pv 2) pe_int (fun _ _ => rfl)) (pa_cons (pe_ix (ix_tupK K) (pv 2) pe_int (fun _ _ => rfl)) pa_nil))) pa_nil)) (pg_tupK K (n := 2) (pgs_cons (pg_fld K (pv 0)) (pgs_cons (pg_fld K (pv 0)) pgs_nil)))))), ?_⟩
--END
    have hcl := (Z.cq hC).cls
    have hna := (Z.cq hC).na
    have ia : InsAt [x] H := fun b hb => by rw [List.mem_singleton] at hb; subst hb; exact ⟨C, dx, _, hx⟩
    refine ⟨_, rfl, _, rfl, x, C, dx, _, rfl, hx, hcl, hna _ (by simp [fieldNames]), by show 0 < 1000; decide, ?_⟩
    generalize hH1 : upd H x _ = H1
    have sx : SameX [x] H H1 := by rw [← hH1]; exact SameX.refl.put (by simp)
    have hx1 : H1 x = some (.ins C dx [("alphabet", .ref v)]) := by rw [← hH1, upd_same] <;> rfl
    have hp1 := tup_insX hp sx ia
    refine ⟨_, rfl, p, _, 0, _, rfl, rfl, SqT.of hp1, rfl, _, rfl, p, _, 1, _, rfl, rfl, SqT.of hp1, rfl, ?_⟩
    refine ⟨r, t, Tb, k, rfl, hR.insX sx ia, hT.insX sx ia, ok, hk, hz, fun T' q r' t' H2 cn lg sz s12 hq hr' ht' => ?_⟩
    obtain ⟨rs, h1, h2, h3⟩ := id hr'
    have hsz : T'.st.length ≤ 64 := Nat.le_trans (cn.least dok fun w hw => (lg w hw).trans (dl w hw).symm) dz
    refine ⟨q, r', t', rs.map V.ref, rfl, hq, .inr (SqT.of h1), by rw [List.length_map, h2]; exact hsz, ?_⟩
    have hx2 := s12 _ _ hx1
    refine ⟨q, _, rfl, SqT.of hq, rfl, _, _, rfl, ⟨_, rfl, x, C, dx, _, rfl, hx2, hcl, hna _ (by simp [fieldNames]), by show 1 < 1000; decide, ?_⟩⟩
    refine ⟨_, _, rfl, _, rfl, x, C, dx, _, rfl, upd_same, hcl, hna _ (by simp [fieldNames]), by show 2 < 1000; decide, rfl, ?_⟩
    have ia2 : InsAt [x] H2 := fun b hb => by rw [List.mem_singleton] at hb; subst hb; exact ⟨C, dx, _, hx2⟩
    have sx2 : ∀ o o', SameX [x] H2 (upd (upd H2 x o) x o') := fun o o' => (SameX.refl.put (by simp)).put (by simp)
    refine kk T' r' t' _ cn lg hsz (((sx.then s12).put (by simp)).put (by simp)) ?_ (hr'.insX (sx2 _ _) ia2) (tup_insX ht' (sx2 _ _) ia2)
    rw [upd_same, putF_new (f := Str.ofString "steps") rfl, putF_new rfl] <;> rfl
end
end LW
end
section
set_option Elab.async false
set_option linter.all false
set_option maxRecDepth 100000
set_option maxHeartbeats 1000000
/-! a clue in the heap; its operators -/
namespace LW
open PySem PySem.Spec PyProof.Rows L2
def clueMs : List Str := ["count", "within", "renamed", "beside"]
/-- a clue at q: its letters at v are L, its table is T, the least one -/
structure ClueO (c : Cs) (H : Hp) (q v : Addr) (L : List Nat) (T : LS.Tb) : Prop where
  ex : ∃ C dx fs r t, H q = some (.ins C dx fs) ∧ C ∈ c.clues ∧ fs.lookup ("alphabet" : Str) = some (.ref v) ∧ fs.lookup ("steps" : Str) = some (.ref r) ∧ fs.lookup ("told" : Str) = some (.ref t) ∧ (∀ m ∈ clueMs, fs.lookup m = none) ∧ RowsT H r T.st ∧ H t = some (.tup (T.to.map V.bl))
  val : ValO c H v L
  can : LS.Canon L.length T
  sz : T.st.length ≤ 64
theorem ClueO.same {c : Cs} {H H' : Hp} {q v : Addr} {L : List Nat} {T : LS.Tb} (e : Same H H') (h : ClueO c H q v L T) : ClueO c H' q v L T := by
  obtain ⟨C, dx, fs, r, t, h1, h2, h3, h4, h5, h6, h7, h8⟩ := h.ex
  exact ⟨⟨C, dx, fs, r, t, e _ _ h1, h2, h3, h4, h5, h6, h7.same e, e _ _ h8⟩, h.val.same e, h.can, h.sz⟩
theorem Small.congr {k n : Nat} {L M : List Nat → Bool} (h : Small k n L) (e : ∀ w, LS.Wd k w → L w = M w) : Small k n M := let ⟨D, d1, d2, d3⟩ := h; ⟨D, d1, fun w hw => (d2 w hw).trans (e w hw), d3⟩
/-- Clue(v, (r, t)), a new instance at x -/
theorem mk_clue {c : Cs} {K : PySem.W.Frag} {H : Hp} {Q : VK} {v p r t x dx : Addr} {L : List Nat} {T : LS.Tb} (hv : ValO c H v L) (hL : L.length ≤ 4) (hp : H p = some (.tup [.ref r, .ref t])) (hR : RowsAt K H r T.st) (hT : SqA K H t (T.to.map V.bl))
    (ok : T.Ok L.length) (hz : T.st.length ≤ 1000) (sm : Small L.length 64 T.lang) (nx : H x = none) (nd : H dx = none) (kk : ∀ q T' H', Same H H' → ClueO c H' q v L T' → (∀ w, LS.Wd L.length w → T'.lang w = T.lang w) → Q (.ref q) H') :
    spClueI c K [.ref x, .ref v, .ref p] (upd (upd H dx (.own x)) x (.ins c.clue dx [])) (fun z H2 => z = .non ∧ Q (.ref x) H2) E0 := by
  have s1 : Same H (upd (upd H dx (.own x)) x (.ins c.clue dx [])) := sm_upd (sm_upd (Same.refl H) nd) nx
  refine ⟨x, v, p, c.clue, dx, r, t, T, L.length, rfl, upd_same, by simp [Cs.clues], s1 _ _ hp, hR.same s1, hT.same s1, ok, by omega, hz, sm, fun T' r' t' H' cn lg sz sx hx hr ht => ⟨rfl, ?_⟩⟩
  have s2 : Same H H' := made_same (Same.refl H) nx nd sx
  refine kk x T' H' s2 ⟨⟨c.clue, dx, _, r', t', hx, by simp [Cs.clues], rfl, rfl, rfl, ?_, hr, ht⟩, hv.same s2, cn, sz⟩ lg
  intro m hm
  simp only [clueMs, List.mem_cons, List.not_mem_nil, or_false] at hm
  rcases hm with rfl | rfl | rfl | rfl <;> rfl
abbrev st_Clue_beside : Stmt := meth 37 8
theorem sc_Clue_beside : FnScope ["self", "other", "rule"] ["self", "other", "rule"] (defScope st_Clue_beside) := ⟨rfl, rfl, rfl, by decide +kernel, rfl, by decide +kernel, by decide +kernel⟩
def spBeside (c : Cs) (K : PySem.W.Frag) : Sp := fun vs H Q _ => ∃ (q1 q2 v1 v2 : Addr) (L : List Nat) (A B : LS.Tb) (r : Rule), vs = [.ref q1, .ref q2, .str r.s] ∧ ClueO c H q1 v1 L A ∧ ClueO c H q2 v2 L B ∧ L.length ≤ 4 ∧
  ∀ (T' : LS.Tb) p rr tt H', T'.Ok L.length → (∀ w, LS.Wd L.length w → T'.lang w = r.f (A.lang w) (B.lang w)) → LS.Rch L.length T' → T'.st.length ≤ A.st.length * B.st.length → Same H H' → H' p = some (.tup [.ref rr, .ref tt]) → RowsAt K H' rr T'.st → SqA K H' tt (T'.to.map V.bl) → Q (.ref p) H'
section
variable {P : Program} {w : World} {K : PySem.W.Frag} {mg : Str → Option Value} {base : Heap} {c : Cs}
theorem c_Clue_beside (Z : TC K mg c) : FnR P w K mg base CX0 3 c.fBes (spBeside c K) := by
  have T := Z.T
  have c_Values_eq := c_Values_eq (P := P) (w := w) (base := base) Z
  have c_paired := c_paired (P := P) (w := w) (base := base) T
  refine FunM.fn Z.f_Bes sc_Clue_beside (fun _ _ _ _ _ _ us hl => match us, hl with | [_, _, _], _ => rfl) (fun vs H Q E h => ?_) (fun cdv A outer s H vs Q E hr h => ?_)
  · obtain ⟨q1, q2, v1, v2, L, A, B, r, rfl, _⟩ := h
    rfl
  · obtain ⟨q1, q2, v1, v2, L, A, B, r, rfl, hA, hB, hL, kk⟩ := h
    obtain ⟨C1, d1, f1, r1, t1, a1, a2, a3, a4, a5, a6, a7, a8⟩ := hA.ex
    obtain ⟨C2, d2, f2, r2, t2, b1, b2, b3, b4, b5, b6, b7, b8⟩ := hB.ex
    obtain ⟨dv1, hv1⟩ := hA.val
    obtain ⟨dv2, hv2⟩ := hB.val
--TERM Clue.beside
    refine ⟨_, (pss_cons (ps_if (pt_not (pt_cmpR (op_ownEq c_Values_eq (hr.mono (by decide))) (pe_fldK K (pv 0)) (pe_fldK K (pv 1)) (nomark _))) (pss_one ps_never)
  pss_nil)
  (pss_one (ps_ret (pe_cal c_paired (by decide) hr (pa_cons (pe_tup (pa_cons (pe_fldK K (pv 0)) (pa_cons (pe_fldK K (pv 0)) pa_nil))) (pa_cons (pe_tup (pa_cons (pe_fldK K (pv 1)) (pa_cons (pe_fldK K (pv 1)) pa_nil))) (pa_cons (pv 2) pa_nil))))))), ?_⟩
--END
    have fa := (Z.cq a2)
    have fb := (Z.cq b2)
    refine ⟨_, rfl, q1, _, _, _, _, rfl, a1, fa.cls, fa.na _ (by simp [fieldNames]), a3, _, rfl, q2, _, _, _, _, rfl, b1, fb.cls, fb.na _ (by simp [fieldNames]), b3, ?_⟩
    refine ⟨v1, v2, _, _, _, _, _, _, rfl, rfl, hv1, hv2, Z.s_veq, Z.s_veq, Z.o_vals, ⟨v1, v2, L, rfl, ⟨dv1, hv1⟩, ⟨dv2, hv2⟩, true, rfl, iteF ?_⟩, ⟨v2, v1, L, rfl, ⟨dv2, hv2⟩, ⟨dv1, hv1⟩, true, rfl, iteF ?_⟩⟩
    all_goals
      refine ⟨_, rfl, q1, _, _, _, _, rfl, a1, fa.cls, fa.na _ (by simp [fieldNames]), a4, _, rfl, q1, _, _, _, _, rfl, a1, fa.cls, fa.na _ (by simp [fieldNames]), a5, by show 2 ≤ sizeLine; decide, fun p1 n1 => ?_⟩
      have s1 : Same H (upd H p1 (.tup [.ref r1, .ref t1])) := same_new n1
      refine ⟨_, rfl, q2, _, _, _, _, rfl, s1 _ _ b1, fb.cls, fb.na _ (by simp [fieldNames]), b4, _, rfl, q2, _, _, _, _, rfl, s1 _ _ b1, fb.cls, fb.na _ (by simp [fieldNames]), b5, by show 2 ≤ sizeLine; decide, fun p2 n2 => ?_⟩
      have s2 : Same H (upd (upd H p1 (.tup [.ref r1, .ref t1])) p2 (.tup [.ref r2, .ref t2])) := sm_trans s1 (same_new n2)
      have hp1 : upd (upd H p1 (.tup [.ref r1, .ref t1])) p2 (.tup [.ref r2, .ref t2]) p1 = some (.tup [.ref r1, .ref t1]) := (same_new n2) _ _ upd_same
      refine ⟨_, rfl, p1, p2, r1, t1, r2, t2, A, B, L.length, r, rfl, hp1, upd_same, a7.same s2, b7.same s2, s2 _ _ a8, s2 _ _ b8, hA.can.ok, hB.can.ok, by omega, ?_, fun T' p rr tt H' k1 k2 k3 k4 s3 k5 k6 k7 => kk T' p rr tt H' k1 k2 k3 k4 (sm_trans s2 s3) k5 k6 k7⟩
      exact Nat.le_trans (Nat.mul_le_mul hA.sz hB.sz) (by decide)
end
end LW
end
section
set_option Elab.async false
set_option linter.all false
set_option maxRecDepth 100000
set_option maxHeartbeats 1000000
/-! & | - ^ of clues -/
namespace LW
open PySem PySem.Spec PyProof.Rows L2
def spOp2 (c : Cs) (r : Rule) : Sp := fun vs H Q _ => ∃ (q1 q2 v1 v2 : Addr) (L : List Nat) (A B : LS.Tb), vs = [.ref q1, .ref q2] ∧ ClueO c H q1 v1 L A ∧ ClueO c H q2 v2 L B ∧ L.length ≤ 4 ∧ A.st.length * B.st.length ≤ 1000 ∧ Small L.length 64 (fun w => r.f (A.lang w) (B.lang w)) ∧
  ∀ q T' H', Same H H' → ClueO c H' q v1 L T' → (∀ w, LS.Wd L.length w → T'.lang w = r.f (A.lang w) (B.lang w)) → Q (.ref q) H'
theorem Small.mono {k n : Nat} {L M : List Nat → Bool} (h : Small k n L) (e : ∀ w, LS.Wd k w → M w = L w) : Small k n M := h.congr fun w hw => (e w hw).symm
abbrev st_Clue_and : Stmt := meth 37 14
theorem sc_Clue_and : FnScope ["self", "other"] ["self", "other"] (defScope st_Clue_and) := ⟨rfl, rfl, rfl, by decide +kernel, rfl, by decide +kernel, by decide +kernel⟩
abbrev st_Clue_or : Stmt := meth 37 15
theorem sc_Clue_or : FnScope ["self", "other"] ["self", "other"] (defScope st_Clue_or) := ⟨rfl, rfl, rfl, by decide +kernel, rfl, by decide +kernel, by decide +kernel⟩
abbrev st_Clue_sub : Stmt := meth 37 16
theorem sc_Clue_sub : FnScope ["self", "other"] ["self", "other"] (defScope st_Clue_sub) := ⟨rfl, rfl, rfl, by decide +kernel, rfl, by decide +kernel, by decide +kernel⟩
abbrev st_Clue_xor : Stmt := meth 37 17
theorem sc_Clue_xor : FnScope ["self", "other"] ["self", "other"] (defScope st_Clue_xor) := ⟨rfl, rfl, rfl, by decide +kernel, rfl, by decide +kernel, by decide +kernel⟩
section
variable {P : Program} {w : World} {K : PySem.W.Frag} {mg : Str → Option Value} {base : Heap} {c : Cs}
theorem c_Clue_and (Z : TC K mg c) : FnR P w K mg base CX0 6 c.fAnd (spOp2 c .and) := by
  have T := Z.T
  have c_Clue_init := c_Clue_init (P := P) (w := w) (base := base) Z
  have c_Clue_beside := c_Clue_beside (P := P) (w := w) (base := base) Z
  refine FunM.fn Z.f_And sc_Clue_and (fun _ _ _ _ _ _ us hl => match us, hl with | [_, _], _ => rfl) (fun vs H Q E h => ?_) (fun cdv A outer s H vs Q E hr h => ?_)
  · obtain ⟨q1, q2, v1, v2, L, A, B, rfl, _⟩ := h
    rfl
  · obtain ⟨q1, q2, v1, v2, L, A, B, rfl, hA, hB, hL, hz, sm, kk⟩ := h
    obtain ⟨C1, d1, f1, r1, t1, a1, a2, a3, a4, a5, a6, a7, a8⟩ := hA.ex
    have fa := (Z.cq a2)
--TERM Clue.__and__
    refine ⟨_, (pss_one (ps_ret (pe_mkR Z.mk_clue c_Clue_init (by decide) hr rfl Z.g_Clue (pa_cons (pe_fldK K (pv 0)) (pa_cons (pe_me K c_Clue_beside (by decide) hr (pv 0) (pa_cons (pv 1) (pa_cons pe_str pa_nil))) pa_nil))))), ?_⟩
--END
    refine ⟨_, rfl, q1, _, _, _, _, rfl, a1, fa.cls, fa.na _ (by simp [fieldNames]), a3, ?_⟩
    refine ⟨_, rfl, q1, _, _, _, rfl, a1, fa.cls, (Z.cc _ a2).bes, a6 _ (by simp [clueMs]), _, rfl, ?_⟩
    refine ⟨q1, q2, v1, v2, L, A, B, .and, rfl, hA, hB, hL, fun T' p rr tt H' k1 k2 k3 k4 s1 k5 k6 k7 x dx nx nd hne => ?_⟩
    exact mk_clue (hA.val.same s1) hL k5 k6 k7 k1 (Nat.le_trans k4 hz) (sm.mono k2) nx nd fun q T2 H2 s2 hq lg => kk q T2 H2 (sm_trans s1 s2) hq fun w hw => (lg w hw).trans (k2 w hw)
theorem c_Clue_or (Z : TC K mg c) : FnR P w K mg base CX0 6 c.fOr (spOp2 c .or) := by
  have T := Z.T
  have c_Clue_init := c_Clue_init (P := P) (w := w) (base := base) Z
  have c_Clue_beside := c_Clue_beside (P := P) (w := w) (base := base) Z
  refine FunM.fn Z.f_Or sc_Clue_or (fun _ _ _ _ _ _ us hl => match us, hl with | [_, _], _ => rfl) (fun vs H Q E h => ?_) (fun cdv A outer s H vs Q E hr h => ?_)
  · obtain ⟨q1, q2, v1, v2, L, A, B, rfl, _⟩ := h
    rfl
  · obtain ⟨q1, q2, v1, v2, L, A, B, rfl, hA, hB, hL, hz, sm, kk⟩ := h
    obtain ⟨C1, d1, f1, r1, t1, a1, a2, a3, a4, a5, a6, a7, a8⟩ := hA.ex
    have fa := (Z.cq a2)
--TERM Clue.__or__
    refine ⟨_, (pss_one (ps_ret (pe_mkR Z.mk_clue c_Clue_init (by decide) hr rfl Z.g_Clue (pa_cons (pe_fldK K (pv 0)) (pa_cons (pe_me K c_Clue_beside (by decide) hr (pv 0) (pa_cons (pv 1) (pa_cons pe_str pa_nil))) pa_nil))))), ?_⟩
--END
    refine ⟨_, rfl, q1, _, _, _, _, rfl, a1, fa.cls, fa.na _ (by simp [fieldNames]), a3, ?_⟩
    refine ⟨_, rfl, q1, _, _, _, rfl, a1, fa.cls, (Z.cc _ a2).bes, a6 _ (by simp [clueMs]), _, rfl, ?_⟩
    refine ⟨q1, q2, v1, v2, L, A, B, .or, rfl, hA, hB, hL, fun T' p rr tt H' k1 k2 k3 k4 s1 k5 k6 k7 x dx nx nd hne => ?_⟩
    exact mk_clue (hA.val.same s1) hL k5 k6 k7 k1 (Nat.le_trans k4 hz) (sm.mono k2) nx nd fun q T2 H2 s2 hq lg => kk q T2 H2 (sm_trans s1 s2) hq fun w hw => (lg w hw).trans (k2 w hw)
theorem c_Clue_sub (Z : TC K mg c) : FnR P w K mg base CX0 6 c.fSub (spOp2 c .less) := by
  have T := Z.T
  have c_Clue_init := c_Clue_init (P := P) (w := w) (base := base) Z
  have c_Clue_beside := c_Clue_beside (P := P) (w := w) (base := base) Z
  refine FunM.fn Z.f_Sub sc_Clue_sub (fun _ _ _ _ _ _ us hl => match us, hl with | [_, _], _ => rfl) (fun vs H Q E h => ?_) (fun cdv A outer s H vs Q E hr h => ?_)
  · obtain ⟨q1, q2, v1, v2, L, A, B, rfl, _⟩ := h
    rfl
  · obtain ⟨q1, q2, v1, v2, L, A, B, rfl, hA, hB, hL, hz, sm, kk⟩ := h
    obtain ⟨C1, d1, f1, r1, t1, a1, a2, a3, a4, a5, a6, a7, a8⟩ := hA.ex
    have fa := (Z.cq a2)
--TERM Clue.__sub__
    refine ⟨_, (pss_one (ps_ret (pe_mkR Z.mk_clue c_Clue_init (by decide) hr rfl Z.g_Clue (pa_cons (pe_fldK K (pv 0)) (pa_cons (pe_me K c_Clue_beside (by decide) hr (pv 0) (pa_cons (pv 1) (pa_cons pe_str pa_nil))) pa_nil))))), ?_⟩
--END
    refine ⟨_, rfl, q1, _, _, _, _, rfl, a1, fa.cls, fa.na _ (by simp [fieldNames]), a3, ?_⟩
    refine ⟨_, rfl, q1, _, _, _, rfl, a1, fa.cls, (Z.cc _ a2).bes, a6 _ (by simp [clueMs]), _, rfl, ?_⟩
    refine ⟨q1, q2, v1, v2, L, A, B, .less, rfl, hA, hB, hL, fun T' p rr tt H' k1 k2 k3 k4 s1 k5 k6 k7 x dx nx nd hne => ?_⟩
    exact mk_clue (hA.val.same s1) hL k5 k6 k7 k1 (Nat.le_trans k4 hz) (sm.mono k2) nx nd fun q T2 H2 s2 hq lg => kk q T2 H2 (sm_trans s1 s2) hq fun w hw => (lg w hw).trans (k2 w hw)
theorem c_Clue_xor (Z : TC K mg c) : FnR P w K mg base CX0 6 c.fXor (spOp2 c .one) := by
  have T := Z.T
  have c_Clue_init := c_Clue_init (P := P) (w := w) (base := base) Z
  have c_Clue_beside := c_Clue_beside (P := P) (w := w) (base := base) Z
  refine FunM.fn Z.f_Xor sc_Clue_xor (fun _ _ _ _ _ _ us hl => match us, hl with | [_, _], _ => rfl) (fun vs H Q E h => ?_) (fun cdv A outer s H vs Q E hr h => ?_)
  · obtain ⟨q1, q2, v1, v2, L, A, B, rfl, _⟩ := h
    rfl
  · obtain ⟨q1, q2, v1, v2, L, A, B, rfl, hA, hB, hL, hz, sm, kk⟩ := h
    obtain ⟨C1, d1, f1, r1, t1, a1, a2, a3, a4, a5, a6, a7, a8⟩ := hA.ex
    have fa := (Z.cq a2)
--TERM Clue.__xor__
    refine ⟨_, (pss_one (ps_ret (pe_mkR Z.mk_clue c_Clue_init (by decide) hr rfl Z.g_Clue (pa_cons (pe_fldK K (pv 0)) (pa_cons (pe_me K c_Clue_beside (by decide) hr (pv 0) (pa_cons (pv 1) (pa_cons pe_str pa_nil))) pa_nil))))), ?_⟩
--END
    refine ⟨_, rfl, q1, _, _, _, _, rfl, a1, fa.cls, fa.na _ (by simp [fieldNames]), a3, ?_⟩
    refine ⟨_, rfl, q1, _, _, _, rfl, a1, fa.cls, (Z.cc _ a2).bes, a6 _ (by simp [clueMs]), _, rfl, ?_⟩
    refine ⟨q1, q2, v1, v2, L, A, B, .one, rfl, hA, hB, hL, fun T' p rr tt H' k1 k2 k3 k4 s1 k5 k6 k7 x dx nx nd hne => ?_⟩
    exact mk_clue (hA.val.same s1) hL k5 k6 k7 k1 (Nat.le_trans k4 hz) (sm.mono k2) nx nd fun q T2 H2 s2 hq lg => kk q T2 H2 (sm_trans s1 s2) hq fun w hw => (lg w hw).trans (k2 w hw)
end
end LW
end
section
set_option Elab.async false
set_option linter.all false
set_option maxRecDepth 100000
set_option maxHeartbeats 1000000
/-! ~, unary -, bool, within, renamed -/
namespace LS
def notTb (T : Tb) : Tb := ⟨T.st, T.to.map not⟩
theorem notTb_ok {k : Nat} {T : Tb} (h : T.Ok k) : (notTb T).Ok k := by
  have := h.len
  exact ⟨by show (T.to.map not).length = _; rw [List.length_map]; exact this, h.pos, h.row, h.lt⟩
theorem notTb_lang {k : Nat} {T : Tb} (h : T.Ok k) {w : List Nat} (hw : Wd k w) : (notTb T).lang w = !T.lang w := by
  have hl := h.go_lt w h.pos hw
  have hz := h.len
  show (T.to.map not).getD (go T.nx 0 w) false = !(T.to.getD (go T.nx 0 w) false)
  rw [getD_at (by rw [List.length_map, hz]; exact hl), getD_at (by rw [hz]; exact hl), List.getElem_map]
/-- a state is told: a word is in the language -/
theorem any_told {k : Nat} {T : Tb} (h : T.Ok k) (r : Rch k T) : T.to.any id = true ↔ ∃ w, Wd k w ∧ T.lang w = true := by
  rw [List.any_eq_true]
  constructor
  · rintro ⟨b, hb, e⟩
    obtain ⟨q, hq, rfl⟩ := List.getElem_of_mem hb
    obtain ⟨w, hw, ew⟩ := r q (by rw [← h.len]; exact hq)
    refine ⟨w, hw, ?_⟩
    show T.to.getD (go T.nx 0 w) false = true
    rw [ew, getD_at hq]
    exact e
  · rintro ⟨w, hw, e⟩
    have hl := h.go_lt w h.pos hw
    have hz : go T.nx 0 w < T.to.length := by rw [h.len]; exact hl
    refine ⟨T.to[go T.nx 0 w], List.getElem_mem hz, ?_⟩
    have e : T.to.getD (go T.nx 0 w) false = true := e
    rw [getD_at hz] at e
    exact e
end LS
namespace LW
open PySem PySem.Spec PyProof.Rows L2
def spInv (c : Cs) : Sp := fun vs H Q _ => ∃ (q1 v1 : Addr) (L : List Nat) (A : LS.Tb), vs = [.ref q1] ∧ ClueO c H q1 v1 L A ∧ L.length ≤ 4 ∧
  ∀ q T' H', Same H H' → ClueO c H' q v1 L T' → (∀ w, LS.Wd L.length w → T'.lang w = !A.lang w) → Q (.ref q) H'
def spNeg (c : Cs) : Sp := fun vs H Q _ => ∃ (q1 v1 : Addr) (L : List Nat) (A : LS.Tb), vs = [.ref q1] ∧ ClueO c H q1 v1 L A ∧ L.length ≤ 4 ∧ Small L.length 64 (fun w => A.lang w.reverse) ∧
  ∀ q T' H', Same H H' → ClueO c H' q v1 L T' → (∀ w, LS.Wd L.length w → T'.lang w = A.lang w.reverse) → Q (.ref q) H'
def spBool (c : Cs) : Sp := fun vs H Q _ => ∃ (q1 v1 : Addr) (L : List Nat) (A : LS.Tb), vs = [.ref q1] ∧ ClueO c H q1 v1 L A ∧ ∀ b H', (b = true ↔ ∃ w, LS.Wd L.length w ∧ A.lang w = true) → Same H H' → Q (.bl b) H'
def spWithin (c : Cs) : Sp := fun vs H Q _ => ∃ (q1 q2 v1 v2 : Addr) (L : List Nat) (A B : LS.Tb), vs = [.ref q1, .ref q2] ∧ ClueO c H q1 v1 L A ∧ ClueO c H q2 v2 L B ∧ L.length ≤ 4 ∧
  ∀ b H', (b = true ↔ ∀ w, LS.Wd L.length w → A.lang w = true → B.lang w = true) → Same H H' → Q (.bl b) H'
def spRenamed (c : Cs) : Sp := fun vs H Q _ => ∃ (q1 v1 nd : Addr) (L : List Nat) (A : LS.Tb) (g : Nat → Nat), vs = [.ref q1, .ref nd] ∧ ClueO c H q1 v1 L A ∧ L.length ≤ 4 ∧ H nd = some (.dK (nmsOf g L)) ∧ Abc (L.map g) ∧
  ∀ q v2 T' H', Same H H' → ClueO c H' q v2 (L.map g) T' → (∀ w, LS.Wd L.length w → T'.lang w = A.lang w) → Q (.ref q) H'
abbrev st_Clue_invert : Stmt := meth 37 18
theorem sc_Clue_invert : FnScope ["self", "is_told"] ["self"] (defScope st_Clue_invert) := ⟨rfl, rfl, rfl, by decide +kernel, rfl, by decide +kernel, by decide +kernel⟩
abbrev st_Clue_neg : Stmt := meth 37 19
theorem sc_Clue_neg : FnScope ["self"] ["self"] (defScope st_Clue_neg) := ⟨rfl, rfl, rfl, by decide +kernel, rfl, by decide +kernel, by decide +kernel⟩
abbrev st_Clue_bool : Stmt := meth 37 12
theorem sc_Clue_bool : FnScope ["self"] ["self"] (defScope st_Clue_bool) := ⟨rfl, rfl, rfl, by decide +kernel, rfl, by decide +kernel, by decide +kernel⟩
abbrev st_Clue_within : Stmt := meth 37 6
theorem sc_Clue_within : FnScope ["self", "other"] ["self", "other"] (defScope st_Clue_within) := ⟨rfl, rfl, rfl, by decide +kernel, rfl, by decide +kernel, by decide +kernel⟩
abbrev st_Clue_renamed : Stmt := meth 37 7
theorem sc_Clue_renamed : FnScope ["self", "names"] ["self", "names"] (defScope st_Clue_renamed) := ⟨rfl, rfl, rfl, by decide +kernel, rfl, by decide +kernel, by decide +kernel⟩
section
variable {P : Program} {w : World} {K : PySem.W.Frag} {mg : Str → Option Value} {base : Heap} {c : Cs}
theorem c_Clue_invert (Z : TC K mg c) : FnR P w K mg base CX0 6 c.fInv (spInv c) := by
  have T := Z.T
  have c_Clue_init := c_Clue_init (P := P) (w := w) (base := base) Z
  refine FunM.fn Z.f_Inv sc_Clue_invert (fun _ _ _ _ _ _ us hl => match us, hl with | [_], _ => rfl) (fun vs H Q E h => ?_) (fun cdv A outer s H vs Q E hr h => ?_)
  · obtain ⟨q1, v1, L, A, rfl, _⟩ := h
    rfl
  · obtain ⟨q1, v1, L, A, rfl, hA, hL, kk⟩ := h
    obtain ⟨C1, d1, f1, r1, t1, a1, a2, a3, a4, a5, a6, a7, a8⟩ := hA.ex
    have fa := (Z.cq a2)
--TERM Clue.__invert__
    refine ⟨_, (pss_one (ps_ret (pe_mkR Z.mk_clue c_Clue_init (by decide) hr rfl Z.g_Clue (pa_cons (pe_fldK K (pv 0)) (pa_cons (pe_tup (pa_cons (pe_fldK K (pv 0)) (pa_cons (pe_lc (own := [("is_told", 1)]) rfl sc_Clue_invert.nd (pi_tupK K (pe_fldK K (pv 0))) (blkOk_by (own := [("is_told", 1)]) (by kernel_rfl)) (fun _ _ _ _ _ => (pg_name (i := 1) sc_Clue_invert.nd rfl (Or.inl rfl))) (fun _ _ _ _ _ => pts_nil) (fun _ _ _ _ _ => (pe_not (pv 1)))) pa_nil))) pa_nil))))), ?_⟩
--END
    refine ⟨_, rfl, q1, _, _, _, _, rfl, a1, fa.cls, fa.na _ (by simp [fieldNames]), a3, ?_⟩
    refine ⟨_, rfl, q1, _, _, _, _, rfl, a1, fa.cls, fa.na _ (by simp [fieldNames]), a4, ?_⟩
    refine ⟨_, rfl, q1, _, _, _, _, rfl, a1, fa.cls, fa.na _ (by simp [fieldNames]), a5, t1, rfl, ⟨_, SqT.of a8⟩, fun D nD => lc_it (walk_tup (K := K) (a := t1) (xs := A.to.map V.bl)) (LcPv (RMap fun i => V.bl (!(A.to.getD i false))) H D) (pv_start nD rfl) (fun i H' _ p => SqT.of (pv_same p _ _ a8)) ?_ ?_⟩
    · rintro i x H1 H2 hi ⟨acc, eD, hl, sm, r⟩ ⟨rfl, hx⟩
      obtain ⟨b, hb, rfl⟩ := of_map_at hx
      rw [List.length_map] at hi
      have hz := hA.sz
      have hlen := hA.can.ok.len
      refine ⟨rfl, _, rfl, b, rfl, ?_⟩
      exact pv_push eD hl sm (Same.refl _) (by omega) (rmap_push r (by rw [List.getD_eq_getElem?_getD, hb] <;> rfl))
    · rintro H1 ⟨acc, eD, hl, sm, r⟩
      have s1 := sm_trans sm hid_sub
      refine ⟨by show 2 ≤ sizeLine; decide, fun p np x dx nx nd hne => ?_⟩
      have s2 : Same H1 (upd H1 p (.tup [.ref r1, .ref D])) := same_new np
      have s3 := sm_trans s1 s2
      have eD2 : upd H1 p (.tup [.ref r1, .ref D]) D = some (.lst ((LS.notTb A).to.map V.bl)) := by
        rw [s2 _ _ eD, show acc = _ from r, List.length_map, map_range_getD A.to false fun b => V.bl (!b)]
        show _ = some (HO.lst ((A.to.map not).map V.bl))
        rw [List.map_map] <;> rfl
      have ok := LS.notTb_ok hA.can.ok
      have lg := fun w (hw : LS.Wd L.length w) => LS.notTb_lang hA.can.ok hw
      refine mk_clue (T := LS.notTb A) (hA.val.same s3) hL upd_same ((a7.same s3).at) (.inl (SqL.of eD2)) ok (Nat.le_trans hA.sz (by decide)) ⟨LS.notTb A, ok, fun w _ => rfl, hA.sz⟩ nx nd fun q T2 H2 s4 hq lg2 => kk q T2 H2 (sm_trans s3 s4) hq fun w hw => (lg2 w hw).trans (lg w hw)
theorem c_Clue_neg (Z : TC K mg c) : FnR P w K mg base CX0 6 c.fNeg (spNeg c) := by
  have T := Z.T
  have c_Clue_init := c_Clue_init (P := P) (w := w) (base := base) Z
  have c_need_room := c_need_room (P := P) (w := w) (base := base) T
  have c_mirrored := c_mirrored (P := P) (w := w) (base := base) T
  refine FunM.fn Z.f_Neg sc_Clue_neg (fun _ _ _ _ _ _ us hl => match us, hl with | [_], _ => rfl) (fun vs H Q E h => ?_) (fun cdv A outer s H vs Q E hr h => ?_)
  · obtain ⟨q1, v1, L, A, rfl, _⟩ := h
    rfl
  · obtain ⟨q1, v1, L, A, rfl, hA, hL, ⟨D, dok, dl, dz⟩, kk⟩ := h
    obtain ⟨C1, d1, f1, r1, t1, a1, a2, a3, a4, a5, a6, a7, a8⟩ := hA.ex
    have fa := (Z.cq a2)
--TERM Clue.__neg__
    refine ⟨_, (pss_one (ps_ret (pe_mkR Z.mk_clue c_Clue_init (by decide) hr rfl Z.g_Clue (pa_cons (pe_fldK K (pv 0)) (pa_cons (pe_cal c_need_room (by decide) hr (pa_cons (pe_cal c_mirrored (by decide) hr (pa_cons (pe_fldK K (pv 0)) (pa_cons (pe_fldK K (pv 0)) (pa_cons (pe_gci rfl T.g_MOST_STATES) pa_nil)))) pa_nil)) pa_nil))))), ?_⟩
--END
    refine ⟨_, rfl, q1, _, _, _, _, rfl, a1, fa.cls, fa.na _ (by simp [fieldNames]), a3, ?_⟩
    refine ⟨_, rfl, q1, _, _, _, _, rfl, a1, fa.cls, fa.na _ (by simp [fieldNames]), a4, ?_⟩
    refine ⟨_, rfl, q1, _, _, _, _, rfl, a1, fa.cls, fa.na _ (by simp [fieldNames]), a5, ?_⟩
    refine ⟨r1, t1, A, D, L.length, 64, rfl, a7, a8, hA.can.ok, hA.can.rch, by omega, Nat.le_trans hA.sz (by decide), dok, dl, dz, by decide, fun T' p rr tt H' k1 k2 k3 s1 k5 k6 k7 => ?_⟩
    obtain ⟨rs, m1, m2, m3⟩ := id k6
    refine ⟨p, rr, tt, rs.map V.ref, rfl, k5, m1, by rw [List.length_map, m2]; exact k3, fun x dx nx nd hne => ?_⟩
    exact mk_clue (hA.val.same s1) hL k5 k6 k7 k1 (Nat.le_trans k3 (by decide)) ⟨T', k1, fun w _ => rfl, k3⟩ nx nd fun q T2 H2 s2 hq lg => kk q T2 H2 (sm_trans s1 s2) hq fun w hw => (lg w hw).trans (k2 w hw)
theorem c_Clue_bool (Z : TC K mg c) : FnR P w K mg base CX0 1 c.fBool (spBool c) := by
  have T := Z.T
  refine FunM.fn Z.f_Bool sc_Clue_bool (fun _ _ _ _ _ _ us hl => match us, hl with | [_], _ => rfl) (fun vs H Q E h => ?_) (fun cdv A outer s H vs Q E hr h => ?_)
  · obtain ⟨q1, v1, L, A, rfl, _⟩ := h
    rfl
  · obtain ⟨q1, v1, L, A, rfl, hA, kk⟩ := h
    obtain ⟨C1, d1, f1, r1, t1, a1, a2, a3, a4, a5, a6, a7, a8⟩ := hA.ex
    have fa := (Z.cq a2)
--TERM Clue.__bool__
    refine ⟨_, (pss_one (ps_ret (pe_callB (cr_anyK K) (by rfl) T.b_any bt_any (pa_cons (pe_callTy (call_listK K) (by rfl) T.b_list bt_list (pa_cons (pe_fldK K (pv 0)) pa_nil)) pa_nil)))), ?_⟩
--END
    refine ⟨_, rfl, q1, _, _, _, _, rfl, a1, fa.cls, fa.na _ (by simp [fieldNames]), a5, ?_⟩
    refine ⟨t1, _, rfl, .inr (SqT.of a8), fun l hl => ?_⟩
    refine ⟨l, A.to, rfl, SqL.of upd_same, ?_⟩
    exact kk _ _ (LS.any_told hA.can.ok hA.can.rch) (same_new hl)
theorem c_Clue_within (Z : TC K mg c) : FnR P w K mg base CX0 4 c.fWit (spWithin c) := by
  have T := Z.T
  have c_Clue_beside := c_Clue_beside (P := P) (w := w) (base := base) Z
  refine FunM.fn Z.f_Wit sc_Clue_within (fun _ _ _ _ _ _ us hl => match us, hl with | [_, _], _ => rfl) (fun vs H Q E h => ?_) (fun cdv A outer s H vs Q E hr h => ?_)
  · obtain ⟨q1, q2, v1, v2, L, A, B, rfl, _⟩ := h
    rfl
  · obtain ⟨q1, q2, v1, v2, L, A, B, rfl, hA, hB, hL, kk⟩ := h
    obtain ⟨C1, d1, f1, r1, t1, a1, a2, a3, a4, a5, a6, a7, a8⟩ := hA.ex
    have fa := (Z.cq a2)
--TERM Clue.within
    refine ⟨_, (pss_one (ps_ret (pe_not (pe_callB (cr_anyK K) (by rfl) T.b_any bt_any (pa_cons (pe_callTy (call_listK K) (by rfl) T.b_list bt_list (pa_cons (pe_ix (ix_tupK K) (pe_me K c_Clue_beside (by decide) hr (pv 0) (pa_cons (pv 1) (pa_cons pe_str pa_nil))) pe_int (fun _ _ => rfl)) pa_nil)) pa_nil))))), ?_⟩
--END
    refine ⟨_, rfl, q1, _, _, _, rfl, a1, fa.cls, (Z.cc _ a2).bes, a6 _ (by simp [clueMs]), _, rfl, ?_⟩
    refine ⟨q1, q2, v1, v2, L, A, B, .less, rfl, hA, hB, hL, fun T' p rr tt H' k1 k2 k3 k4 s1 k5 k6 k7 => ?_⟩
    refine ⟨p, _, 1, _, rfl, rfl, SqT.of k5, rfl, ?_⟩
    refine ⟨tt, _, rfl, k7, fun l hl => ?_⟩
    refine ⟨l, T'.to, rfl, SqL.of upd_same, _, rfl, ?_⟩
    refine kk _ _ ?_ (sm_trans s1 (same_new hl))
    have e := LS.any_told k1 k3
    have hf : ∀ w, LS.Wd L.length w → (T'.lang w = true ↔ (A.lang w = true ∧ B.lang w = false)) := fun w hw => by
      rw [k2 w hw]
      show (A.lang w && !B.lang w) = true ↔ _
      cases A.lang w <;> cases B.lang w <;> decide
    rw [Bool.not_eq_true', ← Bool.not_eq_true, e]
    constructor
    · intro h w hw ha
      cases hb : B.lang w with
      | true => rfl
      | false => exact absurd ⟨w, hw, (hf w hw).mpr ⟨ha, hb⟩⟩ h
    · rintro h ⟨w, hw, ht⟩
      obtain ⟨ha, hb⟩ := (hf w hw).mp ht
      rw [h w hw ha] at hb
      cases hb
theorem c_Clue_renamed (Z : TC K mg c) : FnR P w K mg base CX0 6 c.fRen (spRenamed c) := by
  have T := Z.T
  have c_Clue_init := c_Clue_init (P := P) (w := w) (base := base) Z
  have c_Values_renamed := c_Values_renamed (P := P) (w := w) (base := base) Z
  refine FunM.fn Z.f_Ren sc_Clue_renamed (fun _ _ _ _ _ _ us hl => match us, hl with | [_, _], _ => rfl) (fun vs H Q E h => ?_) (fun cdv A outer s H vs Q E hr h => ?_)
  · obtain ⟨q1, v1, nd, L, A, g, rfl, _⟩ := h
    rfl
  · obtain ⟨q1, v1, nd, L, A, g, rfl, hA, hL, hd, hM, kk⟩ := h
    obtain ⟨C1, d1, f1, r1, t1, a1, a2, a3, a4, a5, a6, a7, a8⟩ := hA.ex
    have fa := (Z.cq a2)
    obtain ⟨dv, hv⟩ := hA.val
--TERM Clue.renamed
    refine ⟨_, (pss_one (ps_ret (pe_mkR Z.mk_clue c_Clue_init (by decide) hr rfl Z.g_Clue (pa_cons (pe_me K c_Values_renamed (by decide) hr (pe_fldK K (pv 0)) (pa_cons (pv 1) pa_nil)) (pa_cons (pe_tup (pa_cons (pe_fldK K (pv 0)) (pa_cons (pe_fldK K (pv 0)) pa_nil))) pa_nil))))), ?_⟩
--END
    refine ⟨_, rfl, q1, _, _, _, _, rfl, a1, fa.cls, fa.na _ (by simp [fieldNames]), a3, ?_⟩
    refine ⟨v1, _, _, _, rfl, hv, Z.vl.cls, Z.m_vren, rfl, _, rfl, ?_⟩
    refine ⟨v1, nd, L, g, rfl, ⟨dv, hv⟩, hd, hL, hM, fun v2 H1 s1 hv2 => ?_⟩
    refine ⟨_, rfl, q1, _, _, _, _, rfl, s1 _ _ a1, fa.cls, fa.na _ (by simp [fieldNames]), a4, ?_⟩
    refine ⟨_, rfl, q1, _, _, _, _, rfl, s1 _ _ a1, fa.cls, fa.na _ (by simp [fieldNames]), a5, by show 2 ≤ sizeLine; decide, fun p np x dx nx nd hne => ?_⟩
    have s2 : Same H1 (upd H1 p (.tup [.ref r1, .ref t1])) := same_new np
    have s3 := sm_trans s1 s2
    have e : (L.map g).length = L.length := List.length_map _
    refine mk_clue (T := A) (hv2.same s2) (by rw [e]; exact hL) upd_same ((a7.same s3).at) (.inr (SqT.of (s3 _ _ a8))) (by rw [e]; exact hA.can.ok) (Nat.le_trans hA.sz (by decide)) ⟨A, by rw [e]; exact hA.can.ok, fun w _ => rfl, hA.sz⟩ nx nd fun q T2 H2 s4 hq lg2 => kk q v2 T2 H2 (sm_trans s3 s4) hq fun w hw => lg2 w (by rw [e]; exact hw)
end
end LW
end
section
set_option Elab.async false
set_option linter.all false
set_option maxRecDepth 100000
set_option maxHeartbeats 1000000
/-! == of clues -/
namespace LW
open PySem PySem.Spec PyProof.Rows L2
/-! ### a table as data -/
def dRow (r : List Nat) : PyData := .tuple (r.map fun n : Nat => PyData.int (n : Int))
def dTab (T : LS.Tb) : PyData := .tuple [.tuple (T.st.map dRow), .tuple (T.to.map .bool)]
theorem lay_all : ∀ {l : List PyData}, (∀ d ∈ l, d.canLay0 = true) → PyData.canLayAll0 l = true
  | [], _ => rfl
  | x :: r, h => by
    show (x.canLay0 && PyData.canLayAll0 r) = true
    rw [h x List.mem_cons_self, lay_all fun d hd => h d (List.mem_cons_of_mem _ hd)] <;> rfl
theorem deep_all {n : Nat} : ∀ {l : List PyData}, (∀ d ∈ l, d.depth ≤ n) → PyData.depthAll l ≤ n
  | [], _ => Nat.zero_le _
  | x :: r, h => by
    show max x.depth (PyData.depthAll r) ≤ n
    exact Nat.max_le.mpr ⟨h x List.mem_cons_self, deep_all fun d hd => h d (List.mem_cons_of_mem _ hd)⟩
theorem lay_row (r : List Nat) : (dRow r).canLay0 = true := lay_all fun d hd => by
  obtain ⟨n, _, rfl⟩ := List.mem_map.mp hd
  rfl
theorem deep_row (r : List Nat) : (dRow r).depth ≤ 1 := by
  show PyData.depthAll _ + 1 ≤ 1
  have := deep_all (n := 0) (l := r.map fun n : Nat => PyData.int (n : Int)) fun d hd => by
    obtain ⟨n, _, rfl⟩ := List.mem_map.mp hd
    exact Nat.le_refl _
  omega
theorem shaped_tab (T : LS.Tb) : SeqAt.shaped (dTab T) = true := by
  have h1 : (PyData.tuple (T.st.map dRow)).canLay0 = true := lay_all fun d hd => by
    obtain ⟨r, _, rfl⟩ := List.mem_map.mp hd
    exact lay_row r
  have h2 : (PyData.tuple (T.to.map .bool)).canLay0 = true := lay_all fun d hd => by
    obtain ⟨r, _, rfl⟩ := List.mem_map.mp hd
    rfl
  have e1 : (PyData.tuple (T.st.map dRow)).depth ≤ 2 := by
    show PyData.depthAll _ + 1 ≤ 2
    have := deep_all (n := 1) (l := T.st.map dRow) fun d hd => by
      obtain ⟨r, _, rfl⟩ := List.mem_map.mp hd
      exact deep_row r
    omega
  have e2 : (PyData.tuple (T.to.map .bool)).depth ≤ 2 := by
    show PyData.depthAll _ + 1 ≤ 2
    have := deep_all (n := 0) (l := T.to.map PyData.bool) fun d hd => by
      obtain ⟨r, _, rfl⟩ := List.mem_map.mp hd
      exact Nat.le_refl _
    omega
  unfold SeqAt.shaped
  rw [Bool.and_eq_true]
  refine ⟨lay_all fun d hd => ?_, decide_eq_true ?_⟩
  · simp only [List.mem_cons, List.not_mem_nil, or_false] at hd
    rcases hd with rfl | rfl
    · exact h1
    · exact h2
  · show PyData.depthAll _ + 1 ≤ 64
    have := deep_all (n := 2) (l := [.tuple (T.st.map dRow), .tuple (T.to.map .bool)]) fun d hd => by
      simp only [List.mem_cons, List.not_mem_nil, or_false] at hd
      rcases hd with rfl | rfl
      · exact e1
      · exact e2
    omega
theorem eqv_all {α : Type} (f : α → PyData) (he : ∀ x y, PyData.eqv (f x) (f y) = true ↔ x = y) : ∀ l m : List α, PyData.eqvAll (l.map f) (m.map f) = true ↔ l = m
  | [], [] => ⟨fun _ => rfl, fun _ => rfl⟩
  | [], _ :: _ => Iff.intro (fun z => by cases z) (fun z => by cases z)
  | _ :: _, [] => Iff.intro (fun z => by cases z) (fun z => by cases z)
  | x :: l, y :: m => by
    show (PyData.eqv (f x) (f y) && PyData.eqvAll (l.map f) (m.map f)) = true ↔ _
    rw [Bool.and_eq_true, he, eqv_all f he l m, List.cons.injEq]
theorem eqv_row (r s : List Nat) : PyData.eqv (dRow r) (dRow s) = true ↔ r = s := eqv_all (fun n : Nat => PyData.int (n : Int)) (fun x y => by
  show ((x : Int) == (y : Int)) = true ↔ _
  rw [beq_iff_eq]
  omega) r s
theorem eqv_tab (A B : LS.Tb) : PyData.eqv (dTab A) (dTab B) = true ↔ A = B := by
  show (PyData.eqvAll (A.st.map dRow) (B.st.map dRow) && (PyData.eqvAll (A.to.map .bool) (B.to.map .bool) && true)) = true ↔ _
  rw [Bool.and_eq_true, Bool.and_true, eqv_all dRow eqv_row, eqv_all PyData.bool (fun x y => by show (x == y) = true ↔ _; rw [beq_iff_eq])]
  constructor
  · rintro ⟨h1, h2⟩
    cases A; cases B
    simp only at h1 h2
    rw [h1, h2]
  · rintro rfl
    exact ⟨rfl, rfl⟩
section
variable {K : PySem.W.Frag} {H : Hp}
theorem dp_map {α : Type} (f : α → V) (g : α → PyData) (h : ∀ x, Dp K H (f x) (g x)) : ∀ l : List α, DpAll K H (l.map f) (l.map g)
  | [] => .nil
  | x :: r => .cons (h x) (dp_map f g h r)
theorem dp_rows : ∀ {rs : List Addr} {st : List (List Nat)}, rs.length = st.length → (∀ (i : Nat) (a : Addr) (row : List Nat), rs[i]? = some a → st[i]? = some row → H a = some (.tup (row.map nV))) → DpAll K H (rs.map V.ref) (st.map dRow)
  | [], [], _, _ => .nil
  | [], _ :: _, h, _ => by cases h
  | _ :: _, [], h, _ => by cases h
  | a :: rs, r :: st, h, hh => .cons (.tup (SqT.of (hh 0 a r rfl rfl)) (dp_map nV (fun n : Nat => PyData.int (n : Int)) (fun x => .int _) r)) (dp_rows (by simpa using h) fun i b row e1 e2 => hh (i + 1) b row (by simpa using e1) (by simpa using e2))
theorem dp_tab {p r t : Addr} {T : LS.Tb} (hp : H p = some (.tup [.ref r, .ref t])) (hr : RowsT H r T.st) (ht : H t = some (.tup (T.to.map V.bl))) : Dp K H (.ref p) (dTab T) := by
  obtain ⟨rs, h1, h2, h3⟩ := hr
  exact .tup (SqT.of hp) (.cons (.tup (SqT.of h1) (dp_rows h2 h3)) (.cons (.tup (SqT.of ht) (dp_map V.bl PyData.bool (fun b => .bl b) T.to)) .nil))
end
abbrev st_Clue_eq : Stmt := meth 37 13
theorem sc_Clue_eq : FnScope ["self", "other"] ["self", "other"] (defScope st_Clue_eq) := ⟨rfl, rfl, rfl, by decide +kernel, rfl, by decide +kernel, by decide +kernel⟩
def spEqC (c : Cs) : Sp := fun vs H Q _ => ∃ (q1 q2 v1 v2 : Addr) (L : List Nat) (A B : LS.Tb), vs = [.ref q1, .ref q2] ∧ ClueO c H q1 v1 L A ∧ ClueO c H q2 v2 L B ∧ ∀ b H', (b = true ↔ ∀ w, LS.Wd L.length w → A.lang w = B.lang w) → Same H H' → Q (.bl b) H'
section
variable {P : Program} {w : World} {K : PySem.W.Frag} {mg : Str → Option Value} {base : Heap} {c : Cs}
theorem c_Clue_eq (Z : TC K mg c) : FnR P w K mg base CX0 2 c.fEq (spEqC c) := by
  have T := Z.T
  have c_Values_eq := c_Values_eq (P := P) (w := w) (base := base) Z
  refine FunM.fn Z.f_Eq sc_Clue_eq (fun _ _ _ _ _ _ us hl => match us, hl with | [_, _], _ => rfl) (fun vs H Q E h => ?_) (fun cdv A outer s H vs Q E hr h => ?_)
  · obtain ⟨q1, q2, v1, v2, L, A, B, rfl, _⟩ := h
    rfl
  · obtain ⟨q1, q2, v1, v2, L, A, B, rfl, hA, hB, kk⟩ := h
    obtain ⟨C1, d1, f1, r1, t1, a1, a2, a3, a4, a5, a6, a7, a8⟩ := hA.ex
    obtain ⟨C2, d2, f2, r2, t2, b1, b2, b3, b4, b5, b6, b7, b8⟩ := hB.ex
    obtain ⟨dv1, hv1⟩ := hA.val
    obtain ⟨dv2, hv2⟩ := hB.val
    have fa := (Z.cq a2)
    have fb := (Z.cq b2)
    have hu := hr.units
--TERM Clue.__eq__
    refine ⟨_, (pss_cons (ps_if (PW.pt (pw_or (pt_not (pt_val (pe_callB (call_isiKK K) (by rfl) T.b_isinstance bt_isinstance (pa_cons (pv 1) (pa_cons (pe_ocl rfl Z.g_Clue) pa_nil))))) (pw_or1 (pt_not (pt_cmpR (op_ownEq c_Values_eq (hr.mono (by decide))) (pe_fldK K (pv 0)) (pe_fldK K (pv 1)) (nomark _)))))) (pss_one (ps_ret pe_bl))
  pss_nil)
  (pss_one (ps_ret (pe_cmpR (op_eqDK K hu) (pe_tup (pa_cons (pe_fldK K (pv 0)) (pa_cons (pe_fldK K (pv 0)) pa_nil))) (pe_tup (pa_cons (pe_fldK K (pv 1)) (pa_cons (pe_fldK K (pv 1)) pa_nil))) (nomark _))))), ?_⟩
--END
    refine ⟨_, rfl, _, _, _, _, true, rfl, .own _, Z.tyOf (by simp [Cs.all, b2]) b1, (Z.cc _ b2).kit, true, rfl, iteF ?_⟩
    refine ⟨_, rfl, q1, _, _, _, _, rfl, a1, fa.cls, fa.na _ (by simp [fieldNames]), a3, _, rfl, q2, _, _, _, _, rfl, b1, fb.cls, fb.na _ (by simp [fieldNames]), b3, ?_⟩
    refine ⟨v1, v2, _, _, _, _, _, _, rfl, rfl, hv1, hv2, Z.s_veq, Z.s_veq, Z.o_vals, ⟨v1, v2, L, rfl, ⟨dv1, hv1⟩, ⟨dv2, hv2⟩, true, rfl, iteF ?_⟩, ⟨v2, v1, L, rfl, ⟨dv2, hv2⟩, ⟨dv1, hv1⟩, true, rfl, iteF ?_⟩⟩
    all_goals
      refine ⟨_, rfl, q1, _, _, _, _, rfl, a1, fa.cls, fa.na _ (by simp [fieldNames]), a4, _, rfl, q1, _, _, _, _, rfl, a1, fa.cls, fa.na _ (by simp [fieldNames]), a5, by show 2 ≤ sizeLine; decide, fun p1 n1 => ?_⟩
      have s1 : Same H (upd H p1 (.tup [.ref r1, .ref t1])) := same_new n1
      refine ⟨_, rfl, q2, _, _, _, _, rfl, s1 _ _ b1, fb.cls, fb.na _ (by simp [fieldNames]), b4, _, rfl, q2, _, _, _, _, rfl, s1 _ _ b1, fb.cls, fb.na _ (by simp [fieldNames]), b5, by show 2 ≤ sizeLine; decide, fun p2 n2 => ?_⟩
      have s2 : Same H (upd (upd H p1 (.tup [.ref r1, .ref t1])) p2 (.tup [.ref r2, .ref t2])) := sm_trans s1 (same_new n2)
      have hp1 : upd (upd H p1 (.tup [.ref r1, .ref t1])) p2 (.tup [.ref r2, .ref t2]) p1 = some (.tup [.ref r1, .ref t1]) := (same_new n2) _ _ upd_same
      refine ⟨dTab A, dTab B, dp_tab hp1 (a7.same s2) (s2 _ _ a8), dp_tab upd_same (b7.same s2) (s2 _ _ b8), shaped_tab A, shaped_tab B, kk _ _ ?_ s2⟩
      rw [eqv_tab]
      exact ⟨fun e w _ => by rw [e], fun e => LS.canon_unique hA.can hB.can e⟩
end
end LW
end
section
set_option Elab.async false
set_option linter.all false
set_option maxRecDepth 100000
set_option maxHeartbeats 1000000
/-! clue.count -/
namespace LW
open PySem PySem.Spec PyProof.Rows L2
abbrev st_Clue_count : Stmt := meth 37 4
theorem sc_Clue_count : FnScope ["self", "length", "many", "letter", "is_told", "row", "later"] ["self", "length"] (defScope st_Clue_count) := ⟨rfl, rfl, rfl, by decide +kernel, rfl, by decide +kernel, by decide +kernel⟩
def spCount (c : Cs) : Sp := fun vs H Q _ => ∃ (q1 v1 : Addr) (L : List Nat) (A : LS.Tb) (n : Nat), vs = [.ref q1, nV n] ∧ ClueO c H q1 v1 L A ∧ L.length ≤ 4 ∧ n ≤ 1000 ∧ ∀ H', Same H H' → Q (nV (LS.cnt L.length n A.lang)) H'
section
variable {P : Program} {w : World} {K : PySem.W.Frag} {mg : Str → Option Value} {base : Heap} {c : Cs}
theorem c_Clue_count (Z : TC K mg c) : FnR P w K mg base CX0 2 c.fCnt (spCount c) := by
  have T := Z.T
  have c_is_whole := c_is_whole (P := P) (w := w) (base := base) T
  refine FunM.fn Z.f_Cnt sc_Clue_count (fun _ _ _ _ _ _ us hl => match us, hl with | [_, _], _ => rfl) (fun vs H Q E h => ?_) (fun cdv A outer s H vs Q E hr h => ?_)
  · obtain ⟨q1, v1, L, A, n, rfl, _⟩ := h
    rfl
  · obtain ⟨q1, v1, L, A, n, rfl, hA, hL, hn, kk⟩ := h
    obtain ⟨C1, d1, f1, r1, t1, a1, a2, a3, a4, a5, a6, a7, a8⟩ := hA.ex
    have fa := (Z.cq a2)
    have hz := hA.sz
    have ok := hA.can.ok
--TERM Clue.count
    refine ⟨_, (pss_cons (ps_if (pt_not (pt_val (pe_cal c_is_whole (by decide) hr (pa_cons (pv 1) (pa_cons pe_int (pa_cons (pe_gci rfl T.g_MOST_LENGTH) pa_nil)))))) (pss_one ps_never)
  pss_nil)
  (pss_cons (ps_set (i := 2) sc_Clue_count.nd rfl (Or.inr rfl) (pe_lc (own := [("is_told", 4)]) rfl sc_Clue_count.nd (pi_tupK K (pe_fldK K (pv 0))) (blkOk_by (own := [("is_told", 4)]) (by kernel_rfl)) (fun _ _ _ _ _ => (pg_name (i := 4) sc_Clue_count.nd rfl (Or.inl rfl))) (fun _ _ _ _ _ => pts_nil) (fun _ _ _ _ _ => (pe_callTy call_int1 (by rfl) T.b_int bt_int (pa_cons (pv 4) pa_nil)))))
  (pss_cons (ps_for PassesOwn.never rfl (pi_range1 rfl T.b_range (pa_cons (pv 1) pa_nil)) (pg_name (i := 3) sc_Clue_count.nd rfl (Or.inl rfl))
  (pss_one (ps_set (i := 2) sc_Clue_count.nd rfl (Or.inr rfl) (pe_lc (own := [("row", 5)]) rfl sc_Clue_count.nd (pi_seqK K (pe_fldK K (pv 0))) (blkOk_by (own := [("row", 5)]) (by kernel_rfl)) (fun _ _ _ _ _ => (pg_name (i := 5) sc_Clue_count.nd rfl (Or.inl rfl))) (fun _ _ _ _ _ => pts_nil) (fun _ _ _ _ _ => (pe_callB (cr_sumK K) (by rfl) T.b_sum bt_sum (pa_cons (pe_lc (own := [("later", 6)]) rfl sc_Clue_count.nd (pi_seqK K (pv 5)) (blkOk_by (own := [("later", 6)]) (by kernel_rfl)) (fun _ _ _ _ _ => (pg_name (i := 6) sc_Clue_count.nd rfl (Or.inl rfl))) (fun _ _ _ _ _ => pts_nil) (fun _ _ _ _ _ => (pe_ix (ix_listK K) (pv 2) (pv 6) (fun _ _ => rfl)))) pa_nil)))))))
  (pss_one (ps_ret (pe_ix (ix_listK K) (pv 2) pe_int (fun _ _ => rfl))))))), ?_⟩
--END
    refine ⟨_, rfl, (n : Int), 0, 1000, rfl, true, ?_, iteF ?_⟩
    · rw [decide_eq_true (by omega), decide_eq_true (by omega)] <;> rfl
    refine ⟨_, rfl, q1, _, _, _, _, rfl, a1, fa.cls, fa.na _ (by simp [fieldNames]), a5, t1, rfl, ⟨_, SqT.of a8⟩, fun D nD => lc_it (walk_tup (K := K) (a := t1) (xs := A.to.map V.bl)) (LcPv (RMap fun i => nV (LS.b2n (A.to.getD i false))) H D) (pv_start nD rfl) (fun i H' _ p => SqT.of (pv_same p _ _ a8)) ?_ ?_⟩
    · rintro i x H1 H2 hi ⟨acc, eD, hl, sm, r⟩ ⟨rfl, hx⟩
      obtain ⟨b, hb, rfl⟩ := of_map_at hx
      rw [List.length_map] at hi
      have hlen := ok.len
      refine ⟨rfl, _, rfl, .inr ⟨b, rfl, ?_⟩⟩
      refine pv_push eD hl sm (Same.refl _) (by omega) (rmap_push r ?_)
      rw [show A.to.getD i false = b by rw [List.getD_eq_getElem?_getD, hb] <;> rfl]
      cases b <;> rfl
    rintro H1 ⟨acc, eD, hl, sm, r⟩
    have s1 := sm_trans sm hid_sub
    have e1 : acc = (LS.cntVec A 0).map nV := by
      rw [show acc = _ from r, List.length_map, map_range_getD A.to false fun b => nV (LS.b2n b)]
      show _ = (A.to.map LS.b2n).map nV
      rw [List.map_map] <;> rfl
    rw [e1] at eD
    clear e1 r acc hl
    refine ⟨_, rfl, (n : Int), rfl, by omega, by omega, ?_⟩
    rw [Int.toNat_natCast]
    obtain ⟨rs, h1, h2, h3⟩ := id a7
    refine for_it (walk_range (lo := 0) (n := n)) (fun i σ H => ∃ (m : Addr) (v3 : Option V), σ = [some (.ref q1), some (nV n), some (.ref m), v3, none, none, none] ∧ Same H1 H ∧ H m = some (.lst ((LS.cntVec A i).map nV))) ⟨D, none, rfl, Same.refl _, eD⟩ (fun _ _ _ _ _ => True.intro) ?_ ?_
    · rintro i x σ2 H3 H2 hi ⟨m, v3, rfl, s2, em⟩ ⟨rfl, rfl⟩
      have s02 := sm_trans s1 s2
      refine ⟨_, rfl, q1, _, _, _, _, rfl, s02 _ _ a1, fa.cls, fa.na _ (by simp [fieldNames]), a4, r1, rfl, lc_sq (K := K) (H0 := H2) (.inr (SqT.of (s02 _ _ h1))) (Same.refl _) (fun D1 => LcPv (RMap fun j => nV (((A.st.getD j []).map fun y => (LS.cntVec A i).getD y 0).sum)) H2 D1) (fun D1 nD1 => pv_start nD1 rfl) (fun D1 j H' _ _ p => pv_same p) ?_ ?_⟩
      · rintro D1 j y H4 nD1 hy ⟨acc, eD1, hl, sm1, r⟩
        obtain ⟨ra, er, rfl⟩ := of_map_at hy
        have hj : j < A.st.length := by rw [← h2]; exact (List.getElem?_eq_some_iff.mp er).1
        have est : A.st[j]? = some A.st[j] := List.getElem?_eq_getElem hj
        have egt : A.st.getD j [] = A.st[j] := LS.getD_at hj
        have s24 := sm_trans sm1 hid_sub
        have s04 := sm_trans s02 s24
        have hra := s04 _ _ (h3 j ra _ er est)
        have hlt : ∀ y ∈ A.st[j], y < (LS.cntVec A i).length := fun y hy => by rw [LS.cntVec_len ok]; exact ok.lt _ (List.getElem_mem hj) y hy
        have hrl : A.st[j].length ≤ 4 := by rw [ok.row _ (List.getElem_mem hj)]; exact hL
        have em4 := s24 _ _ em
        refine ⟨rfl, _, rfl, ra, rfl, lc_sq (K := K) (H0 := H4) (.inr (SqT.of hra)) (Same.refl _) (fun D2 => LcPv (RMap fun u => nV ((LS.cntVec A i).getD (A.st[j].getD u 0) 0)) H4 D2) (fun D2 nD2 => pv_start nD2 rfl) (fun D2 u H' _ _ p => pv_same p) ?_ ?_⟩
        · rintro D2 u z H5 nD2 hz2 ⟨acc2, eD2, hl2, sm2, rr⟩
          obtain ⟨p, ep, rfl⟩ := of_map_at hz2
          have hu' : u < A.st[j].length := (List.getElem?_eq_some_iff.mp ep).1
          have s45 := sm_trans sm2 hid_sub
          have hp := hlt p (List.mem_of_getElem? ep)
          have epm : (LS.cntVec A i)[p]? = some ((LS.cntVec A i).getD p 0) := by rw [LS.getD_at hp]; exact List.getElem?_eq_getElem hp
          refine ⟨rfl, _, rfl, _, rfl, m, _, _, _, rfl, rfl, SqL.of (s45 _ _ em4), atI_nat (map_at nV epm), ?_⟩
          exact pv_push eD2 hl2 sm2 (Same.refl _) (by omega) (rmap_push rr (by rw [show A.st[j].getD u 0 = p by rw [List.getD_eq_getElem?_getD, ep] <;> rfl]))
        · rintro D2 H5 nD2 ⟨acc2, eD2, hl2, sm2, rr⟩
          have s45 := sm_trans sm2 hid_sub
          refine ⟨D2, A.st[j].map fun y => (((LS.cntVec A i).getD y 0 : Nat) : Int), rfl, SqL.of ?_, ?_⟩
          · rw [eD2, show acc2 = _ from rr, List.length_map, map_range_getD A.st[j] 0 fun y => nV ((LS.cntVec A i).getD y 0), List.map_map] <;> rfl
          · rw [cast_sum]
            exact pv_push eD1 hl sm1 s45 (by omega) (rmap_push r (by rw [egt]))
      · rintro D1 H4 nD1 ⟨acc, eD1, hl, sm1, r⟩
        have s24 := sm_trans sm1 hid_sub
        refine ⟨D1, _, rfl, sm_trans s2 s24, ?_⟩
        rw [eD1, show acc = _ from r, List.length_map, h2, map_range_getD A.st [] fun row => nV ((row.map fun y => (LS.cntVec A i).getD y 0).sum)]
        show _ = some (HO.lst ((A.st.map fun row => (row.map fun y => (LS.cntVec A i).getD y 0).sum).map nV))
        rw [List.map_map] <;> rfl
    · rintro σ2 H2 ⟨m, v3, rfl, s2, em⟩
      have hp : 0 < (LS.cntVec A n).length := by rw [LS.cntVec_len ok]; exact ok.pos
      have e0 : (LS.cntVec A n)[0]? = some ((LS.cntVec A n).getD 0 0) := by rw [LS.getD_at hp]; exact List.getElem?_eq_getElem hp
      refine ⟨_, rfl, m, _, _, _, rfl, rfl, SqL.of em, atI_nat (map_at nV e0), ?_⟩
      have := kk H2 (sm_trans s1 s2)
      rw [← LS.cntM_spec ok n] at this
      exact this
end
end LW
end
section
set_option Elab.async false
set_option linter.all false
set_option maxRecDepth 100000
set_option maxHeartbeats 1000000
/-! need_mark, by_mark, needed_cell -/
namespace LW
open PySem PySem.Spec PyProof.Rows L2
theorem op_ownNotInK {X : Cx} {k : Nat} {f : Addr} {sp : Sp} (K : PySem.W.Frag) (F : FnR X.prog X.w X.K X.mg X.base CX0 k f sp) (hr : Room k X.A) (hK : X.K = K := by rfl) : OpR X (compareOp .NotIn) (rOwIn K f sp true) := by
  subst hK
  exact op_ownNotIn F hr
abbrev st_need_mark : Stmt := top 45
theorem sc_need_mark : FnScope ["values", "mark"] ["values", "mark"] (defScope st_need_mark) := ⟨rfl, rfl, rfl, by decide +kernel, rfl, by decide +kernel, by decide +kernel⟩
abbrev st_by_mark : Stmt := top 47
theorem sc_by_mark : FnScope ["values", "mark", "on", "off", "letter"] ["values", "mark", "on", "off"] (defScope st_by_mark) := ⟨rfl, rfl, rfl, by decide +kernel, rfl, by decide +kernel, by decide +kernel⟩
abbrev st_needed_cell : Stmt := top 48
theorem sc_needed_cell : FnScope ["values", "thing", "part", "cell"] ["values", "thing", "part"] (defScope st_needed_cell) := ⟨rfl, rfl, rfl, by decide +kernel, rfl, by decide +kernel, by decide +kernel⟩
/-- a row by the mark -/
def byM (L : List Nat) (m on off : Nat) : List Nat := L.map fun y => if y = m then on else off
def spNeedM (c : Cs) : Sp := fun vs H Q _ => ∃ (v : Addr) (L : List Nat) (m : Nat), vs = [.ref v, .str (Sg [m])] ∧ ValO c H v L ∧ m ∈ L ∧ Q .non H
def spByM (c : Cs) : Sp := fun vs H Q _ => ∃ (v : Addr) (L : List Nat) (m on off : Nat), vs = [.ref v, .str (Sg [m]), nV on, nV off] ∧ ValO c H v L ∧ L.length ≤ 4 ∧ ∀ p H', Same H H' → H p = none → H' p = some (.lst ((byM L m on off).map nV)) → Q (.ref p) H'
def spNeedC (c : Cs) : Sp := fun vs H Q _ => ∃ (v : Addr) (L a : List Nat) (x : V), vs = [.ref v, .str (Sg a), x] ∧ ValO c H v L ∧ L.length ≤ 100 ∧ L.Nodup ∧ a.length ≤ 4000 ∧ a.Nodup ∧ (∀ y ∈ a, y ∈ L) ∧
  ∀ p b H', (∀ y, y ∈ b ↔ y ∈ a) → Same H H' → CellO c H' p b → Q (.ref p) H'
theorem sg1_eq (y m : Nat) : decide (V.str (Sg [y]) = V.str (Sg [m])) = decide (y = m) := by
  rw [decide_eq_decide]
  constructor
  · intro h
    exact sK_inj y m (congrArg Sum.inr (V.str.inj h))
  · rintro rfl
    rfl
section
variable {P : Program} {w : World} {K : PySem.W.Frag} {mg : Str → Option Value} {base : Heap} {c : Cs}
theorem c_need_mark (Z : TC K mg c) : Cal P w K mg base "need_mark" 2 ["values", "mark"] (spNeedM c) := by
  have T := Z.T
  have c_need_values := c_need_values (P := P) (w := w) (base := base) Z
  have c_Values_contains := c_Values_contains (P := P) (w := w) (base := base) Z
  refine FunG.cal T.f_need_mark sc_need_mark (fun _ _ _ _ _ _ us hl => match us, hl with | [_, _], _ => rfl) (fun vs H Q E h => ?_) (fun f cdv A outer s H vs Q E hr h => ?_)
  · obtain ⟨v, L, m, rfl, _⟩ := h
    rfl
  · obtain ⟨v, L, m, rfl, ⟨dx, hv⟩, hm, k⟩ := h
--TERM need_mark
    refine ⟨_, (pss_cons (ps_expr (pe_cal c_need_values (by decide) hr (pa_cons (pv 0) pa_nil)))
  (pss_one (ps_if (pt_cmpR (op_ownNotInK K c_Values_contains (hr.mono (by decide))) (pv 1) (pv 0) (by rfl)) (pss_one ps_never)
  pss_nil))), ?_⟩
--END
    refine ⟨_, rfl, v, L, rfl, ⟨dx, hv⟩, ?_⟩
    refine ⟨_, rfl, _, rfl, v, _, _, _, rfl, hv, Z.s_vin, v, L, m, rfl, ⟨dx, hv⟩, _, rfl, _, rfl, ?_⟩
    rw [decide_eq_true hm]
    exact iteF k
theorem c_by_mark (Z : TC K mg c) : Cal P w K mg base "by_mark" 1 ["values", "mark", "on", "off"] (spByM c) := by
  have T := Z.T
  refine FunG.cal T.f_by_mark sc_by_mark (fun _ _ _ _ _ _ us hl => match us, hl with | [_, _, _, _], _ => rfl) (fun vs H Q E h => ?_) (fun f cdv A outer s H vs Q E hr h => ?_)
  · obtain ⟨v, L, m, on, off, rfl, _⟩ := h
    rfl
  · obtain ⟨v, L, m, on, off, rfl, ⟨dx, hv⟩, hL, k⟩ := h
--TERM by_mark
    refine ⟨_, (pss_one (ps_ret (pe_lc (own := [("letter", 4)]) rfl sc_by_mark.nd (pi_str (pe_fldK K (pv 0))) (blkOk_by (own := [("letter", 4)]) (by kernel_rfl)) (fun _ _ _ _ _ => (pg_name (i := 4) sc_by_mark.nd rfl (Or.inl rfl))) (fun _ _ _ _ _ => pts_nil) (fun _ _ _ _ _ => (pe_ifExp (pt_cmpR op_eq (pv 4) (pv 1) (nomark _)) (pv 2) (pv 3)))))), ?_⟩
--END
    refine ⟨_, rfl, v, _, _, _, _, rfl, hv, Z.vl.cls, Z.vl.na _ (by simp [fieldNames]), rfl, Sg L, rfl, lc_txt (fun D => LcPv (RMap fun i => nV (if L.getD i 0 = m then on else off)) H D) (fun D nD => pv_start nD rfl) ?_ ?_⟩
    · rintro D i y H1 nD hc ⟨acc, eD, hl, sm, r⟩
      have hi : i < L.length := (List.getElem?_eq_some_iff.mp hc).1
      have hy2 : L.getD i 0 = y := by rw [List.getD_eq_getElem?_getD, hc] <;> rfl
      refine ⟨rfl, _, rfl, _, rfl, rfl, _, rfl, ?_⟩
      rw [sg1_eq]
      by_cases hm : y = m
      · rw [decide_eq_true hm]
        exact iteT ⟨_, rfl, pv_push eD hl sm (Same.refl _) (by omega) (rmap_push r (by rw [hy2, if_pos hm]))⟩
      · rw [decide_eq_false hm]
        exact iteF ⟨_, rfl, pv_push eD hl sm (Same.refl _) (by omega) (rmap_push r (by rw [hy2, if_neg hm]))⟩
    · rintro D H1 nD ⟨acc, eD, hl, sm, r⟩
      refine k D H1 (sm_trans sm hid_sub) nD ?_
      rw [eD, show acc = _ from r, map_range_getD L 0 fun y => nV (if y = m then on else off)]
      unfold byM
      rw [List.map_map] <;> rfl
theorem c_needed_cell (Z : TC K mg c) : Cal P w K mg base "needed_cell" 5 ["values", "thing", "part"] (spNeedC c) := by
  have T := Z.T
  have c_cell_told := c_cell_told (P := P) (w := w) (base := base) Z
  refine FunG.cal T.f_needed_cell sc_needed_cell (fun _ _ _ _ _ _ us hl => match us, hl with | [_, _, _], _ => rfl) (fun vs H Q E h => ?_) (fun f cdv A outer s H vs Q E hr h => ?_)
  · obtain ⟨v, L, a, x, rfl, _⟩ := h
    rfl
  · obtain ⟨v, L, a, x, rfl, hv, hz, hL, ha, hn, hs, k⟩ := h
--TERM needed_cell
    refine ⟨_, (pss_cons (ps_set (i := 3) sc_needed_cell.nd rfl (Or.inl rfl) (pe_cal c_cell_told (by decide) hr (pa_cons (pv 0) (pa_cons (pv 1) pa_nil))))
  (pss_cons (ps_if (pt_cmpR op_isN (pv 3) pe_non (nomark _)) (pss_one ps_never)
  pss_nil)
  (pss_one (ps_ret (pv 3))))), ?_⟩
--END
    refine ⟨_, rfl, _, rfl, v, L, a, rfl, hv, hz, hL, ha, hn, hs, fun p b H' hb sm hp => ?_⟩
    refine ⟨_, rfl, rfl, _, rfl, ?_⟩
    rw [decide_eq_false (fun z => by cases z)]
    exact iteF ⟨_, rfl, k p b H' hb sm hp⟩
end
end LW
end
section
set_option Elab.async false
set_option linter.all false
set_option maxRecDepth 100000
set_option maxHeartbeats 2000000
/-! table_of_runs -/
namespace LW
open PySem PySem.Spec PyProof.Rows L2
abbrev st_table_of_runs : Stmt := top 49
theorem sc_table_of_runs : FnScope ["values", "mark", "lengths", "lost", "steps", "length", "gap", "many", "end", "state"] ["values", "mark", "lengths"] (defScope st_table_of_runs) := ⟨rfl, rfl, rfl, by decide +kernel, rfl, by decide +kernel, by decide +kernel⟩
def runBlock (L : List Nat) (m lost gap r : Nat) : List (List Nat) := byM L m (gap + 1) gap :: ((List.range (r - 1)).map fun j => byM L m (gap + (j + 1) + 1) lost) ++ [byM L m lost (gap + r + 1)]
def runRows (L : List Nat) (m lost : Nat) (ls : List Nat) : List (List Nat) := ls.foldl (fun R r => R ++ runBlock L m lost R.length r) []
def runLost (ls : List Nat) : Nat := ls.sum + ls.length + 1
def runTab (L : List Nat) (m : Nat) (ls : List Nat) : LS.Tb :=
  ⟨runRows L m (runLost ls) ls ++ [byM L m (runLost ls) (runRows L m (runLost ls) ls).length] ++ [byM L m (runLost ls) (runLost ls)],
    (List.range ((runRows L m (runLost ls) ls).length + 2)).map fun s => (s == (runRows L m (runLost ls) ls).length || s + 1 == (runRows L m (runLost ls) ls).length)⟩
theorem runRows_snoc {L : List Nat} {m lost : Nat} {a : List Nat} {r : Nat} : runRows L m lost (a ++ [r]) = runRows L m lost a ++ runBlock L m lost (runRows L m lost a).length r := by
  unfold runRows
  rw [List.foldl_append] <;> rfl
theorem block_len {L : List Nat} {m lost gap r : Nat} (h : 1 ≤ r) : (runBlock L m lost gap r).length = r + 1 := by
  unfold runBlock
  simp
  omega
theorem foldl_len {L : List Nat} {m lost : Nat} : ∀ (ls : List Nat) (R : List (List Nat)), (∀ r ∈ ls, 1 ≤ r) → (ls.foldl (fun R r => R ++ runBlock L m lost R.length r) R).length = R.length + (ls.sum + ls.length)
  | [], R, _ => by simp
  | r :: ls, R, h => by
    rw [List.foldl_cons, foldl_len ls _ fun x hx => h x (List.mem_cons_of_mem _ hx), List.length_append, block_len (h r List.mem_cons_self), List.sum_cons, List.length_cons]
    omega
theorem runRows_len {L : List Nat} {m lost : Nat} {ls : List Nat} (h : ∀ r ∈ ls, 1 ≤ r) : (runRows L m lost ls).length = ls.sum + ls.length := by
  have := foldl_len (L := L) (m := m) (lost := lost) ls [] h
  rw [List.length_nil, Nat.zero_add] at this
  exact this
theorem sum_le {ls : List Nat} {b : Nat} (h : ∀ r ∈ ls, r ≤ b) : ls.sum ≤ b * ls.length := by
  induction ls with
  | nil => simp
  | cons a r ih =>
    rw [List.sum_cons, List.length_cons, Nat.mul_succ]
    have := ih fun x hx => h x (List.mem_cons_of_mem _ hx)
    have := h a List.mem_cons_self
    omega
def spRunTab (c : Cs) (K : PySem.W.Frag) : Sp := fun vs H Q _ => ∃ (v ll : Addr) (L : List Nat) (m : Nat) (ls : List Nat), vs = [.ref v, .str (Sg [m]), .ref ll] ∧ ValO c H v L ∧ L.length ≤ 4 ∧ SqT K H ll (ls.map nV) ∧ ls.length ≤ 8 ∧ (∀ r ∈ ls, 1 ≤ r ∧ r ≤ 30) ∧
  ∀ p a b H', Same H H' → H' p = some (.tup [.ref a, .ref b]) → RowsAt K H' a (runTab L m ls).st → SqA K H' b ((runTab L m ls).to.map V.bl) → Q (.ref p) H'
theorem RowsL.same {H H' : Hp} {ls : Addr} {R : List (List Nat)} (h : RowsL H ls [] R) (e : Same H H') : RowsL H' ls [] R := h.keep (ey := []) (SameX.refl.then e) (by simp) (by simp)
theorem push_row {H H2 : Hp} {l p : Addr} {R : List (List Nat)} {row : List Nat} (h : RowsL H l [] R) (s : Same H H2) (np : H p = none) (hp : H2 p = some (.lst (row.map nV))) :
    ∃ rs : List Addr, H2 l = some (.lst (rs.map V.ref)) ∧ rs.length = R.length ∧ RowsL (upd H2 l (.lst (rs.map V.ref ++ [.ref p]))) l [] (R ++ [row]) := by
  obtain ⟨rs, p1, _⟩ := id h.ex
  exact (h.same s).push hp (by simp) (fun z => by rw [z, p1] at np; cases np)
section
variable {P : Program} {w : World} {K : PySem.W.Frag} {mg : Str → Option Value} {base : Heap} {c : Cs}
theorem c_table_of_runs (Z : TC K mg c) : Cal P w K mg base "table_of_runs" 2 ["values", "mark", "lengths"] (spRunTab c K) := by
  have T := Z.T
  have c_by_mark := c_by_mark (P := P) (w := w) (base := base) Z
  refine FunG.cal T.f_table_of_runs sc_table_of_runs (fun _ _ _ _ _ _ us hl => match us, hl with | [_, _, _], _ => rfl) (fun vs H Q E h => ?_) (fun f cdv A outer s H vs Q E hr h => ?_)
  · obtain ⟨v, ll, L, m, ls, rfl, _⟩ := h
    rfl
  · obtain ⟨v, ll, L, m, ls, rfl, hv, hL, hs, hz, hl, kk⟩ := h
--TERM table_of_runs
    refine ⟨_, (pss_cons (ps_set (i := 3) sc_table_of_runs.nd rfl (Or.inl rfl) (pe_op op_add (pe_op op_add (pe_callB (cr_sumK K) (by rfl) T.b_sum bt_sum (pa_cons (pe_callTy (call_listK K) (by rfl) T.b_list bt_list (pa_cons (pv 2) pa_nil)) pa_nil)) (pe_callB (call_lenK K) (by rfl) T.b_len PySem.boot_len (pa_cons (pv 2) pa_nil))) pe_int))
  (pss_cons (ps_set (i := 4) sc_table_of_runs.nd rfl (Or.inl rfl) (pe_lst pa_nil))
  (pss_cons (ps_for PassesOwn.never rfl (pi_seqK K (pv 2)) (pg_name (i := 5) sc_table_of_runs.nd rfl (Or.inl rfl))
  (pss_cons (ps_set (i := 6) sc_table_of_runs.nd rfl (Or.inl rfl) (pe_callB (call_lenK K) (by rfl) T.b_len PySem.boot_len (pa_cons (pv 4) pa_nil)))
  (pss_cons (ps_expr (pe_bmK K PySem.F.plainAttrs_list PySem.F.slot_list_append PySem.F.type_list_append mt_append (pv 4) (pa_cons (pe_cal c_by_mark (by decide) hr (pa_cons (pv 0) (pa_cons (pv 1) (pa_cons (pe_op op_add (pv 6) pe_int) (pa_cons (pv 6) pa_nil))))) pa_nil)))
  (pss_cons (ps_for PassesOwn.never rfl (pi_range2 rfl T.b_range (pa_cons pe_int (pa_cons (pv 5) pa_nil))) (pg_name (i := 7) sc_table_of_runs.nd rfl (Or.inl rfl))
  (pss_one (ps_expr (pe_bmK K PySem.F.plainAttrs_list PySem.F.slot_list_append PySem.F.type_list_append mt_append (pv 4) (pa_cons (pe_cal c_by_mark (by decide) hr (pa_cons (pv 0) (pa_cons (pv 1) (pa_cons (pe_op op_add (pe_op op_add (pv 6) (pv 7)) pe_int) (pa_cons (pv 3) pa_nil))))) pa_nil)))))
  (pss_one (ps_expr (pe_bmK K PySem.F.plainAttrs_list PySem.F.slot_list_append PySem.F.type_list_append mt_append (pv 4) (pa_cons (pe_cal c_by_mark (by decide) hr (pa_cons (pv 0) (pa_cons (pv 1) (pa_cons (pv 3) (pa_cons (pe_op op_add (pe_op op_add (pv 6) (pv 5)) pe_int) pa_nil))))) pa_nil))))))))
  (pss_cons (ps_set (i := 8) sc_table_of_runs.nd rfl (Or.inr rfl) (pe_callB (call_lenK K) (by rfl) T.b_len PySem.boot_len (pa_cons (pv 4) pa_nil)))
  (pss_cons (ps_expr (pe_bmK K PySem.F.plainAttrs_list PySem.F.slot_list_append PySem.F.type_list_append mt_append (pv 4) (pa_cons (pe_cal c_by_mark (by decide) hr (pa_cons (pv 0) (pa_cons (pv 1) (pa_cons (pv 3) (pa_cons (pv 8) pa_nil))))) pa_nil)))
  (pss_cons (ps_expr (pe_bmK K PySem.F.plainAttrs_list PySem.F.slot_list_append PySem.F.type_list_append mt_append (pv 4) (pa_cons (pe_cal c_by_mark (by decide) hr (pa_cons (pv 0) (pa_cons (pv 1) (pa_cons (pv 3) (pa_cons (pv 3) pa_nil))))) pa_nil)))
  (pss_one (ps_ret (pe_tup (pa_cons (pv 4) (pa_cons (pe_lc (own := [("state", 9)]) rfl sc_table_of_runs.nd (pi_range1 rfl T.b_range (pa_cons (pe_callB (call_lenK K) (by rfl) T.b_len PySem.boot_len (pa_cons (pv 4) pa_nil)) pa_nil)) (blkOk_by (own := [("state", 9)]) (by kernel_rfl)) (fun _ _ _ _ _ => (pg_name (i := 9) sc_table_of_runs.nd rfl (Or.inl rfl))) (fun _ _ _ _ _ => pts_nil) (fun _ _ _ _ _ => (pe_or (pe_cmpR op_eq (pv 9) (pv 8) (nomark _)) (pe_one (pe_cmpR op_eq (pv 9) (pe_op op_sub (pv 8) pe_int) (nomark _)))))) pa_nil))))))))))), ?_⟩
--END
    refine ⟨_, rfl, ll, _, rfl, .inr hs, fun l1 nl1 => ?_⟩
    have s1 : Same H (upd H l1 (.lst (ls.map nV))) := same_new nl1
    refine ⟨l1, ls.map fun n : Nat => (n : Int), rfl, SqL.of (by rw [upd_same, List.map_map] <;> rfl), ?_⟩
    rw [cast_sum ls fun n : Nat => n, List.map_id']
    refine ⟨_, rfl, _, (ls.map nV).length, rfl, .inr ⟨_, SqT.same s1 hs, rfl⟩, _, _, rfl, rfl, _, _, rfl, rfl, ?_⟩
    have eL : ((ls.sum : Nat) : Int) + (((ls.map nV).length : Nat) : Int) + 1 = ((runLost ls : Nat) : Int) := by
      unfold runLost
      rw [List.length_map]
      omega
    show gName 3 (V.int (((ls.sum : Nat) : Int) + (((ls.map nV).length : Nat) : Int) + 1)) _ _ _
    rw [eL]
    refine ⟨by show 0 ≤ sizeLine; decide, fun l nl => ?_⟩
    have nl0 : H l = none := by
      cases e : H l with
      | none => rfl
      | some o => rw [s1 _ _ e] at nl; cases nl
    have s2 := sm_trans s1 (same_new (o := .lst []) nl)
    refine ⟨_, rfl, ll, rfl, for_sq (K := K) (H0 := H) (.inr hs) s2 (fun i σ H' => ∃ v5 v6 v7 : Option V, σ = [some (.ref v), some (.str (Sg [m])), some (.ref ll), some (nV (runLost ls)), some (.ref l), v5, v6, v7, none, none] ∧ Same H H' ∧ RowsL H' l [] (runRows L m (runLost ls) (ls.take i)))
      ⟨none, none, none, rfl, s2, [], by rw [upd_same] <;> rfl, rfl, fun j a row e _ => by simp at e⟩ (fun _ _ _ _ ⟨_, _, _, _, z, _⟩ => z) ?_ ?_⟩
    · rintro i x σ2 H2 hx ⟨v5, v6, v7, rfl, s3, hR⟩
      obtain ⟨r, er, rfl⟩ := of_map_at hx
      obtain ⟨hr1, hr2⟩ := hl r (List.mem_of_getElem? er)
      generalize hR0 : runRows L m (runLost ls) (ls.take i) = R0 at hR
      obtain ⟨rs, p1, p2, _⟩ := id hR.ex
      -- gap = len(steps)
      refine ⟨_, rfl, _, R0.length, rfl, .inl ⟨_, SqL.of p1, by rw [List.length_map, p2]⟩, ?_⟩
      -- the first row
      refine ⟨_, rfl, .inl ⟨rfl, _, SqL.of p1⟩, _, rfl, _, rfl, _, rfl, _, _, rfl, rfl, _, rfl, v, L, m, R0.length + 1, R0.length, rfl, hv.same s3, hL, fun q1 H3 s4 nq1 hq1 => ?_⟩
      obtain ⟨rs1, a1, a2, hR1⟩ := push_row hR s4 nq1 hq1
      have hRb : R0.length ≤ 400 := by
        rw [← hR0, runRows_len fun x hx => (hl x (List.mem_of_mem_take hx)).1]
        have h1 := sum_le (ls := ls.take i) (b := 30) fun x hx => (hl x (List.mem_of_mem_take hx)).2
        have h2 : (ls.take i).length ≤ 8 := Nat.le_trans (by rw [List.length_take]; exact Nat.min_le_right _ _) hz
        omega
      refine ⟨l, _, _, rfl, rfl, a1, by rw [List.length_map, a2]; exact small5 (by omega), ?_⟩
      have s5 : Same H (upd H3 l (.lst (rs1.map V.ref ++ [.ref q1]))) := sm_upd (sm_trans s3 s4) nl0
      -- the rows between
      refine ⟨_, rfl, 1, (r : Int), rfl, ⟨by omega, by omega, by omega, by omega⟩, ?_⟩
      have e1 : ((r : Int) - 1).toNat = r - 1 := by omega
      rw [e1]
      refine for_it (walk_range (lo := 1) (n := r - 1)) (fun j σ H' => ∃ v7 : Option V, σ = [some (.ref v), some (.str (Sg [m])), some (.ref ll), some (nV (runLost ls)), some (.ref l), some (nV r), some (nV R0.length), v7, none, none] ∧ Same H H' ∧
          RowsL H' l [] (R0 ++ byM L m (R0.length + 1) R0.length :: ((List.range j).map fun j => byM L m (R0.length + (j + 1) + 1) (runLost ls))))
        ⟨v7, rfl, s5, hR1⟩ (fun _ _ _ _ _ => True.intro) ?_ ?_
      · rintro j x σ3 H5 H4 hj ⟨w7, rfl, s6, hR2⟩ ⟨rfl, rfl⟩
        obtain ⟨rs2, b1, b2, _⟩ := id hR2.ex
        refine ⟨_, rfl, .inl ⟨rfl, _, SqL.of b1⟩, _, rfl, _, rfl, _, rfl, _, rfl, _, _, rfl, rfl, _, _, rfl, rfl, _, rfl, v, L, m, R0.length + (j + 1) + 1, runLost ls, ?_, hv.same s6, hL, fun q2 H6 s7 nq2 hq2 => ?_⟩
        · have : ((R0.length : Nat) : Int) + (1 + (j : Int)) + 1 = ((R0.length + (j + 1) + 1 : Nat) : Int) := by omega
          show [V.ref v, V.str (Sg [m]), V.int (((R0.length : Nat) : Int) + (1 + (j : Int)) + 1), nV (runLost ls)] = _
          rw [this]
        obtain ⟨rs3, c1, c2, hR3⟩ := push_row hR2 s7 nq2 hq2
        refine ⟨l, _, _, rfl, rfl, c1, by rw [List.length_map, c2]; refine small5 ?_; simp; omega, ?_⟩
        refine ⟨_, rfl, sm_upd (sm_trans s6 s7) nl0, ?_⟩
        rw [List.range_succ, List.map_append, ← List.cons_append, ← List.append_assoc]
        exact hR3
      · rintro σ3 H5 ⟨w7, rfl, s6, hR2⟩
        obtain ⟨rs2, b1, b2, _⟩ := id hR2.ex
        refine ⟨_, rfl, .inl ⟨rfl, _, SqL.of b1⟩, _, rfl, _, rfl, _, rfl, _, rfl, _, rfl, _, _, rfl, rfl, _, _, rfl, rfl, v, L, m, runLost ls, R0.length + r + 1, ?_, hv.same s6, hL, fun q2 H6 s7 nq2 hq2 => ?_⟩
        · have : ((R0.length : Nat) : Int) + (r : Int) + 1 = ((R0.length + r + 1 : Nat) : Int) := by omega
          show [V.ref v, V.str (Sg [m]), nV (runLost ls), V.int (((R0.length : Nat) : Int) + (r : Int) + 1)] = _
          rw [this]
        obtain ⟨rs3, c1, c2, hR3⟩ := push_row hR2 s7 nq2 hq2
        refine ⟨l, _, _, rfl, rfl, c1, by rw [List.length_map, c2]; refine small5 ?_; simp; omega, ?_⟩
        refine ⟨_, _, _, rfl, sm_upd (sm_trans s6 s7) nl0, ?_⟩
        rw [take_snoc er, runRows_snoc, hR0]
        unfold runBlock
        rw [List.append_assoc] at hR3
        exact hR3
    · rintro σ2 H2 ⟨v5, v6, v7, rfl, s3, hR⟩
      rw [List.length_map, List.take_length] at hR
      generalize hR0 : runRows L m (runLost ls) ls = R0 at hR
      obtain ⟨rs, p1, p2, _⟩ := id hR.ex
      have hRb : R0.length ≤ 400 := by
        rw [← hR0, runRows_len fun x hx => (hl x hx).1]
        have h1 := sum_le (ls := ls) (b := 30) fun x hx => (hl x hx).2
        omega
      refine ⟨_, rfl, _, R0.length, rfl, .inl ⟨_, SqL.of p1, by rw [List.length_map, p2]⟩, ?_⟩
      refine ⟨_, rfl, .inl ⟨rfl, _, SqL.of p1⟩, _, rfl, _, rfl, _, rfl, _, rfl, v, L, m, runLost ls, R0.length, rfl, hv.same s3, hL, fun q1 H3 s4 nq1 hq1 => ?_⟩
      obtain ⟨rs1, a1, a2, hR1⟩ := push_row hR s4 nq1 hq1
      refine ⟨l, _, _, rfl, rfl, a1, by rw [List.length_map, a2]; exact small5 (by omega), ?_⟩
      have s5 : Same H (upd H3 l (.lst (rs1.map V.ref ++ [.ref q1]))) := sm_upd (sm_trans s3 s4) nl0
      obtain ⟨rs2, b1, b2, _⟩ := id hR1.ex
      refine ⟨_, rfl, .inl ⟨rfl, _, SqL.of b1⟩, _, rfl, _, rfl, _, rfl, _, rfl, v, L, m, runLost ls, runLost ls, rfl, hv.same s5, hL, fun q2 H4 s6 nq2 hq2 => ?_⟩
      obtain ⟨rs3, c1, c2, hR2⟩ := push_row hR1 s6 nq2 hq2
      refine ⟨l, _, _, rfl, rfl, c1, by rw [List.length_map, c2, List.length_append]; exact small5 (by simp; omega), ?_⟩
      have s7 : Same H (upd H4 l (.lst (rs3.map V.ref ++ [.ref q2]))) := sm_upd (sm_trans s5 s6) nl0
      generalize upd H4 l _ = H5 at hR2 s7
      obtain ⟨rs4, d1, d2, _⟩ := id hR2.ex
      have hz4 : rs4.length = R0.length + 2 := by rw [d2]; simp
      refine ⟨_, rfl, _, rfl, _, R0.length + 2, rfl, .inl ⟨_, SqL.of d1, by rw [List.length_map, hz4]⟩, _, rfl, by omega, by omega, ?_⟩
      rw [Int.toNat_natCast]
      refine fun D nD => lc_it (walk_range (lo := 0) (n := R0.length + 2)) (LcPv (RMap fun s => V.bl (s == R0.length || s + 1 == R0.length)) H5 D) (pv_start nD rfl) (fun _ _ _ _ => True.intro) ?_ ?_
      · rintro i x H7 H6 hi ⟨acc, eD, hl2, sm, r⟩ ⟨rfl, rfl⟩
        have ed : decide (V.int (0 + (i : Int)) = V.int (R0.length : Nat)) = (i == R0.length) := by
          rw [Bool.eq_iff_iff, decide_eq_true_eq, beq_iff_eq]
          constructor
          · intro z
            have := V.int.inj z
            omega
          · intro z
            rw [z]
            simp
        have ed2 : decide (V.int (0 + (i : Int)) = V.int ((R0.length : Nat) - 1)) = (i + 1 == R0.length) := by
          rw [Bool.eq_iff_iff, decide_eq_true_eq, beq_iff_eq]
          constructor
          · intro z
            have := V.int.inj z
            omega
          · intro z
            rw [← z]
            simp
        refine ⟨rfl, _, rfl, _, rfl, rfl, _, rfl, ?_⟩
        rw [ed]
        cases hb : (i == R0.length) with
        | true =>
          rw [if_pos rfl]
          exact pv_push eD hl2 sm (Same.refl _) (by omega) (rmap_push r (by rw [hb] <;> rfl))
        | false =>
          rw [if_neg (by decide)]
          refine ⟨_, rfl, _, rfl, _, _, rfl, rfl, rfl, ?_⟩
          rw [ed2]
          exact pv_push eD hl2 sm (Same.refl _) (by omega) (rmap_push r (by rw [hb, Bool.false_or]))
      · rintro H6 ⟨acc, eD, hl2, sm, r⟩
        have s8 := sm_trans sm hid_sub
        refine ⟨by show 2 ≤ sizeLine; decide, fun p np => ?_⟩
        have s9 : Same H6 (upd H6 p (.tup [.ref l, .ref D])) := same_new np
        refine kk p l D _ (sm_trans s7 (sm_trans s8 s9)) upd_same ?_ (.inl (SqL.of ?_))
        · have := (hR2.same (sm_trans s8 s9)).at (K := K)
          unfold runTab
          rw [hR0]
          exact this
        · rw [s9 _ _ eD, show acc = _ from r]
          unfold runTab
          rw [hR0, List.map_map] <;> rfl
end
end LW
end
section
set_option linter.all false
/-! the tree of the words' beginnings -/
namespace LS
structure Tr where
  br : List (List (Nat × Nat))
  to : List Bool
def Tr.kid (t : Tr) (s y : Nat) : Option Nat := (t.br.getD s []).lookup y
def Tr.grow (t : Tr) (s y : Nat) : Tr := ⟨t.br.set s (t.br.getD s [] ++ [(y, t.br.length)]) ++ [[]], t.to ++ [false]⟩
def Tr.step (t : Tr) (s y : Nat) : Tr × Nat := match t.kid s y with
  | some q => (t, q)
  | none => (t.grow s y, t.br.length)
def Tr.run (p : Tr × Nat) (w : List Nat) : Tr × Nat := w.foldl (fun p y => p.1.step p.2 y) p
def Tr.add (t : Tr) (w : List Nat) : Tr := ⟨(Tr.run (t, 0) w).1.br, (Tr.run (t, 0) w).1.to.set (Tr.run (t, 0) w).2 true⟩
def trie (ws : List (List Nat)) : Tr := ws.foldl Tr.add ⟨[[]], [false]⟩
/-- the nodes' words are pw -/
structure Tr.Wf (t : Tr) (pw : List (List Nat)) : Prop where
  len : pw.length = t.br.length
  tl : t.to.length = t.br.length
  root : pw[0]? = some []
  nd : pw.Nodup
  pc : ∀ p y, p ++ [y] ∈ pw → p ∈ pw
  kid : ∀ s y q, s < t.br.length → (t.kid s y = some q ↔ ∃ p, pw[s]? = some p ∧ pw[q]? = some (p ++ [y]))
theorem lookup_app {l : List (Nat × Nat)} {y z n : Nat} : (l ++ [(y, n)]).lookup z = (l.lookup z).or (if z = y then some n else none) := by
  rw [List.lookup_append]
  congr 1
  rw [List.lookup_cons]
  by_cases h : z = y
  · subst h; simp
  · rw [if_neg h, show (z == y) = false from beq_eq_false_iff_ne.mpr h] <;> rfl
theorem nodup_ix {pw : List (List Nat)} (nd : pw.Nodup) {i j : Nat} {x : List Nat} (h1 : pw[i]? = some x) (h2 : pw[j]? = some x) : i = j :=
  (LS.idxOf_of nd h1).symm.trans (LS.idxOf_of nd h2)
theorem Tr.Wf.grow {t : Tr} {pw : List (List Nat)} (h : t.Wf pw) {s y : Nat} {p : List Nat} (hp : pw[s]? = some p) (hk : t.kid s y = none) : (t.grow s y).Wf (pw ++ [p ++ [y]]) := by
  have hs : s < t.br.length := by rw [← h.len]; exact (List.getElem?_eq_some_iff.mp hp).1
  have hno : p ++ [y] ∉ pw := fun z => by
    obtain ⟨q, hq⟩ := List.mem_iff_getElem?.mp z
    have := (h.kid s y q hs).mpr ⟨p, hp, hq⟩
    rw [hk] at this
    cases this
  have hlen : (t.grow s y).br.length = t.br.length + 1 := by
    unfold Tr.grow
    simp
  have at_ : ∀ s2, s2 < t.br.length → (t.grow s y).br.getD s2 [] = if s2 = s then t.br.getD s [] ++ [(y, t.br.length)] else t.br.getD s2 [] := fun s2 h2 => by
    unfold Tr.grow
    rw [List.getD_eq_getElem?_getD, List.getElem?_append_left (by simpa using h2), List.getElem?_set]
    by_cases e : s = s2
    · subst e
      rw [if_pos rfl, if_pos hs, if_pos rfl] <;> rfl
    · rw [if_neg e, if_neg (Ne.symm e), ← List.getD_eq_getElem?_getD]
  have at_n : (t.grow s y).br.getD t.br.length [] = [] := by
    unfold Tr.grow
    rw [List.getD_eq_getElem?_getD, List.getElem?_append_right (by simp)]
    simp
  have old : ∀ {i : Nat}, i < pw.length → (pw ++ [p ++ [y]])[i]? = pw[i]? := fun hi => List.getElem?_append_left hi
  have new : (pw ++ [p ++ [y]])[t.br.length]? = some (p ++ [y]) := by
    rw [List.getElem?_append_right (by rw [h.len] <;> omega), h.len]
    simp
  have inv : ∀ {q : Nat} {x : List Nat}, (pw ++ [p ++ [y]])[q]? = some x → (q < t.br.length ∧ pw[q]? = some x) ∨ (q = t.br.length ∧ x = p ++ [y]) := fun {q x} e => by
    have hq := (List.getElem?_eq_some_iff.mp e).1
    rw [List.length_append, List.length_singleton, h.len] at hq
    by_cases h2 : q < t.br.length
    · exact .inl ⟨h2, by rw [← old (by rw [h.len]; exact h2)]; exact e⟩
    · have : q = t.br.length := by omega
      subst this
      rw [new] at e
      exact .inr ⟨rfl, (Option.some.inj e).symm⟩
  refine ⟨by rw [List.length_append, List.length_singleton, h.len, hlen], by rw [hlen]; unfold Tr.grow; rw [List.length_append, List.length_singleton, h.tl], ?_, ?_, ?_, ?_⟩
  · rw [old (by have := (List.getElem?_eq_some_iff.mp h.root).1; exact this)]
    exact h.root
  · rw [List.nodup_append]
    exact ⟨h.nd, by simp, fun a ha b hb e => by rw [List.mem_singleton] at hb; subst hb; subst e; exact hno ha⟩
  · intro p2 y2 hm
    rcases List.mem_append.mp hm with z | z
    · exact List.mem_append_left _ (h.pc p2 y2 z)
    · rw [List.mem_singleton] at z
      obtain ⟨e1, e2⟩ := List.append_inj' z rfl
      rw [e1]
      exact List.mem_append_left _ (List.mem_of_getElem? hp)
  · intro s2 y2 q h2
    rw [hlen] at h2
    unfold Tr.kid
    by_cases e : s2 = s
    · subst e
      rw [at_ s2 hs, if_pos rfl, lookup_app]
      have hp' : (pw ++ [p ++ [y]])[s2]? = some p := by rw [old (by rw [h.len]; exact hs)]; exact hp
      have kk := h.kid s2 y2 q hs
      unfold Tr.kid at kk hk
      by_cases ey : y2 = y
      · subst ey
        rw [hk, if_pos rfl]
        show some t.br.length = some q ↔ _
        constructor
        · intro z
          cases z
          exact ⟨p, hp', new⟩
        · rintro ⟨p2, a1, a2⟩
          rw [hp'] at a1
          cases a1
          rcases inv a2 with ⟨_, z⟩ | ⟨z, _⟩
          · exact absurd (List.mem_of_getElem? z) hno
          · rw [z]
      · rw [if_neg ey, Option.or_none, kk]
        constructor
        · rintro ⟨p2, a1, a2⟩
          rw [hp] at a1
          cases a1
          refine ⟨p, hp', ?_⟩
          rw [old (List.getElem?_eq_some_iff.mp a2).1]
          exact a2
        · rintro ⟨p2, a1, a2⟩
          rw [hp'] at a1
          cases a1
          refine ⟨p, hp, ?_⟩
          rcases inv a2 with ⟨_, z⟩ | ⟨_, z⟩
          · exact z
          · exact absurd (by simpa using z) ey
    · by_cases e2 : s2 = t.br.length
      · subst e2
        rw [at_n]
        constructor
        · intro z; cases z
        · rintro ⟨p2, a1, a2⟩
          rw [new] at a1
          cases a1
          rcases inv a2 with ⟨_, z⟩ | ⟨_, z⟩
          · exact absurd (h.pc _ _ (List.mem_of_getElem? z)) hno
          · exact absurd (congrArg List.length z) (by simp)
      · have h3 : s2 < t.br.length := by omega
        rw [at_ s2 h3, if_neg e]
        have kk := h.kid s2 y2 q h3
        unfold Tr.kid at kk
        rw [kk]
        have o2 := old (i := s2) (by rw [h.len]; exact h3)
        constructor
        · rintro ⟨p2, a1, a2⟩
          exact ⟨p2, by rw [o2]; exact a1, by rw [old (List.getElem?_eq_some_iff.mp a2).1]; exact a2⟩
        · rintro ⟨p2, a1, a2⟩
          rw [o2] at a1
          refine ⟨p2, a1, ?_⟩
          rcases inv a2 with ⟨_, z⟩ | ⟨_, z⟩
          · exact z
          · obtain ⟨e1, _⟩ := List.append_inj' z rfl
            subst e1
            exact absurd (nodup_ix h.nd a1 hp) e
structure Tr.Told (t : Tr) (pw : List (List Nat)) (ws : List (List Nat)) : Prop where
  sub : ∀ x ∈ ws, x ∈ pw
  at_ : ∀ j x, pw[j]? = some x → t.to.getD j false = decide (x ∈ ws)
theorem Tr.step_spec {t : Tr} {pw ws : List (List Nat)} (h : t.Wf pw) (ht : t.Told pw ws) {s : Nat} {p : List Nat} (hp : pw[s]? = some p) (y : Nat) :
    ∃ e, (t.step s y).1.Wf (pw ++ e) ∧ (t.step s y).1.Told (pw ++ e) ws ∧ (pw ++ e)[(t.step s y).2]? = some (p ++ [y]) ∧ e.length ≤ 1 := by
  have hs : s < t.br.length := by rw [← h.len]; exact (List.getElem?_eq_some_iff.mp hp).1
  unfold Tr.step
  cases hk : t.kid s y with
  | some q =>
    obtain ⟨p2, a1, a2⟩ := (h.kid s y q hs).mp hk
    rw [hp] at a1
    cases a1
    exact ⟨[], by rw [List.append_nil]; exact h, by rw [List.append_nil]; exact ht, by rw [List.append_nil]; exact a2, Nat.zero_le _⟩
  | none =>
    have hno : p ++ [y] ∉ pw := fun z => by
      obtain ⟨q, hq⟩ := List.mem_iff_getElem?.mp z
      have := (h.kid s y q hs).mpr ⟨p, hp, hq⟩
      rw [hk] at this
      cases this
    refine ⟨[p ++ [y]], h.grow hp hk, ⟨fun x hx => List.mem_append_left _ (ht.sub x hx), fun j x hj => ?_⟩, ?_, Nat.le_refl _⟩
    · show (t.to ++ [false]).getD j false = _
      by_cases hj2 : j < pw.length
      · rw [List.getElem?_append_left hj2] at hj
        rw [← ht.at_ j x hj, List.getD_eq_getElem?_getD, List.getD_eq_getElem?_getD, List.getElem?_append_left (by rw [h.tl, ← h.len]; exact hj2)]
      · have e1 := (List.getElem?_eq_some_iff.mp hj).1
        rw [List.length_append, List.length_singleton] at e1
        have e2 : j = pw.length := by omega
        subst e2
        rw [List.getElem?_append_right (Nat.le_refl _), Nat.sub_self] at hj
        have e3 : p ++ [y] = x := Option.some.inj hj
        subst e3
        rw [decide_eq_false fun z => hno (ht.sub _ z), List.getD_eq_getElem?_getD, List.getElem?_append_right (by rw [h.tl, h.len] <;> omega), h.tl, h.len]
        simp
    · show (pw ++ [p ++ [y]])[t.br.length]? = _
      rw [List.getElem?_append_right (by rw [h.len] <;> omega), h.len]
      simp
theorem Tr.run_spec : ∀ (w : List Nat) {t : Tr} {pw ws : List (List Nat)} (_ : t.Wf pw) (_ : t.Told pw ws) {s : Nat} {p : List Nat} (_ : pw[s]? = some p),
    ∃ e, (Tr.run (t, s) w).1.Wf (pw ++ e) ∧ (Tr.run (t, s) w).1.Told (pw ++ e) ws ∧ (pw ++ e)[(Tr.run (t, s) w).2]? = some (p ++ w) ∧ e.length ≤ w.length
  | [], t, pw, ws, h, ht, s, p, hp => ⟨[], by rw [List.append_nil]; exact h, by rw [List.append_nil]; exact ht, by rw [List.append_nil, List.append_nil]; exact hp, Nat.le_refl _⟩
  | y :: w, t, pw, ws, h, ht, s, p, hp => by
    obtain ⟨e, a1, a2, a3, a4⟩ := Tr.step_spec h ht hp y
    obtain ⟨e2, b1, b2, b3, b4⟩ := Tr.run_spec w a1 a2 a3
    rw [List.append_assoc] at b1 b2 b3
    refine ⟨e ++ e2, b1, b2, ?_, by rw [List.length_append, List.length_cons]; omega⟩
    have e5 : p ++ y :: w = p ++ [y] ++ w := by rw [List.append_assoc] <;> rfl
    rw [e5]
    exact b3
theorem Tr.add_spec {t : Tr} {pw ws : List (List Nat)} (h : t.Wf pw) (ht : t.Told pw ws) (w : List Nat) : ∃ e, (t.add w).Wf (pw ++ e) ∧ (t.add w).Told (pw ++ e) (ws ++ [w]) ∧ e.length ≤ w.length := by
  obtain ⟨e, a1, a2, a3, a4⟩ := Tr.run_spec w h ht h.root
  rw [List.nil_append] at a3
  refine ⟨e, ⟨a1.len, ?_, a1.root, a1.nd, a1.pc, a1.kid⟩, ⟨fun x hx => ?_, fun j x hj => ?_⟩, a4⟩
  · show ((Tr.run (t, 0) w).1.to.set _ true).length = _
    rw [List.length_set]
    exact a1.tl
  · rcases List.mem_append.mp hx with z | z
    · exact a2.sub x z
    · rw [List.mem_singleton] at z
      subst z
      exact List.mem_of_getElem? a3
  · show ((Tr.run (t, 0) w).1.to.set (Tr.run (t, 0) w).2 true).getD j false = _
    have hj1 := (List.getElem?_eq_some_iff.mp hj).1
    have hs := (List.getElem?_eq_some_iff.mp a3).1
    have hz : (Tr.run (t, 0) w).1.to.length = (pw ++ e).length := a1.tl.trans a1.len.symm
    rw [List.getD_eq_getElem?_getD, List.getElem?_set]
    by_cases ee : (Tr.run (t, 0) w).2 = j
    · rw [ee] at a3
      rw [a3] at hj
      have e6 : w = x := Option.some.inj hj
      rw [if_pos ee, if_pos (by rw [hz]; exact hs), ← e6, decide_eq_true (by simp)] <;> rfl
    · rw [if_neg ee, ← List.getD_eq_getElem?_getD, a2.at_ j x hj]
      have hne : x ≠ w := fun z => ee (nodup_ix a1.nd (by rw [z] at hj; exact a3) (by rw [z] at hj; exact hj))
      rw [decide_eq_decide]
      simp [hne]
theorem trie_snoc {ws : List (List Nat)} {w : List Nat} : trie (ws ++ [w]) = (trie ws).add w := by
  unfold trie
  rw [List.foldl_append] <;> rfl
theorem foldl_spec : ∀ (vs : List (List Nat)) {t : Tr} {pw ws : List (List Nat)}, t.Wf pw → t.Told pw ws → ∃ e, (vs.foldl Tr.add t).Wf (pw ++ e) ∧ (vs.foldl Tr.add t).Told (pw ++ e) (ws ++ vs) ∧ e.length ≤ (vs.map List.length).sum
  | [], t, pw, ws, h, ht => ⟨[], by rw [List.append_nil]; exact h, by rw [List.append_nil, List.append_nil]; exact ht, Nat.zero_le _⟩
  | v :: vs, t, pw, ws, h, ht => by
    obtain ⟨e, a1, a2, a3⟩ := Tr.add_spec h ht v
    obtain ⟨e2, b1, b2, b3⟩ := foldl_spec vs a1 a2
    rw [List.append_assoc] at b1 b2
    rw [List.append_assoc] at b2
    exact ⟨e ++ e2, b1, b2, by rw [List.length_append, List.map_cons, List.sum_cons]; omega⟩
/-- the tree of the words: its nodes' words -/
theorem trie_spec (ws : List (List Nat)) : ∃ pw, (trie ws).Wf pw ∧ (trie ws).Told pw ws ∧ pw.length ≤ 1 + (ws.map List.length).sum := by
  have w0 : Tr.Wf ⟨[[]], [false]⟩ [[]] := ⟨rfl, rfl, rfl, by simp, fun p y h => by simp at h, fun s y q hs => by
    have hs : s < 1 := hs
    have : s = 0 := by omega
    subst this
    constructor
    · intro z; cases z
    · rintro ⟨p, a1, a2⟩
      cases q with
      | zero => simp at a2
      | succ q => simp at a2⟩
  have t0 : Tr.Told ⟨[[]], [false]⟩ [[]] [] := ⟨fun x hx => by simp at hx, fun j x hj => by
    cases j with
    | zero => simp
    | succ j => simp at hj⟩
  obtain ⟨e, a1, a2, a3⟩ := foldl_spec ws w0 t0
  refine ⟨[[]] ++ e, a1, by rw [List.nil_append] at a2; exact a2, ?_⟩
  rw [List.length_append]
  simp
  omega
/-- no node has more branches than there are nodes -/
def Tr.Lim (t : Tr) : Prop := ∀ b ∈ t.br, b.length ≤ t.br.length
theorem Tr.Lim.step {t : Tr} (h : t.Lim) (s y : Nat) : (t.step s y).1.Lim := by
  unfold Tr.step
  cases hk : t.kid s y with
  | some q => exact h
  | none =>
    show (t.grow s y).Lim
    unfold Tr.Lim Tr.grow
    intro b hb
    rw [List.length_append, List.length_set, List.length_singleton]
    rcases List.mem_append.mp hb with z | z
    · rcases List.mem_or_eq_of_mem_set z with z2 | z2
      · have := h b z2
        omega
      · subst z2
        rw [List.length_append, List.length_singleton]
        by_cases hs : s < t.br.length
        · have := h _ (LS.getD_mem hs (d := []))
          omega
        · rw [List.getD_eq_getElem?_getD, List.getElem?_eq_none (by omega)]
          simp
    · rw [List.mem_singleton] at z
      subst z
      simp
theorem Tr.Lim.run : ∀ (w : List Nat) {t : Tr} (_ : t.Lim) (s : Nat), (Tr.run (t, s) w).1.Lim
  | [], _, h, _ => h
  | y :: w, t, h, s => by
    show (Tr.run (t.step s y) w).1.Lim
    exact Tr.Lim.run w (h.step s y) (t.step s y).2
theorem trie_lim (ws : List (List Nat)) : (trie ws).Lim := by
  have : ∀ (vs : List (List Nat)) (t : Tr), t.Lim → (vs.foldl Tr.add t).Lim := fun vs => by
    induction vs with
    | nil => exact fun t h => h
    | cons v vs ih => exact fun t h => ih _ (h.run v 0)
  exact this ws _ (fun b hb => by
    have : b = [] := by simpa using hb
    subst this
    simp)
end LS
end
section
set_option Elab.async false
set_option linter.all false
set_option maxRecDepth 100000
set_option maxHeartbeats 2000000
/-! table_of_words -/
namespace LW
open PySem PySem.Spec PyProof.Rows L2
abbrev st_table_of_words : Stmt := top 50
theorem sc_table_of_words : FnScope ["values", "words", "branches", "told", "word", "state", "letter", "lost", "steps", "branch"] ["values", "words"] (defScope st_table_of_words) := ⟨rfl, rfl, rfl, by decide +kernel, rfl, by decide +kernel, by decide +kernel⟩
def kvB (b : List (Nat × Nat)) : List (Key × V) := b.map fun p => (sK p.1, nV p.2)
theorem valV_kvB (b : List (Nat × Nat)) (y : Nat) : valV (kvB b) (sK y) = (b.lookup y).map nV := by
  induction b with
  | nil => rfl
  | cons p r ih =>
    obtain ⟨k, q⟩ := p
    show valV ((sK k, nV q) :: kvB r) (sK y) = _
    rw [List.lookup_cons]
    by_cases e : y = k
    · subst e
      rw [valV_pos rfl, beq_self_eq_true] <;> rfl
    · rw [valV_neg (fun z => e (sK_inj _ _ z).symm), ih, show (y == k) = false from beq_eq_false_iff_ne.mpr e] <;> rfl
/-- the tree being built: dicts of branches, the told ones; all of it new -/
structure BrO (H0 H : Hp) (lb lt : Addr) (t : LS.Tr) : Prop where
  ex : ∃ ds : List Addr, H lb = some (.lst (ds.map V.ref)) ∧ ds.length = t.br.length ∧ ds.Nodup ∧ (∀ d ∈ ds, H0 d = none) ∧ ∀ (j : Nat) (d : Addr) (b : List (Nat × Nat)), ds[j]? = some d → t.br[j]? = some b → H d = some (.dK (kvB b))
  told : H lt = some (.lst (t.to.map V.bl))
  ne : lb ≠ lt
  nb : H0 lb = none
  nt : H0 lt = none
theorem BrO.same {H0 H H' : Hp} {lb lt : Addr} {t : LS.Tr} (h : BrO H0 H lb lt t) (e : Same H H') : BrO H0 H' lb lt t := by
  obtain ⟨ds, h1, h2, h3, h4, h5⟩ := h.ex
  exact ⟨⟨ds, e _ _ h1, h2, h3, h4, fun j d b e1 e2 => e _ _ (h5 j d b e1 e2)⟩, e _ _ h.told, h.ne, h.nb, h.nt⟩
def wordTab (L : List Nat) (ws : List (List Nat)) : LS.Tb :=
  ⟨((LS.trie ws).br.map fun b => L.map fun y => (b.lookup y).getD (LS.trie ws).br.length) ++ [L.map fun _ => (LS.trie ws).br.length], (LS.trie ws).to ++ [false]⟩
def spWordTab (c : Cs) (K : PySem.W.Frag) : Sp := fun vs H Q _ => ∃ (v wl : Addr) (L : List Nat) (ws : List (List Nat)), vs = [.ref v, .ref wl] ∧ ValO c H v L ∧ L.length ≤ 4 ∧ SqT K H wl (ws.map fun w => V.str (Sg w)) ∧ ws.length ≤ 20 ∧ (∀ w ∈ ws, w.length ≤ 30) ∧
  ∀ p a b H', Same H H' → H' p = some (.tup [.ref a, .ref b]) → RowsAt K H' a (wordTab L ws).st → SqA K H' b ((wordTab L ws).to.map V.bl) → Q (.ref p) H'
/-- a branch more: the dict is written, the lists grow -/
theorem BrO.grow {H0 H : Hp} {lb lt d : Addr} {t : LS.Tr} {s y : Nat} {e : Addr} (h : BrO H0 H lb lt t) (s0 : Same H0 H) (hw : t.to.length = t.br.length) {ds : List Addr} (h1 : H lb = some (.lst (ds.map V.ref))) (hd : ds[s]? = some d) (hk : t.kid s y = none)
    (ne : upd H d (.dK (putK (kvB (t.br.getD s [])) (sK y) (nV t.br.length))) e = none) :
    BrO H0 (upd (upd (upd (upd H d (.dK (putK (kvB (t.br.getD s [])) (sK y) (nV t.br.length)))) e (.dK [])) lb (.lst (ds.map V.ref ++ [.ref e]))) lt (.lst (t.to.map V.bl ++ [.bl false]))) lb lt (t.grow s y) ∧
    Same H0 (upd (upd (upd (upd H d (.dK (putK (kvB (t.br.getD s [])) (sK y) (nV t.br.length)))) e (.dK [])) lb (.lst (ds.map V.ref ++ [.ref e]))) lt (.lst (t.to.map V.bl ++ [.bl false]))) := by
  obtain ⟨ds', g1, g2, g3, g4, g5⟩ := h.ex
  have hds : ds = ds' := by
    rw [g1] at h1
    have := HO.lst.inj (Option.some.inj h1)
    have inj : ∀ (a b : List Addr), a.map V.ref = b.map V.ref → a = b := fun a => by
      induction a with
      | nil => intro b hb; cases b with
        | nil => rfl
        | cons _ _ => cases hb
      | cons x r ih => intro b hb; cases b with
        | nil => cases hb
        | cons y r2 =>
          rw [List.map_cons, List.map_cons] at hb
          injection hb with i1 i2
          injection i1 with i1
          rw [i1, ih r2 i2]
    exact (inj _ _ this).symm
  subst hds
  have hs : s < t.br.length := by rw [← g2]; exact (List.getElem?_eq_some_iff.mp hd).1
  have hbs : t.br[s]? = some (t.br.getD s []) := by rw [LS.getD_at hs]; exact List.getElem?_eq_getElem hs
  have hdo := g5 s d _ hd hbs
  have nl : d ≠ lb := fun z => by rw [z, g1] at hdo; cases hdo
  have ntd : d ≠ lt := fun z => by rw [z, h.told] at hdo; cases hdo
  have ned : e ≠ d := fun z => by rw [z, upd_same] at ne; cases ne
  have ne0 : H e = none := by rw [upd_ne ned] at ne; exact ne
  have nel : e ≠ lb := fun z => by rw [z, g1] at ne0; cases ne0
  have net : e ≠ lt := fun z => by rw [z, h.told] at ne0; cases ne0
  have n0e : H0 e = none := by
    cases q : H0 e with
    | none => rfl
    | some o => rw [s0 _ _ q] at ne0; cases ne0
  have n0d : H0 d = none := g4 d (List.mem_of_getElem? hd)
  have hput : putK (kvB (t.br.getD s [])) (sK y) (nV t.br.length) = kvB (t.br.getD s [] ++ [(y, t.br.length)]) := by
    rw [putK_new _ (by rw [valV_kvB]; unfold LS.Tr.kid at hk; rw [hk] <;> rfl)]
    unfold kvB
    rw [List.map_append] <;> rfl
  refine ⟨⟨⟨ds ++ [e], ?_, ?_, ?_, ?_, ?_⟩, ?_, h.ne, h.nb, h.nt⟩, ?_⟩
  · rw [upd_ne h.ne, upd_same, List.map_append] <;> rfl
  · unfold LS.Tr.grow
    simp [g2]
  · rw [List.nodup_append]
    refine ⟨g3, by simp, fun a ha b hb z => ?_⟩
    rw [List.mem_singleton] at hb
    subst hb
    subst z
    obtain ⟨j, hj⟩ := List.mem_iff_getElem?.mp ha
    have hjl : j < t.br.length := by rw [← g2]; exact (List.getElem?_eq_some_iff.mp hj).1
    have := g5 j a _ hj (List.getElem?_eq_getElem hjl)
    rw [this] at ne0
    cases ne0
  · intro d2 hd2
    rcases List.mem_append.mp hd2 with z | z
    · exact g4 d2 z
    · rw [List.mem_singleton] at z
      subst z
      exact n0e
  · intro j d2 b e1 e2
    have hj := (List.getElem?_eq_some_iff.mp e1).1
    rw [List.length_append, List.length_singleton] at hj
    unfold LS.Tr.grow at e2
    by_cases hj2 : j < ds.length
    · rw [List.getElem?_append_left hj2] at e1
      rw [List.getElem?_append_left (by simp; omega), List.getElem?_set] at e2
      have hj3 : j < t.br.length := by omega
      have hd2 := g5 j d2 _ e1 (List.getElem?_eq_getElem hj3)
      have m1 : d2 ≠ lt := fun z => by rw [z, h.told] at hd2; cases hd2
      have m2 : d2 ≠ lb := fun z => by rw [z, g1] at hd2; cases hd2
      have m3 : d2 ≠ e := fun z => by rw [z, ne0] at hd2; cases hd2
      rw [upd_ne m1, upd_ne m2, upd_ne m3]
      by_cases ej : s = j
      · subst ej
        rw [hd] at e1
        cases e1
        rw [if_pos rfl, if_pos hs] at e2
        cases e2
        rw [upd_same, hput]
      · rw [if_neg ej] at e2
        have m4 : d2 ≠ d := fun z => ej (by
          subst z
          have a1 := List.getElem?_eq_some_iff.mp hd
          have a2 := List.getElem?_eq_some_iff.mp e1
          obtain ⟨b1, c1⟩ := a1
          obtain ⟨b2, c2⟩ := a2
          exact (List.getElem_inj g3).mp (c1.trans c2.symm))
        rw [upd_ne m4]
        exact g5 j d2 b e1 e2
    · have ej : j = ds.length := by omega
      subst ej
      rw [List.getElem?_append_right (Nat.le_refl _), Nat.sub_self] at e1
      rw [List.getElem?_append_right (by simp; omega)] at e2
      have e3 : e = d2 := Option.some.inj e1
      subst e3
      have e4 : b = [] := by
        simp [g2] at e2
        exact e2
      subst e4
      rw [upd_ne net, upd_ne nel, upd_same] <;> rfl
  · rw [upd_same]
    unfold LS.Tr.grow
    rw [List.map_append] <;> rfl
  · exact sm_upd (sm_upd (sm_upd (sm_upd s0 n0d) n0e) h.nb) h.nt
section
variable {P : Program} {w : World} {K : PySem.W.Frag} {mg : Str → Option Value} {base : Heap} {c : Cs}
theorem c_table_of_words (Z : TC K mg c) : Cal P w K mg base "table_of_words" 2 ["values", "words"] (spWordTab c K) := by
  have T := Z.T
  refine FunG.cal T.f_table_of_words sc_table_of_words (fun _ _ _ _ _ _ us hl => match us, hl with | [_, _], _ => rfl) (fun vs H Q E h => ?_) (fun f cdv A outer s H vs Q E hr h => ?_)
  · obtain ⟨v, wl, L, ws, rfl, _⟩ := h
    rfl
  · obtain ⟨v, wl, L, ws, rfl, hv, hL, hs, hz, hl, kk⟩ := h
    have hu := hu_of hr
--TERM table_of_words
    refine ⟨_, (pss_cons (ps_set (i := 2) sc_table_of_words.nd rfl (Or.inl rfl) (pe_lst (pa_cons pe_dnewK pa_nil)))
  (pss_cons (ps_set (i := 3) sc_table_of_words.nd rfl (Or.inl rfl) (pe_lst (pa_cons pe_bl pa_nil)))
  (pss_cons (ps_for PassesOwn.never rfl (pi_seqK K (pv 1)) (pg_name (i := 4) sc_table_of_words.nd rfl (Or.inl rfl))
  (pss_cons (ps_set (i := 5) sc_table_of_words.nd rfl (Or.inl rfl) pe_int)
  (pss_cons (ps_for PassesOwn.never rfl (pi_str (pv 4)) (pg_name (i := 6) sc_table_of_words.nd rfl (Or.inl rfl))
  (pss_cons (ps_if (pt_cmp (pc_dnotin hu (pv 6) (pe_ix (ix_listK K) (pv 2) (pv 5) (fun _ _ => rfl)))) (pss_cons (ps_dput hu (pe_ix (ix_listK K) (pv 2) (pv 5) (fun _ _ => rfl)) (pv 6) (pe_callB (call_lenK K) (by rfl) T.b_len PySem.boot_len (pa_cons (pv 2) pa_nil)) rfl)
  (pss_cons (ps_expr (pe_bmK K PySem.F.plainAttrs_list PySem.F.slot_list_append PySem.F.type_list_append mt_append (pv 2) (pa_cons pe_dnewK pa_nil)))
  (pss_one (ps_expr (pe_bmK K PySem.F.plainAttrs_list PySem.F.slot_list_append PySem.F.type_list_append mt_append (pv 3) (pa_cons pe_bl pa_nil))))))
  pss_nil)
  (pss_one (ps_set (i := 5) sc_table_of_words.nd rfl (Or.inl rfl) (pe_dget hu (pe_ix (ix_listK K) (pv 2) (pv 5) (fun _ _ => rfl)) (pv 6) (fun _ _ => rfl))))))
  (pss_one (ps_asg pe_bl (pg_sub (pv 3) (pv 5) set_list))))))
  (pss_cons (ps_set (i := 7) sc_table_of_words.nd rfl (Or.inr rfl) (pe_callB (call_lenK K) (by rfl) T.b_len PySem.boot_len (pa_cons (pv 2) pa_nil)))
  (pss_cons (ps_setLc (i := 8) (own := [("branch", 9)]) rfl sc_table_of_words.nd rfl rfl (sw_true rfl rfl rfl (by decide +kernel)) (pi_seqK K (pv 2)) (blkOk_by (own := [("branch", 9)]) (by kernel_rfl)) (fun _ _ _ _ _ => (pg_name (i := 9) sc_table_of_words.nd rfl (Or.inr rfl))) (fun _ _ _ _ _ => pts_nil) (fun _ _ _ _ _ => (pe_lc (own := [("letter", 6)]) rfl sc_table_of_words.nd (pi_str (pe_fldK K (pv 0))) (blkOk_by (own := [("letter", 6)]) (by kernel_rfl)) (fun _ _ _ _ _ => (pg_name (i := 6) sc_table_of_words.nd rfl (Or.inl rfl))) (fun _ _ _ _ _ => pts_nil) (fun _ _ _ _ _ => (pe_dget2 hu (pv 9) (pv 6) (pv 7) ⟨rfl, rfl, rfl, rfl⟩)))))
  (pss_one (ps_ret (pe_tup (pa_cons (pe_lst (pa_starK K (pv 8) (pa_cons (pe_lc (own := [("letter", 6)]) rfl sc_table_of_words.nd (pi_str (pe_fldK K (pv 0))) (blkOk_by (own := [("letter", 6)]) (by kernel_rfl)) (fun _ _ _ _ _ => (pg_name (i := 6) sc_table_of_words.nd rfl (Or.inl rfl))) (fun _ _ _ _ _ => pts_nil) (fun _ _ _ _ _ => (pv 7))) pa_nil))) (pa_cons (pe_lst (pa_starK K (pv 3) (pa_cons pe_bl pa_nil))) pa_nil)))))))))), ?_⟩
--END
    -- branches = [{}]
    intro d0 nd0
    refine ⟨by show 1 ≤ sizeLine; decide, fun lb nlb => ?_⟩
    refine ⟨by show 1 ≤ sizeLine; decide, fun lt nlt => ?_⟩
    have s1 : Same H (upd H d0 (.dK [])) := same_new nd0
    have s2 : Same H (upd (upd H d0 (.dK [])) lb (.lst [.ref d0])) := sm_trans s1 (same_new nlb)
    have s3 : Same H (upd (upd (upd H d0 (.dK [])) lb (.lst [.ref d0])) lt (.lst [.bl false])) := sm_trans s2 (same_new nlt)
    have nlb0 : H lb = none := by
      cases e : H lb with
      | none => rfl
      | some o => rw [s1 _ _ e] at nlb; cases nlb
    have nlt0 : H lt = none := by
      cases e : H lt with
      | none => rfl
      | some o => rw [s2 _ _ e] at nlt; cases nlt
    have lbt : lb ≠ lt := fun z => by rw [← z, upd_same] at nlt; cases nlt
    have ldb : d0 ≠ lb := fun z => by rw [← z, upd_same] at nlb; cases nlb
    have ldt : d0 ≠ lt := fun z => by rw [← z, upd_ne ldb, upd_same] at nlt; cases nlt
    have b0 : BrO H (upd (upd (upd H d0 (.dK [])) lb (.lst [.ref d0])) lt (.lst [.bl false])) lb lt (LS.trie []) := by
      refine ⟨⟨[d0], by rw [upd_ne lbt, upd_same] <;> rfl, rfl, by simp, fun d hd => by rw [List.mem_singleton] at hd; rw [hd]; exact nd0, fun j d b e1 e2 => ?_⟩, by rw [upd_same] <;> rfl, lbt, nlb0, nlt0⟩
      cases j with
      | zero =>
        have e1 : d0 = d := Option.some.inj e1
        have e2 : [] = b := Option.some.inj e2
        subst e1 e2
        rw [upd_ne ldt, upd_ne ldb, upd_same] <;> rfl
      | succ j => simp at e1
    generalize upd (upd (upd H d0 (.dK [])) lb (.lst [.ref d0])) lt (.lst [.bl false]) = H1 at s3 b0
    refine ⟨_, rfl, wl, rfl, for_sq (K := K) (H0 := H) (.inr hs) s3 (fun i σ H' => ∃ v4 v5 v6 : Option V, σ = [some (.ref v), some (.ref wl), some (.ref lb), some (.ref lt), v4, v5, v6, none, none, none] ∧ Same H H' ∧ BrO H H' lb lt (LS.trie (ws.take i)))
      ⟨none, none, none, rfl, s3, b0⟩ (fun _ _ _ _ ⟨_, _, _, _, z, _⟩ => z) ?_ ?_⟩
    · rintro i x σ2 H2 hx ⟨v4, v5, v6, rfl, s4, hB⟩
      obtain ⟨w, ew, rfl⟩ := of_map_at hx
      have hwl := hl w (List.mem_of_getElem? ew)
      obtain ⟨pw, wf, tl, hpz⟩ := LS.trie_spec (ws.take i)
      have hpz2 : pw.length ≤ 601 := by
        have h1 := sum_le (ls := (ws.take i).map List.length) (b := 30) fun x hx => by
          obtain ⟨w2, h2, rfl⟩ := List.mem_map.mp hx
          exact hl w2 (List.mem_of_mem_take h2)
        rw [List.length_map, List.length_take] at h1
        have : min i ws.length ≤ 20 := Nat.le_trans (Nat.min_le_right _ _) hz
        omega
      generalize ht0 : LS.trie (ws.take i) = t0 at hB wf tl
      -- the word's signs
      refine ⟨_, rfl, Sg w, rfl, for_it (walk_str (z := Sg w)) (fun j σ H' => ∃ v6 : Option V, σ = [some (.ref v), some (.ref wl), some (.ref lb), some (.ref lt), some (.str (Sg w)), some (nV (LS.Tr.run (t0, 0) (w.take j)).2), v6, none, none, none] ∧ Same H H' ∧ BrO H H' lb lt (LS.Tr.run (t0, 0) (w.take j)).1)
        ⟨v6, rfl, s4, hB⟩ (fun _ _ _ _ _ => True.intro) ?_ ?_⟩
      · rintro j x σ3 H4 H3 hj ⟨w6, rfl, s5, hB2⟩ ⟨rfl, y, ey, rfl⟩
        have ey : w[j]? = some y := by simpa [SX.S] using ey
        have hjw : j < w.length := (List.getElem?_eq_some_iff.mp ey).1
        obtain ⟨e, wf2, tl2, hp2, he2⟩ := LS.Tr.run_spec (w.take j) wf tl wf.root
        have hrun : LS.Tr.run (t0, 0) (w.take (j + 1)) = (LS.Tr.run (t0, 0) (w.take j)).1.step (LS.Tr.run (t0, 0) (w.take j)).2 y := by
          rw [take_snoc ey]
          unfold LS.Tr.run
          rw [List.foldl_append] <;> rfl
        have hez : e.length ≤ 30 := by
          have : (w.take j).length ≤ 30 := by rw [List.length_take]; exact Nat.le_trans (Nat.min_le_right _ _) hwl
          omega
        have hlim : (LS.Tr.run (t0, 0) (w.take j)).1.Lim := by rw [← ht0]; exact (LS.trie_lim _).run _ 0
        generalize hts : LS.Tr.run (t0, 0) (w.take j) = ts at hB2 wf2 tl2 hp2 hrun hlim
        obtain ⟨t, st⟩ := ts
        simp only at hB2 wf2 tl2 hp2 hrun hlim
        rw [hrun]
        obtain ⟨e3, wf3, tl3, hp3, he3⟩ := LS.Tr.step_spec wf2 tl2 hp2 y
        have hst : st < t.br.length := by rw [← wf2.len]; exact (List.getElem?_eq_some_iff.mp hp2).1
        have hbl : t.br.length ≤ 631 := by rw [← wf2.len, List.length_append]; omega
        -- the rest of the turn
        have fin : ∀ (D' : Ends) (H' : Hp), Same H H' → BrO H H' lb lt (t.step st y).1 → D'.nx [some (.ref v), some (.ref wl), some (.ref lb), some (.ref lt), some (.str (Sg w)), some (nV (t.step st y).2), some (.str (Sg [y])), none, none, none] H' →
            tAsg (tDGet (tOp (rIxL K) (tVar 2) (tVar 5)) (tVar 6)) (gName 5) D' [some (.ref v), some (.ref wl), some (.ref lb), some (.ref lt), some (.str (Sg w)), some (nV st), some (.str (Sg [y])), none, none, none] H' := by
          intro D' H' s' hB' q
          obtain ⟨ds, g1, g2, g3, g4, g5⟩ := hB'.ex
          have hl3 : st < (t.step st y).1.br.length := by
            rw [← wf3.len, List.length_append]
            have := wf2.len
            omega
          have hk3 : (t.step st y).1.kid st y = some (t.step st y).2 := (wf3.kid st y _ hl3).mpr ⟨_, by rw [List.getElem?_append_left (by rw [wf2.len]; exact hst)]; exact hp2, hp3⟩
          have hd : ds[st]? = some (ds[st]'(by rw [g2]; exact hl3)) := List.getElem?_eq_getElem (by rw [g2]; exact hl3)
          have hb : (t.step st y).1.br[st]? = some ((t.step st y).1.br.getD st []) := by rw [LS.getD_at hl3]; exact List.getElem?_eq_getElem hl3
          have hdo := g5 st _ _ hd hb
          refine ⟨_, rfl, _, rfl, lb, _, _, _, rfl, rfl, SqL.of g1, atI_nat (map_at V.ref hd), _, rfl, _, nV (t.step st y).2, rfl, ?_, q⟩
          have := DGet.k (k := sK y) hdo
          rw [valV_kvB] at this
          unfold LS.Tr.kid at hk3
          rw [hk3] at this
          exact this
        obtain ⟨ds, g1, g2, g3, g4, g5⟩ := id hB2.ex
        have hd : ds[st]? = some (ds[st]'(by rw [g2]; exact hst)) := List.getElem?_eq_getElem (by rw [g2]; exact hst)
        have hb : t.br[st]? = some (t.br.getD st []) := by rw [LS.getD_at hst]; exact List.getElem?_eq_getElem hst
        have hdo := g5 st _ _ hd hb
        generalize hdd : ds[st]'(by rw [g2]; exact hst) = d at hd hdo
        refine ⟨_, rfl, _, rfl, _, rfl, lb, _, _, _, rfl, rfl, SqL.of g1, atI_nat (map_at V.ref hd), d, _, rfl, DGet.k (k := sK y) hdo, _, rfl, ?_⟩
        rw [valV_kvB]
        cases hk : t.kid st y with
        | some q =>
          have hk2 : (t.br.getD st []).lookup y = some q := hk
          have hstep : t.step st y = (t, q) := by unfold LS.Tr.step; rw [hk]
          rw [hk2]
          refine iteF ?_
          refine fin _ H3 s5 (by rw [hstep]; exact hB2) ?_
          exact ⟨_, rfl, s5, by rw [hstep]; exact hB2⟩
        | none =>
          have hk2 : (t.br.getD st []).lookup y = none := hk
          have hstep : t.step st y = (t.grow st y, t.br.length) := by unfold LS.Tr.step; rw [hk]
          rw [hk2]
          refine iteT ?_
          have hkl : (kvB (t.br.getD st [])).length < sizeLine := by
            unfold kvB
            rw [List.length_map]
            have := hlim _ (LS.getD_mem hst (d := []))
            exact small5 (by omega)
          refine ⟨_, rfl, _, t.br.length, rfl, .inl ⟨_, SqL.of g1, by rw [List.length_map, g2]⟩, _, rfl, _, rfl, lb, _, _, _, rfl, rfl, SqL.of g1, atI_nat (map_at V.ref hd), _, rfl, d, _, rfl, DPut.k (k := sK y) hdo hkl, ?_⟩
          have nl : d ≠ lb := fun z => by rw [z, g1] at hdo; cases hdo
          have ntd : d ≠ lt := fun z => by rw [z, hB2.told] at hdo; cases hdo
          refine ⟨_, rfl, .inl ⟨rfl, _, SqL.of (by rw [upd_ne (Ne.symm nl)]; exact g1)⟩, fun e nE => ?_⟩
          have nel : e ≠ lb := fun z => by rw [z, upd_ne (Ne.symm nl), g1] at nE; cases nE
          have net : e ≠ lt := fun z => by rw [z, upd_ne (Ne.symm ntd), hB2.told] at nE; cases nE
          refine ⟨lb, _, _, rfl, rfl, by rw [upd_ne (Ne.symm nel), upd_ne (Ne.symm nl)]; exact g1, by rw [List.length_map, g2]; exact small5 (by omega), ?_⟩
          refine ⟨_, rfl, .inl ⟨rfl, _, SqL.of (by rw [upd_ne (Ne.symm hB2.ne), upd_ne (Ne.symm net), upd_ne (Ne.symm ntd)]; exact hB2.told)⟩, ?_⟩
          refine ⟨lt, _, _, rfl, rfl, by rw [upd_ne (Ne.symm hB2.ne), upd_ne (Ne.symm net), upd_ne (Ne.symm ntd)]; exact hB2.told, by rw [List.length_map, wf2.tl]; exact small5 (by omega), ?_⟩
          obtain ⟨hB3, s6⟩ := hB2.grow (s := st) (y := y) (e := e) s5 wf2.tl g1 hd hk nE
          refine fin _ _ s6 (by rw [hstep]; exact hB3) ?_
          exact ⟨_, rfl, s6, by rw [hstep]; exact hB3⟩
      · rintro σ3 H3 ⟨w6, rfl, s5, hB2⟩
        have e9 : w.take (Sg w).cps.size = w := by simp [SX.S]
        rw [e9] at hB2 ⊢
        obtain ⟨e, wf2, tl2, hp2, he2⟩ := LS.Tr.run_spec w wf tl wf.root
        have hst : (LS.Tr.run (t0, 0) w).2 < (LS.Tr.run (t0, 0) w).1.to.length := by rw [wf2.tl, ← wf2.len]; exact (List.getElem?_eq_some_iff.mp hp2).1
        have s6 : Same H (upd H3 lt (.lst (((LS.Tr.run (t0, 0) w).1.to.map V.bl).set (LS.Tr.run (t0, 0) w).2 (.bl true)))) := sm_upd s5 hB2.nt
        refine ⟨_, rfl, _, rfl, lt, _, _, (LS.Tr.run (t0, 0) w).2, rfl, rfl, hB2.told, ?_, ?_⟩
        · rw [List.length_map]
          unfold ixN
          rw [if_pos (Int.natCast_nonneg _), if_pos (by omega), Int.toNat_natCast]
        refine ⟨_, _, _, rfl, s6, ?_⟩
        rw [take_snoc ew, LS.trie_snoc, ht0]
        obtain ⟨ds, g1, g2, g3, g4, g5⟩ := hB2.ex
        refine ⟨⟨ds, by rw [upd_ne hB2.ne]; exact g1, g2, g3, g4, fun j d b e1 e2 => ?_⟩, ?_, hB2.ne, hB2.nb, hB2.nt⟩
        · have := g5 j d b e1 e2
          rw [upd_ne (fun z => by rw [z, hB2.told] at this; cases this)]
          exact this
        · rw [upd_same]
          show _ = some (HO.lst ((((LS.Tr.run (t0, 0) w).1.to.set (LS.Tr.run (t0, 0) w).2 true)).map V.bl))
          rw [List.map_set]
    · rintro σ2 H2 ⟨v4, v5, v6, rfl, s4, hB⟩
      rw [List.length_map, List.take_length] at hB
      obtain ⟨pw, wf, tl, hpz⟩ := LS.trie_spec ws
      have hpz2 : pw.length ≤ 601 := by
        have h1 := sum_le (ls := ws.map List.length) (b := 30) fun x hx => by
          obtain ⟨w2, h2, rfl⟩ := List.mem_map.mp hx
          exact hl w2 h2
        rw [List.length_map] at h1
        omega
      have hn : (LS.trie ws).br.length ≤ 601 := by rw [← wf.len]; exact hpz2
      have htl := wf.tl
      have hWT : wordTab L ws = ⟨((LS.trie ws).br.map fun b => L.map fun y => (b.lookup y).getD (LS.trie ws).br.length) ++ [L.map fun _ => (LS.trie ws).br.length], (LS.trie ws).to ++ [false]⟩ := rfl
      generalize ht : LS.trie ws = t at hB hn htl hWT
      obtain ⟨ds, g1, g2, g3, g4, g5⟩ := hB.ex
      obtain ⟨dv, hv0⟩ := hv
      refine ⟨_, rfl, _, t.br.length, rfl, .inl ⟨_, SqL.of g1, by rw [List.length_map, g2]⟩, ?_⟩
      -- the rows
      refine ⟨_, rfl, lb, rfl, lc_sq (K := K) (H0 := H2) (.inl (SqL.of g1)) (Same.refl _) (fun D => LcPv (RRows false fun j => L.map fun y => nV (((t.br.getD j []).lookup y).getD t.br.length)) H2 D) (fun D nD => pv_start nD ⟨rfl, fun j hj => absurd hj (Nat.not_lt_zero _)⟩) (fun D j H' _ _ p => pv_same p) ?_ ?_⟩
      · rintro D j x H3 nD hx ⟨acc, eD, hl1, sm, r⟩
        obtain ⟨d, ed, rfl⟩ := of_map_at hx
        have hj : j < t.br.length := by rw [← g2]; exact (List.getElem?_eq_some_iff.mp ed).1
        have hb : t.br[j]? = some (t.br.getD j []) := by rw [LS.getD_at hj]; exact List.getElem?_eq_getElem hj
        have s23 := sm_trans sm hid_sub
        have hdo := s23 _ _ (g5 j d _ ed hb)
        have s03 := sm_trans s4 s23
        refine ⟨rfl, _, rfl, v, _, _, _, _, rfl, s03 _ _ hv0, Z.vl.cls, Z.vl.na _ (by simp [fieldNames]), rfl, Sg L, rfl, lc_txt (fun D2 => LcPv (RMap fun u => nV (((t.br.getD j []).lookup (L.getD u 0)).getD t.br.length)) H3 D2) (fun D2 nD2 => pv_start nD2 rfl) ?_ ?_⟩
        · rintro D2 u y H4 nD2 hy ⟨acc2, eD2, hl2, sm2, r2⟩
          have hu2 : u < L.length := (List.getElem?_eq_some_iff.mp hy).1
          have hy2 : L.getD u 0 = y := by rw [List.getD_eq_getElem?_getD, hy] <;> rfl
          have hdo2 := sm_trans sm2 hid_sub _ _ hdo
          refine ⟨rfl, _, rfl, d, rfl, .inl ⟨_, .inl hdo2⟩, _, rfl, _, rfl, _, DGet.k (k := sK y) hdo2, ?_⟩
          rw [valV_kvB]
          exact pv_push eD2 hl2 sm2 (Same.refl _) (by omega) (rmap_push r2 (by rw [hy2]; cases (t.br.getD j []).lookup y <;> rfl))
        · rintro D2 H4 nD2 ⟨acc2, eD2, hl2, sm2, r2⟩
          have s34 := sm_trans sm2 hid_sub
          refine pv_push eD hl1 sm s34 (by omega) (rrows_push r (same_hid s34) ?_)
          have ne : D2 ≠ D := Ne.symm (ne_of_none eD nD2)
          rw [hid_ne ne, if_neg (by decide), eD2]
          congr 2
          rw [show acc2 = _ from r2]
          exact map_range_getD L 0 fun y => nV (((t.br.getD j []).lookup y).getD t.br.length)
      rintro D H3 nD ⟨acc, eD, hl1, sm, r1, r2⟩
      have s23 := sm_trans sm hid_sub
      have s03 := sm_trans s4 s23
      rw [List.length_map, g2] at r1 r2
      -- return ([*steps, [..]], [*told, False])
      refine ⟨_, rfl, D, _, rfl, .inr (SqL.of eD), ?_⟩
      refine ⟨_, rfl, v, _, _, _, _, rfl, s03 _ _ hv0, Z.vl.cls, Z.vl.na _ (by simp [fieldNames]), rfl, Sg L, rfl, lc_txt (fun F => LcPv (RMap fun _ => nV t.br.length) H3 F) (fun F nF => pv_start nF rfl) ?_ ?_⟩
      · rintro F u y H4 nF hy ⟨acc2, eF, hl2, sm2, rr2⟩
        have hu2 : u < L.length := (List.getElem?_eq_some_iff.mp hy).1
        refine ⟨rfl, _, rfl, ?_⟩
        exact pv_push eF hl2 sm2 (Same.refl _) (by omega) (rmap_push rr2 rfl)
      rintro F H4 nF ⟨acc2, eF, hl2, sm2, rr2⟩
      have s34 := sm_trans sm2 hid_sub
      have eF2 : H4 F = some (.lst ((L.map fun _ => t.br.length).map nV)) := by
        rw [eF, show acc2 = _ from rr2, map_range_getD L 0 fun _ => nV t.br.length, List.map_map] <;> rfl
      refine ⟨by rw [List.length_append, r1]; exact Nat.le_of_lt (small5 (by simp; omega)), fun p1 np1 => ?_⟩
      have s45 : Same H4 (upd H4 p1 (.lst (acc ++ [.ref F]))) := same_new np1
      have s05 := sm_trans s03 (sm_trans s34 s45)
      have hto5 := s45 _ _ (s34 _ _ (s23 _ _ hB.told))
      refine ⟨_, rfl, lt, _, rfl, .inr (SqL.of hto5), by rw [List.length_append, List.length_map, htl]; exact Nat.le_of_lt (small5 (by simp; omega)), fun p2 np2 => ?_⟩
      generalize hH5 : upd H4 p1 _ = H5 at s45 s05 hto5 np2
      have s56 : Same H5 (upd H5 p2 (.lst (t.to.map V.bl ++ [.bl false]))) := same_new np2
      refine ⟨by show 2 ≤ sizeLine; decide, fun p np => ?_⟩
      generalize hH6 : upd H5 p2 _ = H6 at s56 np
      have s67 : Same H6 (upd H6 p (.tup [.ref p1, .ref p2])) := same_new np
      have s37 := sm_trans s34 (sm_trans s45 (sm_trans s56 s67))
      refine kk p p1 p2 _ (sm_trans s05 (sm_trans s56 s67)) upd_same ?_ ?_
      · rw [hWT]
        -- the rows' addresses
        have hrows : ∃ rs : List Addr, acc = rs.map V.ref := by
          refine ⟨acc.map fun x => match x with | .ref a => a | _ => 0, ?_⟩
          rw [List.map_map]
          refine List.ext_getElem (by simp) fun j h1 h2 => ?_
          obtain ⟨q, hq, _⟩ := r2 j (by rw [← r1]; exact h1)
          rw [List.getElem?_eq_getElem h1] at hq
          have := Option.some.inj hq
          simp [this]
        obtain ⟨rs, ers⟩ := hrows
        have hrl : rs.length = t.br.length := by rw [← r1, ers, List.length_map]
        refine ⟨rs ++ [F], .inl (SqL.of ?_), by simp [hrl], fun j a row e1 e2 => ?_⟩
        · rw [s67 _ _ (s56 _ _ (by rw [← hH5]; exact upd_same)), ers, List.map_append] <;> rfl
        · have hj := (List.getElem?_eq_some_iff.mp e1).1
          rw [List.length_append, List.length_singleton, hrl] at hj
          by_cases hj2 : j < t.br.length
          · rw [List.getElem?_append_left (by omega)] at e1
            rw [List.getElem?_append_left (by simpa using hj2), List.getElem?_map, List.getElem?_eq_getElem hj2] at e2
            have e2 := Option.some.inj e2
            obtain ⟨q, hq, hq2⟩ := r2 j hj2
            have e3 : acc[j]? = some (.ref a) := by rw [ers, List.getElem?_map, e1] <;> rfl
            rw [e3] at hq
            have e4 : a = q := by
              have := Option.some.inj hq
              cases this
              rfl
            subst e4
            rw [if_neg (by decide)] at hq2
            refine .inl (SqL.of ?_)
            rw [s37 _ _ (hid_sub _ _ hq2), ← e2]
            have e9 : t.br.getD j [] = t.br[j] := LS.getD_at hj2
            simp only [e9, List.map_map]
            rfl
          · have ej : j = t.br.length := by omega
            subst ej
            rw [List.getElem?_append_right (by omega), hrl, Nat.sub_self] at e1
            rw [List.getElem?_append_right (by simp), List.length_map, Nat.sub_self] at e2
            have e1 : F = a := Option.some.inj e1
            have e2 : (L.map fun _ => t.br.length) = row := Option.some.inj e2
            rw [← e1, ← e2]
            exact .inl (SqL.of (s67 _ _ (s56 _ _ (s45 _ _ eF2))))
      · rw [hWT]
        refine .inl (SqL.of ?_)
        rw [s67 _ _ (by rw [← hH6]; exact upd_same), List.map_append] <;> rfl
end
end LW
end
section
set_option Elab.async false
set_option linter.all false
set_option maxRecDepth 100000
set_option maxHeartbeats 2000000
/-! kinds: what is asked of them; Every, Never -/
namespace LW
open PySem PySem.Spec PyProof.Rows L2
structure KindF (P : Program) (K : PySem.W.Frag) (mg : Str → Option Value) (c : Cs) (qual : Str) (st : Stmt) (dV : Value) (C f : Addr) : Prop where
  ex : ∃ (cda cc : Addr) (oc : Value) (od : Option Addr) (osl : Array (Option Value)) (kV doc pm : Value) (an : Option Addr) (ct : Value),
    K.lookup f = some ⟨oc, od, .func (fnS "__init__" qual (defArgs st) (defBody st) (defScope st) dV kV doc pm an (.ref cda) ct cc), osl⟩ ∧ PySem.W.codeIn K (.ref cda) qual = true ∧ SupF P K f cda cc C c.fClue "self"
  su : mg "super" = none
  mak : Mk K C f
  mem : C ∈ c.clues
section
variable {P : Program} {w : World} {K : PySem.W.Frag} {mg : Str → Option Value} {base : Heap} {c : Cs}
theorem KindF.fn {qual : Str} {st : Stmt} {dV : Value} {C f : Addr} {N ps : List Str} {k : Nat} {sp : Sp} (g : KindF P K mg c qual st dV C f) (S : SScope N ps (defScope st)) (hps : ∀ x ∈ ps, x ≠ ("__class__" : Str))
    (hb : ∀ (kV doc pm : Value) (an : Option Addr) (cda : Addr) (ct : Value) (cc : Addr) (us : List Value), us.length = ps.length → bindArgs (fnS "__init__" qual (defArgs st) (defBody st) (defScope st) dV kV doc pm an (.ref cda) ct cc) ⟨us, []⟩ = pure (ps.zip us)) (len : ∀ vs H Q E, sp vs H Q E → vs.length = ps.length)
    (hbody : ∀ (cda cc : Addr) (_ : SupF P K f cda cc C c.fClue "self") (A : Around) (outer : List Env) (s : Shared) (H : Hp) (vs : List V) (Q : VK) (E : XK), Room k (A.deeper (envS qual (defScope st) s.heap.objs.size f (.ref cda) cc)) → sp vs H Q E →
      ∃ t, PSsA (cxS CX0 P w K mg base N qual (defScope st) f (.ref cda) cc A outer s H E).nox (defBody st) (defBody st) t ∧ t { nx := fun _ H' => Q .non H', rt := Q } (L2.start N vs) H) :
    FnR P w K mg base CX0 (k + 1) f sp := by
  obtain ⟨cda, cc, oc, od, osl, kV, doc, pm, an, ct, lk, hcd, sf⟩ := g.ex
  intro A outer s H us vs Q E hr e0 r hsp
  exact fnS_all lk hcd S (sf.base e0.mod) hps (fun us hl => hb kV doc pm an cda ct cc us hl) len (fun A outer s H vs Q E hr h => hbody cda cc sf A outer s H vs Q E hr h) A outer s H us vs Q E hr e0 r hsp
theorem KindF.star {qual : Str} {st : Stmt} {dV : Value} {C f : Addr} {N ps : List Str} {pv : Str} {k : Nat} {sp : Sp} (g : KindF P K mg c qual st dV C f) (S : SScope N (ps ++ [pv]) (defScope st)) (hps : ∀ x ∈ ps ++ [pv], x ≠ ("__class__" : Str))
    (hb : ∀ (kV doc pm : Value) (an : Option Addr) (cda : Addr) (ct : Value) (cc : Addr) (us rest : List Value), us.length = ps.length → bindArgs (fnS "__init__" qual (defArgs st) (defBody st) (defScope st) dV kV doc pm an (.ref cda) ct cc) ⟨us ++ rest, []⟩ = (newTuple rest >>= fun t => pure (ps.zip us ++ [(pv, t)])))
    (hbody : ∀ (cda cc : Addr) (_ : SupF P K f cda cc C c.fClue "self") (_ : Mod K mg base) (A : Around) (outer : List Env) (s : Shared) (H : Hp) (vs : List V) (Q : VK) (E : XK), Room k (A.deeper (envS qual (defScope st) s.heap.objs.size f (.ref cda) cc)) → sp vs H Q E →
      ∃ t, PSsA (cxS CX0 P w K mg base N qual (defScope st) f (.ref cda) cc A outer s H E).nox (defBody st) (defBody st) t ∧ t { nx := fun _ H' => Q .non H', rt := Q } (L2.start N vs) H) :
    FnR P w K mg base CX0 (k + 1) f (fun vs H Q E => ∃ ws rest, vs = ws ++ rest ∧ ws.length = ps.length ∧ rest.length ≤ sizeLine ∧ ∀ p, H p = Option.none → sp (ws ++ [V.ref p]) (upd H p (.tup rest)) Q E) := by
  obtain ⟨cda, cc, oc, od, osl, kV, doc, pm, an, ct, lk, hcd, sf⟩ := g.ex
  intro A outer s H us vs Q E hr e0 r hsp
  exact fnS_star lk hcd S (sf.base e0.mod) hps (fun us rest hl => hb kV doc pm an cda ct cc us rest hl) (fun A outer s H vs Q E hr h => hbody cda cc sf e0.mod A outer s H vs Q E hr h) A outer s H us vs Q E hr e0 r hsp
/-- a field more -/
theorem ClueO.put {H : Hp} {x v C dx : Addr} {L : List Nat} {T : LS.Tb} {fs : List (Str × V)} {f : Str} {y : V} (h : ClueO c H x v L T) (hx : H x = some (.ins C dx fs)) (hf : f ≠ "alphabet" ∧ f ≠ "steps" ∧ f ≠ "told" ∧ f ∉ clueMs) : ClueO c (upd H x (.ins C dx (putF f y fs))) x v L T := by
  obtain ⟨C', dx', fs', r, t, h1, h2, h3, h4, h5, h6, h7, h8⟩ := h.ex
  rw [hx] at h1
  injection h1 with h1
  injection h1 with e1 e2 e3
  subst e1 e2 e3
  have ia : InsAt [x] H := fun b hb => by rw [List.mem_singleton] at hb; subst hb; exact ⟨C, dx, fs, hx⟩
  have sx : SameX [x] H (upd H x (.ins C dx (putF f y fs))) := SameX.refl.put (by simp)
  refine ⟨⟨C, dx, _, r, t, upd_same, h2, by rw [lookup_putF, if_neg (Ne.symm hf.1)]; exact h3, by rw [lookup_putF, if_neg (Ne.symm hf.2.1)]; exact h4, by rw [lookup_putF, if_neg (Ne.symm hf.2.2.1)]; exact h5, fun m hm => ?_, h7.insX sx ia, tup_insX h8 sx ia⟩, ?_, h.can, h.sz⟩
  · rw [lookup_putF, if_neg fun z => hf.2.2.2 (by rw [← z]; exact hm)]
    exact h6 m hm
  · obtain ⟨dv, hv⟩ := h.val
    have hvx : v ≠ x := fun z => by
      subst z
      rw [hx] at hv
      injection hv with hv
      injection hv with _ _ e3
      subst e3
      cases h3
    exact ⟨dv, by rw [upd_ne hvx]; exact hv⟩
end
/-- behind super().__init__: the clue stands at x -/
theorem sup_ok {c : Cs} {K : PySem.W.Frag} {H : Hp} {Q : Hp → Prop} {x v p r t C dx : Addr} {L : List Nat} {T : LS.Tb} (hx : H x = some (.ins C dx [])) (hC : C ∈ c.clues) (hv : ValO c H v L) (hL : L.length ≤ 4) (hp : H p = some (.tup [.ref r, .ref t])) (hR : RowsAt K H r T.st) (hT : SqA K H t (T.to.map V.bl))
    (ok : T.Ok L.length) (hz : T.st.length ≤ 1000) (sm : Small L.length 64 T.lang)
    (kk : ∀ T' r' t' H', SameX [x] H H' → H' x = some (.ins C dx [("alphabet", .ref v), ("steps", .ref r'), ("told", .ref t')]) → ClueO c H' x v L T' → (∀ w, LS.Wd L.length w → T'.lang w = T.lang w) → Q H') :
    spClueI c K [.ref x, .ref v, .ref p] H (fun _ H2 => Q H2) E0 := by
  have hvx : v ≠ x := fun z => by
    obtain ⟨dv, hv⟩ := hv
    rw [z, hx] at hv
    injection hv with hv
    injection hv with _ _ e3
    cases e3
  refine ⟨x, v, p, C, dx, r, t, T, L.length, rfl, hx, hC, hp, hR, hT, ok, by omega, hz, sm, fun T' r' t' H' cn lg sz sx hx' hr ht => ?_⟩
  refine kk T' r' t' H' sx hx' ⟨⟨C, dx, _, r', t', hx', hC, rfl, rfl, rfl, ?_, hr, ht⟩, hv.sameX sx (by simpa using hvx), cn, sz⟩ lg
  intro m hm
  simp only [clueMs, List.mem_cons, List.not_mem_nil, or_false] at hm
  rcases hm with rfl | rfl | rfl | rfl <;> rfl
abbrev st_Every_init : Stmt := meth 57 0
theorem sc_Every_init : SScope ["self", "values", "letter"] ["self", "values"] (defScope st_Every_init) := ⟨rfl, rfl, rfl, by decide +kernel, rfl, by decide +kernel, by decide +kernel, rfl, by decide +kernel⟩
abbrev st_Never_init : Stmt := meth 58 0
theorem sc_Never_init : SScope ["self", "values", "letter"] ["self", "values"] (defScope st_Never_init) := ⟨rfl, rfl, rfl, by decide +kernel, rfl, by decide +kernel, by decide +kernel, rfl, by decide +kernel⟩
def constTab (k : Nat) (b : Bool) : LS.Tb := ⟨[List.replicate k 0], [b]⟩
theorem constTab_ok (k : Nat) (b : Bool) : (constTab k b).Ok k := ⟨rfl, Nat.one_pos, fun r hr => by rw [show r = List.replicate k 0 from by simpa [constTab] using hr, List.length_replicate], fun r hr q hq => by
  rw [show r = List.replicate k 0 from by simpa [constTab] using hr] at hq
  rw [(List.mem_replicate.mp hq).2]
  exact Nat.one_pos⟩
theorem constTab_lang {k : Nat} {b : Bool} {w : List Nat} (hw : LS.Wd k w) : (constTab k b).lang w = b := by
  have h := (constTab_ok k b).go_lt w Nat.one_pos hw
  have h : LS.go (constTab k b).nx 0 w < 1 := h
  have e : LS.go (constTab k b).nx 0 w = 0 := by omega
  show [b].getD (LS.go (constTab k b).nx 0 w) false = b
  rw [e] <;> rfl
def spConst (c : Cs) (C : Addr) (b : Bool) : Sp := fun vs H Q _ => ∃ (x v dx : Addr) (L : List Nat), vs = [.ref x, .ref v] ∧ H x = some (.ins C dx []) ∧ ValO c H v L ∧ L.length ≤ 4 ∧
  ∀ T' H', SameX [x] H H' → ClueO c H' x v L T' → (∀ w, LS.Wd L.length w → T'.lang w = b) → Q .non H'
section
variable {P : Program} {w : World} {K : PySem.W.Frag} {mg : Str → Option Value} {base : Heap} {c : Cs} {C f : Addr}
theorem c_Every_init (Z : TC K mg c) (F : KindF P K mg c "Every.__init__" st_Every_init .none C f) : FnR P w K mg base CX0 5 f (spConst c C true) := by
  have T := Z.T
  have c_need_values := c_need_values (P := P) (w := w) (base := base) Z
  have c_Clue_init := c_Clue_init (P := P) (w := w) (base := base) Z
  refine F.fn sc_Every_init (by decide +kernel) (fun _ _ _ _ _ _ _ us hl => match us, hl with | [_, _], _ => rfl) (fun vs H Q E h => ?_) (fun cda cc sf A outer s H vs Q E hr h => ?_)
  · obtain ⟨x, v, dx, L, rfl, _⟩ := h
    rfl
  · obtain ⟨x, v, dx, L, rfl, hx, hv, hL, kk⟩ := h
--TERM Every.__init__
    refine ⟨_, (pssA_cons (ps_expr (pe_cal c_need_values (by decide) hr (pa_cons (pv 1) pa_nil)))
  (pssA_super sc_Every_init rfl rfl sf F.su rfl c_Clue_init (by decide) hr (pa_cons (pv 1) (pa_cons (pe_tup (pa_cons (pe_lst (pa_cons (pe_lc (own := [("letter", 2)]) rfl sc_Every_init.nd (pi_str (pe_fldK K (pv 1))) (blkOk_by (own := [("letter", 2)]) (by kernel_rfl)) (fun _ _ _ _ _ => (pg_name (i := 2) sc_Every_init.nd rfl (Or.inl rfl))) (fun _ _ _ _ _ => pts_nil) (fun _ _ _ _ _ => pe_int)) pa_nil)) (pa_cons (pe_lst (pa_cons pe_bl pa_nil)) pa_nil))) pa_nil))
  (pssA_of pss_nil))), ?_⟩
--END
    obtain ⟨dv, hv0⟩ := id hv
    refine ⟨_, rfl, v, L, rfl, hv, ?_⟩
    refine ⟨x, dx, [], rfl, hx, _, rfl, _, rfl, v, _, _, _, _, rfl, hv0, Z.vl.cls, Z.vl.na _ (by simp [fieldNames]), rfl, Sg L, rfl, lc_txt (fun D => LcPv (RMap fun _ => nV 0) H D) (fun D nD => pv_start nD rfl) ?_ ?_⟩
    · rintro D i y H1 nD hy ⟨acc, eD, hl, sm, r⟩
      have hi : i < L.length := (List.getElem?_eq_some_iff.mp hy).1
      exact ⟨rfl, pv_push eD hl sm (Same.refl _) (by omega) (rmap_push r rfl)⟩
    rintro D H1 nD ⟨acc, eD, hl, sm, r⟩
    have s1 := sm_trans sm hid_sub
    have eD2 : H1 D = some (.lst ((List.replicate L.length 0).map nV)) := by
      rw [eD, show acc = _ from r, List.map_replicate]
      congr 2
      exact List.ext_getElem (by simp) (by simp)
    refine ⟨by show 1 ≤ sizeLine; decide, fun p1 n1 => ⟨by show 1 ≤ sizeLine; decide, fun p2 n2 => ⟨by show 2 ≤ sizeLine; decide, fun p3 n3 => ?_⟩⟩⟩
    have s2 : Same H1 (upd H1 p1 (.lst [.ref D])) := same_new n1
    generalize hH2 : upd H1 p1 _ = H2 at s2 n2 n3 ⊢
    have s3 : Same H2 (upd H2 p2 (.lst [.bl true])) := same_new n2
    generalize hH3 : upd H2 p2 _ = H3 at s3 n3 ⊢
    have s4 : Same H3 (upd H3 p3 (.tup [.ref p1, .ref p2])) := same_new n3
    have s14 := sm_trans s2 (sm_trans s3 s4)
    have s04 := sm_trans s1 s14
    refine sup_ok (T := constTab L.length true) (s04 _ _ hx) F.mem (hv.same s04) hL upd_same ⟨[D], .inl (SqL.of (s4 _ _ (s3 _ _ (by rw [← hH2]; exact upd_same)))), rfl, fun i r0 row e1 e2 => ?_⟩ (.inl (SqL.of (s4 _ _ (by rw [← hH3]; exact upd_same)))) (constTab_ok _ _) (by show 1 ≤ 1000; decide) ⟨constTab L.length true, constTab_ok _ _, fun w _ => rfl, by show 1 ≤ 64; decide⟩ fun T' r' t' H' sx hx' hq lg => ?_
    · cases i with
      | zero =>
        have e1 : D = r0 := Option.some.inj e1
        have e2 : List.replicate L.length 0 = row := Option.some.inj e2
        subst e1 e2
        exact .inl (SqL.of (s14 _ _ eD2))
      | succ i => simp at e1
    · exact kk T' H' (SameX.after s04 sx) hq fun w hw => (lg w hw).trans (constTab_lang hw)
theorem c_Never_init (Z : TC K mg c) (F : KindF P K mg c "Never.__init__" st_Never_init .none C f) : FnR P w K mg base CX0 5 f (spConst c C false) := by
  have T := Z.T
  have c_need_values := c_need_values (P := P) (w := w) (base := base) Z
  have c_Clue_init := c_Clue_init (P := P) (w := w) (base := base) Z
  refine F.fn sc_Never_init (by decide +kernel) (fun _ _ _ _ _ _ _ us hl => match us, hl with | [_, _], _ => rfl) (fun vs H Q E h => ?_) (fun cda cc sf A outer s H vs Q E hr h => ?_)
  · obtain ⟨x, v, dx, L, rfl, _⟩ := h
    rfl
  · obtain ⟨x, v, dx, L, rfl, hx, hv, hL, kk⟩ := h
--TERM Never.__init__
    refine ⟨_, (pssA_cons (ps_expr (pe_cal c_need_values (by decide) hr (pa_cons (pv 1) pa_nil)))
  (pssA_super sc_Never_init rfl rfl sf F.su rfl c_Clue_init (by decide) hr (pa_cons (pv 1) (pa_cons (pe_tup (pa_cons (pe_lst (pa_cons (pe_lc (own := [("letter", 2)]) rfl sc_Never_init.nd (pi_str (pe_fldK K (pv 1))) (blkOk_by (own := [("letter", 2)]) (by kernel_rfl)) (fun _ _ _ _ _ => (pg_name (i := 2) sc_Never_init.nd rfl (Or.inl rfl))) (fun _ _ _ _ _ => pts_nil) (fun _ _ _ _ _ => pe_int)) pa_nil)) (pa_cons (pe_lst (pa_cons pe_bl pa_nil)) pa_nil))) pa_nil))
  (pssA_of pss_nil))), ?_⟩
--END
    obtain ⟨dv, hv0⟩ := id hv
    refine ⟨_, rfl, v, L, rfl, hv, ?_⟩
    refine ⟨x, dx, [], rfl, hx, _, rfl, _, rfl, v, _, _, _, _, rfl, hv0, Z.vl.cls, Z.vl.na _ (by simp [fieldNames]), rfl, Sg L, rfl, lc_txt (fun D => LcPv (RMap fun _ => nV 0) H D) (fun D nD => pv_start nD rfl) ?_ ?_⟩
    · rintro D i y H1 nD hy ⟨acc, eD, hl, sm, r⟩
      have hi : i < L.length := (List.getElem?_eq_some_iff.mp hy).1
      exact ⟨rfl, pv_push eD hl sm (Same.refl _) (by omega) (rmap_push r rfl)⟩
    rintro D H1 nD ⟨acc, eD, hl, sm, r⟩
    have s1 := sm_trans sm hid_sub
    have eD2 : H1 D = some (.lst ((List.replicate L.length 0).map nV)) := by
      rw [eD, show acc = _ from r, List.map_replicate]
      congr 2
      exact List.ext_getElem (by simp) (by simp)
    refine ⟨by show 1 ≤ sizeLine; decide, fun p1 n1 => ⟨by show 1 ≤ sizeLine; decide, fun p2 n2 => ⟨by show 2 ≤ sizeLine; decide, fun p3 n3 => ?_⟩⟩⟩
    have s2 : Same H1 (upd H1 p1 (.lst [.ref D])) := same_new n1
    generalize hH2 : upd H1 p1 _ = H2 at s2 n2 n3 ⊢
    have s3 : Same H2 (upd H2 p2 (.lst [.bl false])) := same_new n2
    generalize hH3 : upd H2 p2 _ = H3 at s3 n3 ⊢
    have s4 : Same H3 (upd H3 p3 (.tup [.ref p1, .ref p2])) := same_new n3
    have s14 := sm_trans s2 (sm_trans s3 s4)
    have s04 := sm_trans s1 s14
    refine sup_ok (T := constTab L.length false) (s04 _ _ hx) F.mem (hv.same s04) hL upd_same ⟨[D], .inl (SqL.of (s4 _ _ (s3 _ _ (by rw [← hH2]; exact upd_same)))), rfl, fun i r0 row e1 e2 => ?_⟩ (.inl (SqL.of (s4 _ _ (by rw [← hH3]; exact upd_same)))) (constTab_ok _ _) (by show 1 ≤ 1000; decide) ⟨constTab L.length false, constTab_ok _ _, fun w _ => rfl, by show 1 ≤ 64; decide⟩ fun T' r' t' H' sx hx' hq lg => ?_
    · cases i with
      | zero =>
        have e1 : D = r0 := Option.some.inj e1
        have e2 : List.replicate L.length 0 = row := Option.some.inj e2
        subst e1 e2
        exact .inl (SqL.of (s14 _ _ eD2))
      | succ i => simp at e1
    · exact kk T' H' (SameX.after s04 sx) hq fun w hw => (lg w hw).trans (constTab_lang hw)
end
end LW
end
section
set_option Elab.async false
set_option linter.all false
set_option maxRecDepth 100000
set_option maxHeartbeats 2000000
/-! Few, Modulo -/
namespace LW
open PySem PySem.Spec PyProof.Rows L2
abbrev st_Few_init : Stmt := meth 52 0
theorem sc_Few_init : SScope ["self", "values", "mark", "most", "steps", "lost", "many"] ["self", "values", "mark", "most"] (defScope st_Few_init) := ⟨rfl, rfl, rfl, by decide +kernel, rfl, by decide +kernel, by decide +kernel, rfl, by decide +kernel⟩
abbrev st_Modulo_init : Stmt := meth 53 0
theorem sc_Modulo_init : SScope ["self", "values", "mark", "modulus", "rest", "steps", "many"] ["self", "values", "mark", "modulus", "rest"] (defScope st_Modulo_init) := ⟨rfl, rfl, rfl, by decide +kernel, rfl, by decide +kernel, by decide +kernel, rfl, by decide +kernel⟩
/-! ### the plain law of rows by a mark -/
/-- how many signs are the mark -/
def cm (L : List Nat) (m : Nat) (w : List Nat) : Nat := w.countP fun a => L.getD a 0 == m
theorem byM_at {L : List Nat} {m on off a q : Nat} (h : a < L.length) : (byM L m on off).getD a q = if L.getD a 0 = m then on else off := by
  unfold byM
  rw [LS.getD_at (by rw [List.length_map]; exact h), List.getElem_map, LS.getD_at h]
theorem byM_len {L : List Nat} {m on off : Nat} : (byM L m on off).length = L.length := List.length_map _
theorem byM_mem {L : List Nat} {m on off q : Nat} (h : q ∈ byM L m on off) : q = on ∨ q = off := by
  obtain ⟨y, _, rfl⟩ := List.mem_map.mp h
  by_cases e : y = m
  · rw [if_pos e]; exact .inl rfl
  · rw [if_neg e]; exact .inr rfl
def fewTab (L : List Nat) (m n : Nat) : LS.Tb := ⟨((List.range (n + 1)).map fun i => byM L m (i + 1) i) ++ [byM L m (n + 1) (n + 1)], (List.range (n + 2)).map fun i => decide (i ≤ n)⟩
def modTab (L : List Nat) (m md rest : Nat) : LS.Tb := ⟨(List.range md).map fun i => byM L m ((i + 1) % md) i, (List.range md).map fun i => decide (i = rest)⟩
theorem fewTab_len (L : List Nat) (m n : Nat) : (fewTab L m n).st.length = n + 2 := by simp [fewTab]
theorem modTab_len (L : List Nat) (m md rest : Nat) : (modTab L m md rest).st.length = md := by simp [modTab]
theorem fewTab_ok (L : List Nat) (m n : Nat) : (fewTab L m n).Ok L.length := by
  refine ⟨by rw [fewTab_len]; simp [fewTab], by rw [fewTab_len]; omega, fun r hr => ?_, fun r hr q hq => ?_⟩
  · rcases List.mem_append.mp hr with z | z
    · obtain ⟨i, _, rfl⟩ := List.mem_map.mp z
      exact byM_len
    · rw [List.mem_singleton.mp z]
      exact byM_len
  · rw [fewTab_len]
    rcases List.mem_append.mp hr with z | z
    · obtain ⟨i, hi, rfl⟩ := List.mem_map.mp z
      have := List.mem_range.mp hi
      rcases byM_mem hq with e | e <;> omega
    · rw [List.mem_singleton.mp z] at hq
      rcases byM_mem hq with e | e <;> omega
theorem modTab_ok (L : List Nat) (m : Nat) {md rest : Nat} (h : 1 ≤ md) : (modTab L m md rest).Ok L.length := by
  refine ⟨by rw [modTab_len]; simp [modTab], by rw [modTab_len]; omega, fun r hr => ?_, fun r hr q hq => ?_⟩
  · obtain ⟨i, _, rfl⟩ := List.mem_map.mp hr
    exact byM_len
  · rw [modTab_len]
    obtain ⟨i, hi, rfl⟩ := List.mem_map.mp hr
    have := List.mem_range.mp hi
    rcases byM_mem hq with e | e
    · rw [e]
      exact Nat.mod_lt _ h
    · omega
theorem fewTab_nx {L : List Nat} {m n i : Nat} (h : i ≤ n + 1) : (fewTab L m n).nx i = byM L m (min (i + 1) (n + 1)) i := by
  unfold LS.Tb.nx fewTab
  show List.getD _ i [] = _
  rw [List.getD_eq_getElem?_getD]
  by_cases e : i ≤ n
  · rw [List.getElem?_append_left (by simp; omega), List.getElem?_map, List.getElem?_range (by omega), Nat.min_eq_left (by omega)] <;> rfl
  · have : i = n + 1 := by omega
    subst this
    rw [List.getElem?_append_right (by simp), Nat.min_eq_right (by omega)]
    simp
theorem modTab_nx {L : List Nat} {m md rest i : Nat} (h : i < md) : (modTab L m md rest).nx i = byM L m ((i + 1) % md) i := by
  unfold LS.Tb.nx modTab
  show List.getD _ i [] = _
  rw [List.getD_eq_getElem?_getD, List.getElem?_map, List.getElem?_range h] <;> rfl
theorem go_cons (nx : Nat → List Nat) (q a : Nat) (w : List Nat) : LS.go nx q (a :: w) = LS.go nx ((nx q).getD a q) w := rfl
theorem cm_cons (L : List Nat) (m a : Nat) (w : List Nat) : cm L m (a :: w) = (if L.getD a 0 = m then 1 else 0) + cm L m w := by
  unfold cm
  rw [List.countP_cons]
  by_cases e : L.getD a 0 = m
  · rw [if_pos e, if_pos (beq_iff_eq.mpr e)]
    omega
  · rw [if_neg e, if_neg (fun z => e (beq_iff_eq.mp z))]
    omega
theorem fewTab_go {L : List Nat} {m n : Nat} : ∀ (w : List Nat) (i : Nat), i ≤ n + 1 → LS.Wd L.length w → LS.go (fewTab L m n).nx i w = min (i + cm L m w) (n + 1)
  | [], i, h, _ => by
    show i = min (i + 0) (n + 1)
    omega
  | a :: w, i, h, hw => by
    rw [go_cons, fewTab_nx h, byM_at hw.head, cm_cons]
    by_cases e : L.getD a 0 = m
    · rw [if_pos e, if_pos e, fewTab_go w _ (Nat.min_le_right _ _) hw.tail]
      omega
    · rw [if_neg e, if_neg e, fewTab_go w i h hw.tail]
      omega
theorem fewTab_lang {L : List Nat} {m n : Nat} {w : List Nat} (hw : LS.Wd L.length w) : (fewTab L m n).lang w = decide (cm L m w ≤ n) := by
  unfold LS.Tb.lang
  rw [fewTab_go w 0 (by omega) hw]
  unfold LS.Tb.acc fewTab
  show List.getD _ _ false = _
  rw [List.getD_eq_getElem?_getD, List.getElem?_map, List.getElem?_range (by omega)]
  show decide _ = decide _
  rw [decide_eq_decide]
  omega
theorem modTab_go {L : List Nat} {m md rest : Nat} (h1 : 1 ≤ md) : ∀ (w : List Nat) (i : Nat), i < md → LS.Wd L.length w → LS.go (modTab L m md rest).nx i w = (i + cm L m w) % md
  | [], i, h, _ => by
    show i = (i + 0) % md
    rw [Nat.add_zero, Nat.mod_eq_of_lt h]
  | a :: w, i, h, hw => by
    rw [go_cons, modTab_nx h, byM_at hw.head, cm_cons]
    by_cases e : L.getD a 0 = m
    · rw [if_pos e, if_pos e, modTab_go h1 w _ (Nat.mod_lt _ h1) hw.tail, Nat.mod_add_mod, Nat.add_assoc]
    · rw [if_neg e, if_neg e, modTab_go h1 w i h hw.tail, Nat.zero_add]
theorem modTab_lang {L : List Nat} {m md rest : Nat} (h1 : 1 ≤ md) {w : List Nat} (hw : LS.Wd L.length w) : (modTab L m md rest).lang w = decide (cm L m w % md = rest) := by
  unfold LS.Tb.lang
  rw [modTab_go h1 w 0 h1 hw, Nat.zero_add]
  unfold LS.Tb.acc modTab
  show List.getD _ _ false = _
  rw [List.getD_eq_getElem?_getD, List.getElem?_map, List.getElem?_range (Nat.mod_lt _ h1)] <;> rfl
end LW
end
section
set_option Elab.async false
set_option linter.all false
set_option maxRecDepth 100000
set_option maxHeartbeats 2000000
/-! Few(..), Modulo(..): walks -/
namespace LW
open PySem PySem.Spec PyProof.Rows L2
theorem rrows_list {acc : List V} {n : Nat} {R : Nat → List Nat} {H : Hp} (r : RRows false (fun i => (R i).map nV) n acc H) : ∃ rs : List Addr, acc = rs.map V.ref ∧ rs.length = n ∧ ∀ (i : Nat) (a : Addr), rs[i]? = some a → i < n ∧ H a = some (.lst ((R i).map nV)) := by
  obtain ⟨r1, r2⟩ := r
  have hrows : ∃ rs : List Addr, acc = rs.map V.ref := by
    refine ⟨acc.map fun x => match x with | .ref a => a | _ => 0, ?_⟩
    rw [List.map_map]
    refine List.ext_getElem (by simp) fun j h1 h2 => ?_
    obtain ⟨q, hq, _⟩ := r2 j (by rw [← r1]; exact h1)
    rw [List.getElem?_eq_getElem h1] at hq
    have := Option.some.inj hq
    simp [this]
  obtain ⟨rs, ers⟩ := hrows
  have hrl : rs.length = n := by rw [← r1, ers, List.length_map]
  refine ⟨rs, ers, hrl, fun i a ea => ?_⟩
  have hi : i < n := by rw [← hrl]; exact (List.getElem?_eq_some_iff.mp ea).1
  obtain ⟨q, hq, hq2⟩ := r2 i hi
  rw [ers, List.getElem?_map, ea] at hq
  have e4 : a = q := by
    have := Option.some.inj hq
    cases this
    rfl
  subst e4
  rw [if_neg (by decide)] at hq2
  exact ⟨hi, hq2⟩
theorem rowsAt_of {K : PySem.W.Frag} {H : Hp} {l : Addr} {rs : List Addr} {st : List (List Nat)} (hl : SqA K H l (rs.map V.ref)) (hlen : rs.length = st.length) (h : ∀ (i : Nat) (a : Addr), rs[i]? = some a → ∃ row : List Nat, st[i]? = some row ∧ SqA K H a (row.map nV)) : RowsAt K H l st :=
  ⟨rs, hl, hlen, fun i r row e1 e2 => by
    obtain ⟨row', e3, q⟩ := h i r e1
    rw [e2] at e3
    cases e3
    exact q⟩
def spFew (c : Cs) (C : Addr) : Sp := fun vs H Q _ => ∃ (x v dx : Addr) (L : List Nat) (m n : Nat), vs = [.ref x, .ref v, .str (Sg [m]), nV n] ∧ H x = some (.ins C dx []) ∧ ValO c H v L ∧ L.length ≤ 4 ∧ m ∈ L ∧ n ≤ 60 ∧
  ∀ T' H', SameX [x] H H' → ClueO c H' x v L T' → (∀ w, LS.Wd L.length w → T'.lang w = decide (cm L m w ≤ n)) → Q .non H'
def spMod (c : Cs) (C : Addr) : Sp := fun vs H Q _ => ∃ (x v dx : Addr) (L : List Nat) (m md rest : Nat), vs = [.ref x, .ref v, .str (Sg [m]), nV md, nV rest] ∧ H x = some (.ins C dx []) ∧ ValO c H v L ∧ L.length ≤ 4 ∧ m ∈ L ∧ 1 ≤ md ∧ md ≤ 60 ∧ rest < md ∧
  ∀ T' H', SameX [x] H H' → ClueO c H' x v L T' → (∀ w, LS.Wd L.length w → T'.lang w = decide (cm L m w % md = rest)) → Q .non H'
section
variable {P : Program} {w : World} {K : PySem.W.Frag} {mg : Str → Option Value} {base : Heap} {c : Cs} {C f : Addr}
theorem c_Few_init (Z : TC K mg c) (F : KindF P K mg c "Few.__init__" st_Few_init .none C f) : FnR P w K mg base CX0 5 f (spFew c C) := by
  have T := Z.T
  have c_need_mark := c_need_mark (P := P) (w := w) (base := base) Z
  have c_is_whole := c_is_whole (P := P) (w := w) (base := base) T
  have c_by_mark := c_by_mark (P := P) (w := w) (base := base) Z
  have c_Clue_init := c_Clue_init (P := P) (w := w) (base := base) Z
  refine F.fn sc_Few_init (by decide +kernel) (fun _ _ _ _ _ _ _ us hl => match us, hl with | [_, _, _, _], _ => rfl) (fun vs H Q E h => ?_) (fun cda cc sf A outer s H vs Q E hr h => ?_)
  · obtain ⟨x, v, dx, L, m, n, rfl, _⟩ := h
    rfl
  · obtain ⟨x, v, dx, L, m, n, rfl, hx, hv, hL, hm, hn, kk⟩ := h
--TERM Few.__init__
    refine ⟨_, (pssA_cons (ps_expr (pe_cal c_need_mark (by decide) hr (pa_cons (pv 1) (pa_cons (pv 2) pa_nil))))
  (pssA_cons (ps_if (pt_not (pt_val (pe_cal c_is_whole (by decide) hr (pa_cons (pv 3) (pa_cons pe_int (pa_cons (pe_gci rfl T.g_MOST_MARKS) pa_nil)))))) (pss_one ps_never)
  pss_nil)
  (pssA_cons (ps_setLc (i := 4) (own := [("many", 6)]) rfl sc_Few_init.nd rfl rfl (sw_true rfl rfl rfl (by decide +kernel)) (pi_range1 rfl T.b_range (pa_cons (pe_op op_add (pv 3) pe_int) pa_nil)) (blkOk_by (own := [("many", 6)]) (by kernel_rfl)) (fun _ _ _ _ _ => (pg_name (i := 6) sc_Few_init.nd rfl (Or.inl rfl))) (fun _ _ _ _ _ => pts_nil) (fun _ _ _ _ _ => (pe_cal c_by_mark (by decide) hr (pa_cons (pv 1) (pa_cons (pv 2) (pa_cons (pe_op op_add (pv 6) pe_int) (pa_cons (pv 6) pa_nil)))))))
  (pssA_cons (ps_set (i := 5) sc_Few_init.nd rfl (Or.inl rfl) (pe_cal c_by_mark (by decide) hr (pa_cons (pv 1) (pa_cons (pv 2) (pa_cons (pe_op op_add (pv 3) pe_int) (pa_cons (pe_op op_add (pv 3) pe_int) pa_nil))))))
  (pssA_super sc_Few_init rfl rfl sf F.su rfl c_Clue_init (by decide) hr (pa_cons (pv 1) (pa_cons (pe_tup (pa_cons (pe_lst (pa_starK K (pv 4) (pa_cons (pv 5) pa_nil))) (pa_cons (pe_lc (own := [("many", 6)]) rfl sc_Few_init.nd (pi_range1 rfl T.b_range (pa_cons (pe_op op_add (pv 3) pe_int) pa_nil)) (blkOk_by (own := [("many", 6)]) (by kernel_rfl)) (fun _ _ _ _ _ => (pg_name (i := 6) sc_Few_init.nd rfl (Or.inl rfl))) (fun _ _ _ _ _ => pts_nil) (fun _ _ _ _ _ => (pe_cmpR op_le (pv 6) (pv 3) (nomark _)))) pa_nil))) pa_nil))
  (pssA_of (pss_cons (ps_fldK K (pv 0) (pv 2))
  (pss_one (ps_fldK K (pv 0) (pv 3)))))))))), ?_⟩
--END
    obtain ⟨dv, hv0⟩ := id hv
    refine ⟨_, rfl, _, rfl, v, L, m, rfl, hv, hm, ?_⟩
    refine ⟨_, rfl, (n : Int), 0, 60, rfl, true, by rw [decide_eq_true (by omega), decide_eq_true (by omega)] <;> rfl, iteF ?_⟩
    have en : (((n : Nat) : Int) + 1).toNat = n + 1 := by omega
    refine ⟨_, rfl, _, _, rfl, rfl, _, rfl, by omega, by omega, ?_⟩
    rw [en]
    refine fun D nD => lc_it (walk_range (lo := 0) (n := n + 1)) (LcPv (RRows false fun i => (byM L m (i + 1) i).map nV) H D) (pv_start nD ⟨rfl, fun j hj => absurd hj (Nat.not_lt_zero _)⟩) (fun _ _ _ _ => True.intro) ?_ ?_
    · rintro i y H1 H2 hi ⟨acc, eD, hl, sm, r⟩ ⟨rfl, ey⟩
      have ey2 : y = nV i := by rw [ey]; simp
      subst ey2
      have s1 := sm_trans sm hid_sub
      refine ⟨rfl, _, rfl, _, rfl, _, rfl, _, _, rfl, rfl, _, rfl, v, L, m, i + 1, i, rfl, hv.same s1, hL, fun q H3 s2 nq hq => ?_⟩
      have ne : q ≠ D := Ne.symm (ne_of_none eD nq)
      exact pv_push eD hl sm s2 (by omega) (rrows_push r (same_hid s2) (by rw [hid_ne ne, if_neg (by decide)]; exact hq))
    rintro H1 ⟨acc, eD, hl, sm, r⟩
    obtain ⟨rs, e1, e2, e3⟩ := rrows_list r
    have s1 := sm_trans sm hid_sub
    -- lost
    refine ⟨_, rfl, _, rfl, _, rfl, _, _, rfl, rfl, _, rfl, _, _, rfl, rfl, v, L, m, n + 1, n + 1, rfl, hv.same s1, hL, fun lo H2 s2 nlo hlo => ?_⟩
    have s02 := sm_trans s1 s2
    have eD2 := s2 _ _ eD
    refine ⟨x, dx, [], rfl, s02 _ _ hx, _, rfl, _, rfl, D, _, rfl, .inr (SqL.of eD2), _, rfl, ?_, fun p1 n1 => ?_⟩
    · rw [List.length_append, r.1]
      exact Nat.le_of_lt (small5 (by simp; omega))
    have s3 : Same H2 (upd H2 p1 (.lst (acc ++ [.ref lo]))) := same_new n1
    generalize hH3 : upd H2 p1 _ = H3 at s3 ⊢
    have en2 : (((n : Nat) : Int) + 2).toNat = n + 2 := by omega
    refine ⟨_, rfl, _, _, rfl, rfl, _, rfl, by omega, by omega, ?_⟩
    rw [en2]
    refine fun D2 nD2 => lc_it (walk_range (lo := 0) (n := n + 2)) (LcPv (RMap fun i => V.bl (decide (i ≤ n))) H3 D2) (pv_start nD2 rfl) (fun _ _ _ _ => True.intro) ?_ ?_
    · rintro i y H4 H5 hi ⟨acc2, eD3, hl2, sm2, r2⟩ ⟨rfl, ey⟩
      have ey2 : y = nV i := by rw [ey]; simp
      subst ey2
      refine ⟨rfl, _, rfl, _, rfl, _, _, rfl, rfl, ?_⟩
      exact pv_push eD3 hl2 sm2 (Same.refl _) (by omega) (rmap_push r2 (by show V.bl (decide ((i : Int) ≤ (n : Int))) = _; congr 1; rw [decide_eq_decide]; omega))
    rintro H4 ⟨acc2, eD3, hl2, sm2, r2⟩
    have s4 := sm_trans sm2 hid_sub
    refine ⟨by show 2 ≤ sizeLine; decide, fun p3 n3 => ?_⟩
    have s5 : Same H4 (upd H4 p3 (.tup [.ref p1, .ref D2])) := same_new n3
    have s25 := sm_trans s3 (sm_trans s4 s5)
    have s05 := sm_trans s02 s25
    have hp1 : upd H4 p3 (.tup [.ref p1, .ref D2]) p1 = some (.lst ((rs ++ [lo]).map V.ref)) := s5 _ _ (s4 _ _ (by rw [← hH3, upd_same, e1, List.map_append] <;> rfl))
    refine sup_ok (T := fewTab L m n) (s05 _ _ hx) F.mem (hv.same s05) hL upd_same (rowsAt_of (rs := rs ++ [lo]) (.inl (SqL.of hp1)) (by rw [fewTab_len, List.length_append, e2] <;> rfl) fun i a ea => ?_) (.inl (SqL.of (s5 _ _ (by rw [eD3, show acc2 = _ from r2]; unfold fewTab; rw [List.map_map] <;> rfl))))
      (fewTab_ok L m n) (by rw [fewTab_len]; omega) ⟨fewTab L m n, fewTab_ok L m n, fun w _ => rfl, by rw [fewTab_len]; omega⟩ fun T' r' t' H' sx hx' hq lg => ?_
    · have hi := (List.getElem?_eq_some_iff.mp ea).1
      rw [List.length_append, e2, List.length_singleton] at hi
      by_cases h1 : i < n + 1
      · rw [List.getElem?_append_left (by rw [e2]; exact h1)] at ea
        refine ⟨byM L m (i + 1) i, ?_, .inl (SqL.of (s25 _ _ (s2 _ _ (hid_sub _ _ (e3 i a ea).2))))⟩
        unfold fewTab
        show (_ ++ _)[i]? = _
        rw [List.getElem?_append_left (by simpa using h1), List.getElem?_map, List.getElem?_range h1] <;> rfl
      · have h2 : i = n + 1 := by omega
        subst h2
        rw [List.getElem?_append_right (by rw [e2] <;> omega), e2, Nat.sub_self] at ea
        have ea : lo = a := Option.some.inj ea
        subst ea
        refine ⟨byM L m (n + 1) (n + 1), ?_, .inl (SqL.of (s25 _ _ hlo))⟩
        unfold fewTab
        show (_ ++ _)[n + 1]? = _
        rw [List.getElem?_append_right (by simp)]
        simp
    · refine ⟨_, rfl, _, rfl, x, C, dx, _, rfl, hx', (Z.cq F.mem).cls, (Z.cq F.mem).na _ (by simp [fieldNames]), by show 3 < 1000; decide, ?_⟩
      have hq1 := hq.put (f := "mark") (y := .str (Sg [m])) hx' (by decide)
      refine ⟨_, rfl, _, rfl, x, C, dx, _, rfl, upd_same, (Z.cq F.mem).cls, (Z.cq F.mem).na _ (by simp [fieldNames]), by rw [putF_new (f := Str.ofString "mark") rfl]; show 4 < 1000; decide, ?_⟩
      have hq2 := hq1.put (f := "most") (y := nV n) upd_same (by decide)
      exact kk T' _ (((SameX.after s05 sx).put (by simp)).put (by simp)) hq2 fun w hw => (lg w hw).trans (fewTab_lang hw)
end
end LW
end
section
set_option Elab.async false
set_option linter.all false
set_option maxRecDepth 100000
set_option maxHeartbeats 2000000
/-! Modulo(..) -/
namespace LW
open PySem PySem.Spec PyProof.Rows L2
section
variable {P : Program} {w : World} {K : PySem.W.Frag} {mg : Str → Option Value} {base : Heap} {c : Cs} {C f : Addr}
/-- a kind with a default that is never used -/
theorem KindF.dflt {qual : Str} {st : Stmt} {T0 : Addr} {u : Value} {cl : Value} {d : Option Addr} {n : Nat} {sl : Array (Option Value)} {N ps : List Str} {k : Nat} {sp : Sp} (g : KindF P K mg c qual st (.ref T0) C f) (lkT : K.lookup T0 = some ⟨cl, d, .seq #[u] n, sl⟩) (S : SScope N ps (defScope st)) (hps : ∀ x ∈ ps, x ≠ ("__class__" : Str))
    (hb : ∀ (kV doc pm : Value) (an : Option Addr) (cda : Addr) (ct : Value) (cc : Addr) (us : List Value), us.length = ps.length → ∃ k, bindArgs (fnS "__init__" qual (defArgs st) (defBody st) (defScope st) (.ref T0) kV doc pm an (.ref cda) ct cc) ⟨us, []⟩ = (seqItems? (.ref T0) >>= k) ∧ k (some #[u]) = pure (ps.zip us)) (len : ∀ vs H Q E, sp vs H Q E → vs.length = ps.length)
    (hbody : ∀ (cda cc : Addr) (_ : SupF P K f cda cc C c.fClue "self") (A : Around) (outer : List Env) (s : Shared) (H : Hp) (vs : List V) (Q : VK) (E : XK), Room k (A.deeper (envS qual (defScope st) s.heap.objs.size f (.ref cda) cc)) → sp vs H Q E →
      ∃ t, PSsA (cxS CX0 P w K mg base N qual (defScope st) f (.ref cda) cc A outer s H E).nox (defBody st) (defBody st) t ∧ t { nx := fun _ H' => Q .non H', rt := Q } (L2.start N vs) H) :
    FnR P w K mg base CX0 (k + 1) f sp := by
  obtain ⟨cda, cc, oc, od, osl, kV, doc, pm, an, ct, lk, hcd, sf⟩ := g.ex
  intro A outer s H us vs Q E hr e0 r hsp
  refine run_bndS lk hcd S (sf.base e0.mod) hps hr e0 (G := fun xs H2 => xs = vs ∧ H2 = H) (fun A' Ex Q' h => ?_) fun s2 H2 xs ⟨ex, eH⟩ hr' => ?_
  · have hl := len _ _ _ _ hsp
    obtain ⟨k', e1, e2⟩ := hb kV doc pm an cda ct cc us (by rw [← r.length]; exact hl)
    rw [e1]
    have KX : K.In s.heap := e0.mod.kin.keeps fun b o e => (e0.bs b o e).1
    unfold seqItems?
    refine wpAny_bind (wpAny_bind (wpAny_load (KX _ _ lkT) (wpAny_pure ?_)))
    rw [e2]
    exact wpAny_pure (h s H vs us e0 Un.refl rfl (fun _ _ z => z) r hl ⟨rfl, rfl⟩)
  · subst ex eH
    exact hbody cda cc sf A outer s2 _ _ Q E hr' hsp
theorem c_Modulo_init {T0 : Addr} {u : Value} {cl : Value} {d : Option Addr} {nn : Nat} {sl : Array (Option Value)} (Z : TC K mg c) (F : KindF P K mg c "Modulo.__init__" st_Modulo_init (.ref T0) C f) (lkT : K.lookup T0 = some ⟨cl, d, .seq #[u] nn, sl⟩) : FnR P w K mg base CX0 5 f (spMod c C) := by
  have T := Z.T
  have c_need_mark := c_need_mark (P := P) (w := w) (base := base) Z
  have c_is_whole := c_is_whole (P := P) (w := w) (base := base) T
  have c_by_mark := c_by_mark (P := P) (w := w) (base := base) Z
  have c_Clue_init := c_Clue_init (P := P) (w := w) (base := base) Z
  refine F.dflt lkT sc_Modulo_init (by decide +kernel) (fun _ _ _ _ _ _ _ us hl => match us, hl with | [_, _, _, _, _], _ => ⟨_, rfl, rfl⟩) (fun vs H Q E h => ?_) (fun cda cc sf A outer s H vs Q E hr h => ?_)
  · obtain ⟨x, v, dx, L, m, md, rest, rfl, _⟩ := h
    rfl
  · obtain ⟨x, v, dx, L, m, md, rest, rfl, hx, hv, hL, hm, h1, h2, h3, kk⟩ := h
--TERM Modulo.__init__
    refine ⟨_, (pssA_cons (ps_expr (pe_cal c_need_mark (by decide) hr (pa_cons (pv 1) (pa_cons (pv 2) pa_nil))))
  (pssA_cons (ps_if (pt_not (pt_val (pe_cal c_is_whole (by decide) hr (pa_cons (pv 3) (pa_cons pe_int (pa_cons (pe_gci rfl T.g_MOST_MARKS) pa_nil)))))) (pss_one ps_never)
  pss_nil)
  (pssA_cons (ps_if (pt_not (pt_val (pe_cal c_is_whole (by decide) hr (pa_cons (pv 4) (pa_cons pe_int (pa_cons (pe_op op_sub (pv 3) pe_int) pa_nil)))))) (pss_one ps_never)
  pss_nil)
  (pssA_cons (ps_setLc (i := 5) (own := [("many", 6)]) rfl sc_Modulo_init.nd rfl rfl (sw_true rfl rfl rfl (by decide +kernel)) (pi_range1 rfl T.b_range (pa_cons (pv 3) pa_nil)) (blkOk_by (own := [("many", 6)]) (by kernel_rfl)) (fun _ _ _ _ _ => (pg_name (i := 6) sc_Modulo_init.nd rfl (Or.inl rfl))) (fun _ _ _ _ _ => pts_nil) (fun _ _ _ _ _ => (pe_cal c_by_mark (by decide) hr (pa_cons (pv 1) (pa_cons (pv 2) (pa_cons (pe_op op_mod (pe_op op_add (pv 6) pe_int) (pv 3)) (pa_cons (pv 6) pa_nil)))))))
  (pssA_super sc_Modulo_init rfl rfl sf F.su rfl c_Clue_init (by decide) hr (pa_cons (pv 1) (pa_cons (pe_tup (pa_cons (pv 5) (pa_cons (pe_lc (own := [("many", 6)]) rfl sc_Modulo_init.nd (pi_range1 rfl T.b_range (pa_cons (pv 3) pa_nil)) (blkOk_by (own := [("many", 6)]) (by kernel_rfl)) (fun _ _ _ _ _ => (pg_name (i := 6) sc_Modulo_init.nd rfl (Or.inl rfl))) (fun _ _ _ _ _ => pts_nil) (fun _ _ _ _ _ => (pe_cmpR op_eq (pv 6) (pv 4) (nomark _)))) pa_nil))) pa_nil))
  (pssA_of (pss_cons (ps_fldK K (pv 0) (pv 2))
  (pss_cons (ps_fldK K (pv 0) (pv 3))
  (pss_one (ps_fldK K (pv 0) (pv 4))))))))))), ?_⟩
--END
    obtain ⟨dv, hv0⟩ := id hv
    refine ⟨_, rfl, _, rfl, v, L, m, rfl, hv, hm, ?_⟩
    refine ⟨_, rfl, (md : Int), 1, 60, rfl, true, by rw [decide_eq_true (by omega), decide_eq_true (by omega)] <;> rfl, iteF ?_⟩
    refine ⟨_, rfl, _, rfl, _, _, rfl, rfl, (rest : Int), 0, (md : Int) - 1, rfl, true, by rw [decide_eq_true (by omega), decide_eq_true (by omega)] <;> rfl, iteF ?_⟩
    refine ⟨_, rfl, _, rfl, by omega, by omega, ?_⟩
    rw [Int.toNat_natCast]
    refine fun D nD => lc_it (walk_range (lo := 0) (n := md)) (LcPv (RRows false fun i => (byM L m ((i + 1) % md) i).map nV) H D) (pv_start nD ⟨rfl, fun j hj => absurd hj (Nat.not_lt_zero _)⟩) (fun _ _ _ _ => True.intro) ?_ ?_
    · rintro i y H1 H2 hi ⟨acc, eD, hl, sm, r⟩ ⟨rfl, ey⟩
      have ey2 : y = nV i := by rw [ey]; simp
      subst ey2
      have s1 := sm_trans sm hid_sub
      refine ⟨rfl, _, rfl, _, rfl, _, rfl, _, _, rfl, rfl, _, rfl, _, _, rfl, rfl, by omega, _, rfl, v, L, m, (i + 1) % md, i, ?_, hv.same s1, hL, fun q H3 s2 nq hq => ?_⟩
      · show [V.ref v, V.str (Sg [m]), V.int (((i : Int) + 1) % (md : Int)), nV i] = _
        rw [show ((i : Int) + 1) % (md : Int) = (((i + 1) % md : Nat) : Int) by rw [Int.natCast_emod]; rfl]
      have ne : q ≠ D := Ne.symm (ne_of_none eD nq)
      exact pv_push eD hl sm s2 (by omega) (rrows_push r (same_hid s2) (by rw [hid_ne ne, if_neg (by decide)]; exact hq))
    rintro H2 ⟨acc, eD, hl, sm, r⟩
    obtain ⟨rs, e1, e2, e3⟩ := rrows_list r
    have s02 := sm_trans sm hid_sub
    refine ⟨x, dx, [], rfl, s02 _ _ hx, _, rfl, _, rfl, _, rfl, _, rfl, by omega, by omega, ?_⟩
    rw [Int.toNat_natCast]
    refine fun D2 nD2 => lc_it (walk_range (lo := 0) (n := md)) (LcPv (RMap fun i => V.bl (decide (i = rest))) H2 D2) (pv_start nD2 rfl) (fun _ _ _ _ => True.intro) ?_ ?_
    · rintro i y H4 H5 hi ⟨acc2, eD3, hl2, sm2, r2⟩ ⟨rfl, ey⟩
      have ey2 : y = nV i := by rw [ey]; simp
      subst ey2
      refine ⟨rfl, _, rfl, _, rfl, rfl, ?_⟩
      exact pv_push eD3 hl2 sm2 (Same.refl _) (by omega) (rmap_push r2 (by
        congr 1
        rw [decide_eq_decide]
        constructor
        · intro z
          have := V.int.inj z
          omega
        · intro z
          rw [z]))
    rintro H4 ⟨acc2, eD3, hl2, sm2, r2⟩
    have s4 := sm_trans sm2 hid_sub
    refine ⟨by show 2 ≤ sizeLine; decide, fun p3 n3 => ?_⟩
    have s5 : Same H4 (upd H4 p3 (.tup [.ref D, .ref D2])) := same_new n3
    have s25 := sm_trans s4 s5
    have s05 := sm_trans s02 s25
    have hp1 : upd H4 p3 (.tup [.ref D, .ref D2]) D = some (.lst (rs.map V.ref)) := s25 _ _ (by rw [eD, e1])
    refine sup_ok (T := modTab L m md rest) (s05 _ _ hx) F.mem (hv.same s05) hL upd_same (rowsAt_of (rs := rs) (.inl (SqL.of hp1)) (by rw [modTab_len, e2]) fun i a ea => ?_) (.inl (SqL.of (s5 _ _ (by rw [eD3, show acc2 = _ from r2]; unfold modTab; rw [List.map_map] <;> rfl))))
      (modTab_ok L m h1) (by rw [modTab_len]; omega) ⟨modTab L m md rest, modTab_ok L m h1, fun w _ => rfl, by rw [modTab_len]; omega⟩ fun T' r' t' H' sx hx' hq lg => ?_
    · obtain ⟨hi, ha⟩ := e3 i a ea
      refine ⟨byM L m ((i + 1) % md) i, ?_, .inl (SqL.of (s25 _ _ (hid_sub _ _ ha)))⟩
      unfold modTab
      show (List.map _ _)[i]? = _
      rw [List.getElem?_map, List.getElem?_range hi] <;> rfl
    · refine ⟨_, rfl, _, rfl, x, C, dx, _, rfl, hx', (Z.cq F.mem).cls, (Z.cq F.mem).na _ (by simp [fieldNames]), by show 3 < 1000; decide, ?_⟩
      have hq1 := hq.put (f := "mark") (y := .str (Sg [m])) hx' (by decide)
      refine ⟨_, rfl, _, rfl, x, C, dx, _, rfl, upd_same, (Z.cq F.mem).cls, (Z.cq F.mem).na _ (by simp [fieldNames]), by rw [putF_new (f := Str.ofString "mark") rfl]; show 4 < 1000; decide, ?_⟩
      have hq2 := hq1.put (f := "modulus") (y := nV md) upd_same (by decide)
      refine ⟨_, rfl, _, rfl, x, C, dx, _, rfl, upd_same, (Z.cq F.mem).cls, (Z.cq F.mem).na _ (by simp [fieldNames]), by rw [putF_new (f := Str.ofString "mark") rfl, putF_new (f := Str.ofString "modulus") rfl]; show 5 < 1000; decide, ?_⟩
      have hq3 := hq2.put (f := "rest") (y := nV rest) upd_same (by decide)
      exact kk T' _ ((((SameX.after s05 sx).put (by simp)).put (by simp)).put (by simp)) hq3 fun w hw => (lg w hw).trans (modTab_lang h1 hw)
end
end LW
end
section
set_option Elab.async false
set_option linter.all false
set_option maxRecDepth 100000
set_option maxHeartbeats 2000000
/-! Ends(..) -/
namespace LW
open PySem PySem.Spec PyProof.Rows L2
abbrev st_Ends_init : Stmt := meth 55 0
theorem sc_Ends_init : SScope ["self", "values", "opening", "closing", "later", "begin", "lost", "letter", "state"] ["self", "values", "opening", "closing"] (defScope st_Ends_init) := ⟨rfl, rfl, rfl, by decide +kernel, rfl, by decide +kernel, by decide +kernel, rfl, by decide +kernel⟩
def laterRow (L b : List Nat) : List Nat := L.map fun y => if y ∈ b then 2 else 1
def beginRow (L a b : List Nat) : List Nat := L.map fun y => if y ∈ a then (if y ∈ b then 2 else 1) else 3
def endsTab (L a b : List Nat) : LS.Tb := ⟨[beginRow L a b, laterRow L b, laterRow L b, L.map fun _ => 3], [false, false, true, false]⟩
/-- the last sign is of b -/
def lastIn (L b : List Nat) (w : List Nat) : Bool := decide (∃ x, w.getLast? = some x ∧ L.getD x 0 ∈ b)
def firstIn (L a : List Nat) (w : List Nat) : Bool := decide (∃ x, w.head? = some x ∧ L.getD x 0 ∈ a)
theorem endsTab_ok (L a b : List Nat) : (endsTab L a b).Ok L.length := by
  refine ⟨rfl, by show 0 < 4; decide, fun r hr => ?_, fun r hr q hq => ?_⟩
  · simp only [endsTab, List.mem_cons, List.not_mem_nil, or_false] at hr
    rcases hr with rfl | rfl | rfl | rfl <;> exact List.length_map _
  · show q < 4
    simp only [endsTab, List.mem_cons, List.not_mem_nil, or_false] at hr
    rcases hr with rfl | rfl | rfl | rfl
    · obtain ⟨y, _, rfl⟩ := List.mem_map.mp hq
      split
      · split <;> omega
      · omega
    · obtain ⟨y, _, rfl⟩ := List.mem_map.mp hq
      split <;> omega
    · obtain ⟨y, _, rfl⟩ := List.mem_map.mp hq
      split <;> omega
    · obtain ⟨y, _, rfl⟩ := List.mem_map.mp hq
      omega
theorem map_getD_at {L : List Nat} {g : Nat → Nat} {x q : Nat} (h : x < L.length) : (L.map g).getD x q = g (L.getD x 0) := by
  rw [LS.getD_at (by rw [List.length_map]; exact h), List.getElem_map, LS.getD_at h]
theorem ends_lost {L a b : List Nat} : ∀ {w : List Nat}, LS.Wd L.length w → LS.go (endsTab L a b).nx 3 w = 3
  | [], _ => rfl
  | x :: w, h => by
    rw [go_cons]
    show LS.go _ ((L.map fun _ => 3).getD x 3) w = 3
    rw [map_getD_at h.head]
    exact ends_lost h.tail
theorem ends_later {L a b : List Nat} : ∀ {w : List Nat} {q : Nat}, (q = 1 ∨ q = 2) → LS.Wd L.length w → LS.go (endsTab L a b).nx q w = match w.getLast? with
    | none => q
    | some x => if L.getD x 0 ∈ b then 2 else 1
  | [], q, _, _ => rfl
  | x :: w, q, hq, h => by
    rw [go_cons]
    have e : ((endsTab L a b).nx q).getD x q = if L.getD x 0 ∈ b then 2 else 1 := by
      rcases hq with rfl | rfl
      · show (laterRow L b).getD x 1 = _
        unfold laterRow
        rw [map_getD_at h.head]
      · show (laterRow L b).getD x 2 = _
        unfold laterRow
        rw [map_getD_at h.head]
    rw [e, ends_later (by split <;> simp) h.tail]
    cases w with
    | nil => rfl
    | cons z r => rw [List.getLast?_cons_cons]; rw [List.getLast?_cons]
theorem endsTab_lang {L a b : List Nat} {w : List Nat} (hw : LS.Wd L.length w) : (endsTab L a b).lang w = (firstIn L a w && lastIn L b w) := by
  unfold LS.Tb.lang
  cases w with
  | nil => simp [firstIn, LS.go, LS.Tb.acc, endsTab]
  | cons x w =>
    rw [go_cons]
    have e : ((endsTab L a b).nx 0).getD x 0 = if L.getD x 0 ∈ a then (if L.getD x 0 ∈ b then 2 else 1) else 3 := by
      show (beginRow L a b).getD x 0 = _
      unfold beginRow
      rw [map_getD_at hw.head]
    rw [e]
    have ef : firstIn L a (x :: w) = decide (L.getD x 0 ∈ a) := by
      unfold firstIn
      rw [decide_eq_decide]
      simp
    rw [ef]
    by_cases ha : L.getD x 0 ∈ a
    · rw [if_pos ha, decide_eq_true ha, Bool.true_and, ends_later (by split <;> simp) hw.tail]
      have el : lastIn L b (x :: w) = decide (L.getD ((x :: w).getLast (List.cons_ne_nil _ _)) 0 ∈ b) := by
        unfold lastIn
        rw [decide_eq_decide, List.getLast?_eq_some_getLast (List.cons_ne_nil _ _)]
        simp
      rw [el]
      cases w with
      | nil =>
        show (endsTab L a b).acc (if L.getD x 0 ∈ b then 2 else 1) = decide (L.getD x 0 ∈ b)
        by_cases hb : L.getD x 0 ∈ b
        · rw [if_pos hb, decide_eq_true hb] <;> rfl
        · rw [if_neg hb, decide_eq_false hb] <;> rfl
      | cons z r =>
        rw [List.getLast?_eq_some_getLast (List.cons_ne_nil _ _), List.getLast_cons (List.cons_ne_nil _ _)]
        show (endsTab L a b).acc (if L.getD ((z :: r).getLast _) 0 ∈ b then 2 else 1) = _
        by_cases hb : L.getD ((z :: r).getLast (List.cons_ne_nil _ _)) 0 ∈ b
        · rw [if_pos hb, decide_eq_true hb] <;> rfl
        · rw [if_neg hb, decide_eq_false hb] <;> rfl
    · rw [if_neg ha, decide_eq_false ha, Bool.false_and, ends_lost hw.tail] <;> rfl
def spEnds (c : Cs) (C : Addr) : Sp := fun vs H Q _ => ∃ (x v dx : Addr) (L a b : List Nat), vs = [.ref x, .ref v, .str (Sg a), .str (Sg b)] ∧ H x = some (.ins C dx []) ∧ ValO c H v L ∧ L.length ≤ 4 ∧ L.Nodup ∧ a.length ≤ 4 ∧ a.Nodup ∧ (∀ y ∈ a, y ∈ L) ∧ b.length ≤ 4 ∧ b.Nodup ∧ (∀ y ∈ b, y ∈ L) ∧
  ∀ T' H', SameX [x] H H' → ClueO c H' x v L T' → (∀ w, LS.Wd L.length w → T'.lang w = (firstIn L a w && lastIn L b w)) → Q .non H'
section
variable {P : Program} {w : World} {K : PySem.W.Frag} {mg : Str → Option Value} {base : Heap} {c : Cs} {C f : Addr}
theorem c_Ends_init (Z : TC K mg c) (F : KindF P K mg c "Ends.__init__" st_Ends_init .none C f) : FnR P w K mg base CX0 6 f (spEnds c C) := by
  have T := Z.T
  have c_need_values := c_need_values (P := P) (w := w) (base := base) Z
  have c_needed_cell := c_needed_cell (P := P) (w := w) (base := base) Z
  have c_Cell_contains := c_Cell_contains (P := P) (w := w) (base := base) Z
  have c_Clue_init := c_Clue_init (P := P) (w := w) (base := base) Z
  refine F.fn sc_Ends_init (by decide +kernel) (fun _ _ _ _ _ _ _ us hl => match us, hl with | [_, _, _, _], _ => rfl) (fun vs H Q E h => ?_) (fun cda cc sf A outer s H vs Q E hr h => ?_)
  · obtain ⟨x, v, dx, L, a, b, rfl, _⟩ := h
    rfl
  · obtain ⟨x, v, dx, L, a, b, rfl, hx, hv, hL, hLn, ha1, ha2, ha3, hb1, hb2, hb3, kk⟩ := h
--TERM Ends.__init__
    refine ⟨_, (pssA_cons (ps_expr (pe_cal c_need_values (by decide) hr (pa_cons (pv 1) pa_nil)))
  (pssA_cons (ps_set (i := 2) sc_Ends_init.nd rfl (Or.inr rfl) (pe_cal c_needed_cell (by decide) hr (pa_cons (pv 1) (pa_cons (pv 2) (pa_cons pe_str pa_nil)))))
  (pssA_cons (ps_set (i := 3) sc_Ends_init.nd rfl (Or.inr rfl) (pe_cal c_needed_cell (by decide) hr (pa_cons (pv 1) (pa_cons (pv 3) (pa_cons pe_str pa_nil)))))
  (pssA_cons (ps_setLc (i := 4) (own := [("letter", 7)]) rfl sc_Ends_init.nd rfl rfl (sw_true rfl rfl rfl (by decide +kernel)) (pi_str (pe_fldK K (pv 1))) (blkOk_by (own := [("letter", 7)]) (by kernel_rfl)) (fun _ _ _ _ _ => (pg_name (i := 7) sc_Ends_init.nd rfl (Or.inl rfl))) (fun _ _ _ _ _ => pts_nil) (fun _ _ _ _ _ => (pe_ifExp (pt_cmpR (op_ownInK K c_Cell_contains (hr.mono (by decide))) (pv 7) (pv 3) (by rfl)) pe_int pe_int)))
  (pssA_cons (ps_setLc (i := 5) (own := [("letter", 7), ("state", 8)]) rfl sc_Ends_init.nd rfl rfl (sw_true rfl rfl rfl (by decide +kernel)) (pi_zipS K T.b_zip (pa_cons (pe_fldK K (pv 1)) (pa_cons (pv 4) pa_nil))) (blkOk_by (own := [("letter", 7), ("state", 8)]) (by kernel_rfl)) (fun _ _ _ _ _ => (pg_tupK K (n := 2) (pgs_cons (pg_name (i := 7) sc_Ends_init.nd rfl (Or.inl rfl) (.inr rfl)) (pgs_cons (pg_name (i := 8) sc_Ends_init.nd rfl (Or.inl rfl) (.inr rfl)) pgs_nil)))) (fun _ _ _ _ _ => pts_nil) (fun _ _ _ _ _ => (pe_ifExp (pt_cmpR (op_ownInK K c_Cell_contains (hr.mono (by decide))) (pv 7) (pv 2) (by rfl)) (pv 8) pe_int)))
  (pssA_cons (ps_setLc (i := 6) (own := [("letter", 7)]) rfl sc_Ends_init.nd rfl rfl (sw_true rfl rfl rfl (by decide +kernel)) (pi_str (pe_fldK K (pv 1))) (blkOk_by (own := [("letter", 7)]) (by kernel_rfl)) (fun _ _ _ _ _ => (pg_name (i := 7) sc_Ends_init.nd rfl (Or.inl rfl))) (fun _ _ _ _ _ => pts_nil) (fun _ _ _ _ _ => pe_int))
  (pssA_super sc_Ends_init rfl rfl sf F.su rfl c_Clue_init (by decide) hr (pa_cons (pv 1) (pa_cons (pe_tup (pa_cons (pe_lst (pa_cons (pv 5) (pa_cons (pv 4) (pa_cons (pv 4) (pa_cons (pv 6) pa_nil))))) (pa_cons (pe_lst (pa_cons pe_bl (pa_cons pe_bl (pa_cons pe_bl (pa_cons pe_bl pa_nil))))) pa_nil))) pa_nil))
  (pssA_of (pss_cons (ps_fldK K (pv 0) (pv 2))
  (pss_one (ps_fldK K (pv 0) (pv 3)))))))))))), ?_⟩
--END
    obtain ⟨dv, hv0⟩ := id hv
    refine ⟨_, rfl, v, L, rfl, hv, ?_⟩
    refine ⟨_, rfl, _, rfl, v, L, a, _, rfl, hv, by omega, hLn, by omega, ha2, ha3, fun po ao H1 hao s1 hpo => ?_⟩
    refine ⟨_, rfl, _, rfl, v, L, b, _, rfl, hv.same s1, by omega, hLn, by omega, hb2, hb3, fun pc bc H2 hbc s12 hpc => ?_⟩
    have s2 := sm_trans s1 s12
    have hpo2 := hpo.same s12
    -- later
    refine ⟨_, rfl, v, _, _, _, _, rfl, s2 _ _ hv0, Z.vl.cls, Z.vl.na _ (by simp [fieldNames]), rfl, Sg L, rfl, lc_txt (fun D => LcPv (RMap fun i => nV (if L.getD i 0 ∈ b then 2 else 1)) H2 D) (fun D nD => pv_start nD rfl) ?_ ?_⟩
    · rintro D i y H3 nD hy ⟨acc, eD, hl, sm, r⟩
      have hi : i < L.length := (List.getElem?_eq_some_iff.mp hy).1
      have hy2 : L.getD i 0 = y := by rw [List.getD_eq_getElem?_getD, hy] <;> rfl
      have s3 := sm_trans sm hid_sub
      obtain ⟨dxc, vc, nc, hc⟩ := hpc.same s3
      refine ⟨rfl, _, rfl, _, rfl, pc, _, _, _, rfl, hc, Z.s_cin, pc, bc, y, rfl, ⟨dxc, vc, nc, hc⟩, _, rfl, _, rfl, ?_⟩
      by_cases hb : y ∈ b
      · rw [decide_eq_true ((hbc y).mpr hb)]
        exact iteT (pv_push eD hl sm (Same.refl _) (by omega) (rmap_push r (by rw [hy2, if_pos hb] <;> rfl)))
      · rw [decide_eq_false fun z => hb ((hbc y).mp z)]
        exact iteF (pv_push eD hl sm (Same.refl _) (by omega) (rmap_push r (by rw [hy2, if_neg hb] <;> rfl)))
    rintro D H3 nD ⟨acc, eD, hl, sm, r⟩
    have s23 := sm_trans sm hid_sub
    have s3 := sm_trans s2 s23
    have eD3 : H3 D = some (.lst ((laterRow L b).map nV)) := by
      rw [eD, show acc = _ from r, map_range_getD L 0 fun y => nV (if y ∈ b then 2 else 1)]
      unfold laterRow
      rw [List.map_map] <;> rfl
    -- begin
    refine ⟨_, rfl, v, _, _, _, _, rfl, s3 _ _ hv0, Z.vl.cls, Z.vl.na _ (by simp [fieldNames]), rfl, _, rfl, .txt (Sg L), .lst D, _, _, rfl, chars_S L, SqL.of eD3, fun B nB => lc_it (walk_zipS (K := K) (n := L.length) (by unfold laterRow; simp [chars_S])) (LcPv (RMap fun i => nV (if L.getD i 0 ∈ a then (if L.getD i 0 ∈ b then 2 else 1) else 3)) H3 B) (pv_start nB rfl) (fun i H' _ p => ⟨chars_S L, SqL.of (pv_same p _ _ eD3)⟩) ?_ ?_⟩
    · rintro i z H4 H5 hi ⟨acc2, eB, hl2, sm2, r2⟩ ⟨t, y1, y2, rfl, nt, rfl, e1, e2⟩
      obtain ⟨y, ey, rfl⟩ := of_map_at e1
      obtain ⟨q, eq', rfl⟩ := of_map_at e2
      have hy2 : L.getD i 0 = y := by rw [List.getD_eq_getElem?_getD, ey] <;> rfl
      have hq : q = if y ∈ b then 2 else 1 := by
        unfold laterRow at eq'
        rw [List.getElem?_map, ey] at eq'
        exact (Option.some.inj eq').symm
      have s45 : Same H4 (upd H4 t (.tup [.str (Sg [y]), nV q])) := same_new nt
      have s35 := sm_trans (sm_trans sm2 hid_sub) s45
      obtain ⟨dxc, vc, nc, hc⟩ := hpo2.same (sm_trans s23 s35)
      refine ⟨t, _, rfl, SqT.of upd_same, rfl, _, _, rfl, _, _, rfl, rfl, rfl, ?_⟩
      refine ⟨_, rfl, _, rfl, po, _, _, _, rfl, hc, Z.s_cin, po, ao, y, rfl, ⟨dxc, vc, nc, hc⟩, _, rfl, _, rfl, ?_⟩
      by_cases ha : y ∈ a
      · rw [decide_eq_true ((hao y).mpr ha)]
        exact iteT ⟨_, rfl, pv_push eB hl2 sm2 s45 (by omega) (rmap_push r2 (by rw [hy2, if_pos ha, hq] <;> rfl))⟩
      · rw [decide_eq_false fun z => ha ((hao y).mp z)]
        exact iteF (pv_push eB hl2 sm2 s45 (by omega) (rmap_push r2 (by rw [hy2, if_neg ha] <;> rfl)))
    rintro H4 ⟨acc2, eB, hl2, sm2, r2⟩
    have s34 := sm_trans sm2 hid_sub
    have s4 := sm_trans s3 s34
    have eB2 : H4 B = some (.lst ((beginRow L a b).map nV)) := by
      rw [eB, show acc2 = _ from r2, map_range_getD L 0 fun y => nV (if y ∈ a then (if y ∈ b then 2 else 1) else 3)]
      unfold beginRow
      rw [List.map_map] <;> rfl
    have eD4 := s34 _ _ eD3
    -- lost
    refine ⟨_, rfl, v, _, _, _, _, rfl, s4 _ _ hv0, Z.vl.cls, Z.vl.na _ (by simp [fieldNames]), rfl, Sg L, rfl, lc_txt (fun W => LcPv (RMap fun _ => nV 3) H4 W) (fun W nW => pv_start nW rfl) ?_ ?_⟩
    · rintro W i y H5 nW hy ⟨acc3, eW, hl3, sm3, r3⟩
      have hi : i < L.length := (List.getElem?_eq_some_iff.mp hy).1
      exact ⟨rfl, pv_push eW hl3 sm3 (Same.refl _) (by omega) (rmap_push r3 rfl)⟩
    rintro W H5 nW ⟨acc3, eW, hl3, sm3, r3⟩
    have s45 := sm_trans sm3 hid_sub
    have s5 := sm_trans s4 s45
    have eW2 : H5 W = some (.lst ((L.map fun _ => 3).map nV)) := by
      rw [eW, show acc3 = _ from r3, map_range_getD L 0 fun _ => nV 3, List.map_map] <;> rfl
    refine ⟨x, dx, [], rfl, s5 _ _ hx, _, rfl, _, rfl, _, rfl, _, rfl, _, rfl, by show 4 ≤ sizeLine; decide, fun p1 n1 => ⟨by show 4 ≤ sizeLine; decide, fun p2 n2 => ⟨by show 2 ≤ sizeLine; decide, fun p3 n3 => ?_⟩⟩⟩
    have s6 : Same H5 (upd H5 p1 (.lst [.ref B, .ref D, .ref D, .ref W])) := same_new n1
    generalize hH6 : upd H5 p1 _ = H6 at s6 n2 n3 ⊢
    have s7 : Same H6 (upd H6 p2 (.lst [.bl false, .bl false, .bl true, .bl false])) := same_new n2
    generalize hH7 : upd H6 p2 _ = H7 at s7 n3 ⊢
    have s8 : Same H7 (upd H7 p3 (.tup [.ref p1, .ref p2])) := same_new n3
    have s58 := sm_trans s6 (sm_trans s7 s8)
    have s08 := sm_trans s5 s58
    refine sup_ok (T := endsTab L a b) (s08 _ _ hx) F.mem (hv.same s08) hL upd_same (rowsAt_of (rs := [B, D, D, W]) (.inl (SqL.of (s8 _ _ (s7 _ _ (by rw [← hH6]; exact upd_same))))) rfl fun i r0 er => ?_) (.inl (SqL.of (s8 _ _ (by rw [← hH7]; exact upd_same))))
      (endsTab_ok L a b) (by show 4 ≤ 1000; decide) ⟨endsTab L a b, endsTab_ok L a b, fun w _ => rfl, by show 4 ≤ 64; decide⟩ fun T' r' t' H' sx hx' hq lg => ?_
    · have hB := s58 _ _ (s45 _ _ eB2)
      have hD := s58 _ _ (s45 _ _ eD4)
      have hW := s58 _ _ eW2
      match i, er with
      | 0, er => cases Option.some.inj er; exact ⟨_, rfl, .inl (SqL.of hB)⟩
      | 1, er => cases Option.some.inj er; exact ⟨_, rfl, .inl (SqL.of hD)⟩
      | 2, er => cases Option.some.inj er; exact ⟨_, rfl, .inl (SqL.of hD)⟩
      | 3, er => cases Option.some.inj er; exact ⟨_, rfl, .inl (SqL.of hW)⟩
      | i + 4, er => cases er
    · refine ⟨_, rfl, _, rfl, x, C, dx, _, rfl, hx', (Z.cq F.mem).cls, (Z.cq F.mem).na _ (by simp [fieldNames]), by show 3 < 1000; decide, ?_⟩
      have hq1 := hq.put (f := "opening") (y := .ref po) hx' (by decide)
      refine ⟨_, rfl, _, rfl, x, C, dx, _, rfl, upd_same, (Z.cq F.mem).cls, (Z.cq F.mem).na _ (by simp [fieldNames]), by rw [putF_new (f := Str.ofString "opening") rfl]; show 4 < 1000; decide, ?_⟩
      have hq2 := hq1.put (f := "closing") (y := .ref pc) upd_same (by decide)
      exact kk T' _ (((SameX.after s08 sx).put (by simp)).put (by simp)) hq2 fun w hw => (lg w hw).trans (endsTab_lang hw)
end
end LW
end
section
set_option Elab.async false
set_option linter.all false
set_option maxRecDepth 100000
set_option maxHeartbeats 2000000
/-! kinds that make a lambda; Runs -/
namespace LW
open PySem PySem.Spec PyProof.Rows L2 LamX
def lamQ (qual : Str) : Str := (envS qual (defScope (top 0)) 0 0 .none 0).qual ++ "<lambda>"
structure KindM (P : Program) (K : PySem.W.Frag) (mg : Str → Option Value) (base : Heap) (c : Cs) (TT : List (Addr × Str)) (qual : Str) (st : Stmt) (C f : Addr) : Prop where
  ex : ∃ (cda cc tab : Addr) (oc : Value) (od : Option Addr) (osl : Array (Option Value)) (kV doc pm : Value) (an : Option Addr) (ct : Value),
    K.lookup f = some ⟨oc, od, .func (fnS "__init__" qual (defArgs st) (defBody st) (defScope st) .none kV doc pm an (.ref cda) ct cc), osl⟩ ∧ PySem.W.codeIn K (.ref cda) qual = true ∧ SupF P K f cda cc C c.fClue "self" ∧
      TabB base mg cda tab ∧ (tab, lamQ qual) ∈ TT ∧ ∀ p ∈ TT, p.1 = tab → p.2 = lamQ qual
  su : mg "super" = none
  mak : Mk K C f
  mem : C ∈ c.clues
/-- all but the tables and the things in ex stay -/
def ExtX (ex : List Addr) (H H' : Hp) : Prop := ∀ b o, b ∉ ex → H b = some o → (∀ ps, o ≠ .tbl ps) → H' b = some o
theorem ExtX.of {ex : List Addr} {H H1 H' : Hp} (a : ExtN H H1) (b : SameX ex H1 H') : ExtX ex H H' := fun d o n e t => b d o n (a d o e t)
theorem Tabs.sameX {T : List (Addr × Str)} {ex : List Addr} {H H' : Hp} (t : Tabs T H) (e : SameX ex H H') (n : InsAt ex H) : Tabs T H' := fun p hp => by
  obtain ⟨ps, h1, h2, h3⟩ := t p hp
  refine ⟨ps, e _ _ (n.ne h1 fun _ _ _ z => by cases z) h1, h2, fun pos cv hc => ?_⟩
  obtain ⟨c', e1, e2⟩ := h3 pos cv hc
  exact ⟨c', e1, e _ _ (n.ne e2 fun _ _ _ z => by unfold CodeO at z; cases z) e2⟩
theorem ValO.extN {c : Cs} {H H' : Hp} {v : Addr} {L : List Nat} (e : ExtN H H') (h : ValO c H v L) : ValO c H' v L := let ⟨dx, h⟩ := h; ⟨dx, e _ _ h fun ps z => by cases z⟩
theorem RowsT.extN {H H' : Hp} {r : Addr} {st : List (List Nat)} (e : ExtN H H') (h : RowsT H r st) : RowsT H' r st := by
  obtain ⟨rs, h1, h2, h3⟩ := h
  exact ⟨rs, e _ _ h1 (fun ps z => by cases z), h2, fun i a row e1 e2 => e _ _ (h3 i a row e1 e2) fun ps z => by cases z⟩
theorem ClueO.extN {c : Cs} {H H' : Hp} {q v : Addr} {L : List Nat} {T : LS.Tb} (e : ExtN H H') (h : ClueO c H q v L T) : ClueO c H' q v L T := by
  obtain ⟨C, dx, fs, r, t, h1, h2, h3, h4, h5, h6, h7, h8⟩ := h.ex
  exact ⟨⟨C, dx, fs, r, t, e _ _ h1 (fun ps z => by cases z), h2, h3, h4, h5, h6, h7.extN e, e _ _ h8 (fun ps z => by cases z)⟩, h.val.extN e, h.can, h.sz⟩
section
variable {P : Program} {w : World} {K : PySem.W.Frag} {mg : Str → Option Value} {base : Heap} {c : Cs} {C f : Addr} {TT : List (Addr × Str)}
theorem KindM.star {qual : Str} {st : Stmt} {N ps : List Str} {pv : Str} {k : Nat} {sp : Sp} (g : KindM P K mg base c TT qual st C f) (S : SScope N (ps ++ [pv]) (defScope st)) (hps : ∀ x ∈ ps ++ [pv], x ≠ ("__class__" : Str))
    (hb : ∀ (kV doc pm : Value) (an : Option Addr) (cda : Addr) (ct : Value) (cc : Addr) (us rest : List Value), us.length = ps.length → bindArgs (fnS "__init__" qual (defArgs st) (defBody st) (defScope st) .none kV doc pm an (.ref cda) ct cc) ⟨us ++ rest, []⟩ = (newTuple rest >>= fun t => pure (ps.zip us ++ [(pv, t)])))
    (hbody : ∀ (cda cc tab : Addr) (_ : SupF P K f cda cc C c.fClue "self") (_ : TabB base mg cda tab) (_ : (tab, lamQ qual) ∈ TT) (_ : ∀ p ∈ TT, p.1 = tab → p.2 = lamQ qual) (A : Around) (outer : List Env) (s : Shared) (H : Hp) (vs : List V) (Q : VK) (E : XK), Room k (A.deeper (envS qual (defScope st) s.heap.objs.size f (.ref cda) cc)) → sp vs H Q E →
      ∃ t, PSsA (cxS CX0 P w K mg base N qual (defScope st) f (.ref cda) cc A outer s H E).nox (defBody st) (defBody st) t ∧ t { nx := fun _ H' => Q .non H', rt := Q } (L2.start N vs) H) :
    FnR P w K mg base CX0 (k + 1) f (fun vs H Q E => ∃ ws rest, vs = ws ++ rest ∧ ws.length = ps.length ∧ rest.length ≤ sizeLine ∧ ∀ p, H p = Option.none → sp (ws ++ [V.ref p]) (upd H p (.tup rest)) Q E) := by
  obtain ⟨cda, cc, tab, oc, od, osl, kV, doc, pm, an, ct, lk, hcd, sf, tb, t1, t2⟩ := g.ex
  intro A outer s H us vs Q E hr e0 r hsp
  exact fnS_star lk hcd S (sf.base e0.mod) hps (fun us rest hl => hb kV doc pm an cda ct cc us rest hl) (fun A outer s H vs Q E hr h => hbody cda cc tab sf tb t1 t2 A outer s H vs Q E hr h) A outer s H us vs Q E hr e0 r hsp
end
end LW
end
section
set_option Elab.async false
set_option linter.all false
set_option maxRecDepth 100000
set_option maxHeartbeats 2000000
/-! Runs(..) -/
namespace LW
open PySem PySem.Spec PyProof.Rows L2 LamX
abbrev st_Runs_init : Stmt := meth 51 0
theorem sc_Runs_init : SScope ["self", "values", "mark", "lengths"] ["self", "values", "mark", "lengths"] (defScope st_Runs_init) := ⟨rfl, rfl, rfl, by decide +kernel, rfl, by decide +kernel, by decide +kernel, rfl, by decide +kernel⟩
theorem runTab_len {L : List Nat} {m : Nat} {ls : List Nat} (h : ∀ r ∈ ls, 1 ≤ r) : (runTab L m ls).st.length = ls.sum + ls.length + 2 := by
  unfold runTab
  simp [runRows_len h]
theorem runRows_mem {L : List Nat} {m lost : Nat} : ∀ (ls : List Nat) (R : List (List Nat)) (b : Nat), (∀ r ∈ ls, 1 ≤ r) → (∀ row ∈ R, row.length = L.length ∧ ∀ q ∈ row, q ≤ b) → lost ≤ b → R.length + (ls.sum + ls.length) ≤ b →
    ∀ row ∈ ls.foldl (fun R r => R ++ runBlock L m lost R.length r) R, row.length = L.length ∧ ∀ q ∈ row, q ≤ b
  | [], R, b, _, h, _, _ => h
  | r :: ls, R, b, hr, h, hl, hz => by
    rw [List.foldl_cons]
    rw [List.sum_cons, List.length_cons] at hz
    have h1 := hr r List.mem_cons_self
    refine runRows_mem ls _ b (fun x hx => hr x (List.mem_cons_of_mem _ hx)) (fun row hrow => ?_) hl (by rw [List.length_append, block_len h1]; omega)
    rcases List.mem_append.mp hrow with z | z
    · exact h row z
    · unfold runBlock at z
      rw [List.cons_append] at z
      have mem : ∃ on off, row = byM L m on off ∧ on ≤ b ∧ off ≤ b := by
        rcases List.mem_cons.mp z with z | z
        · exact ⟨_, _, z, by omega, by omega⟩
        · rcases List.mem_append.mp z with z | z
          · obtain ⟨j, hj, rfl⟩ := List.mem_map.mp z
            have := List.mem_range.mp hj
            exact ⟨_, _, rfl, by omega, hl⟩
          · rw [List.mem_singleton] at z
            exact ⟨_, _, z, hl, by omega⟩
      obtain ⟨on, off, rfl, g1, g2⟩ := mem
      refine ⟨byM_len, fun q hq => ?_⟩
      rcases byM_mem hq with e | e
      · rw [e]; exact g1
      · rw [e]; exact g2
theorem runTab_ok {L : List Nat} {m : Nat} {ls : List Nat} (h : ∀ r ∈ ls, 1 ≤ r) : (runTab L m ls).Ok L.length := by
  have hl := runTab_len (L := L) (m := m) h
  have hrl := runRows_len (L := L) (m := m) (lost := runLost ls) h
  have all : ∀ row ∈ (runTab L m ls).st, row.length = L.length ∧ ∀ q ∈ row, q ≤ ls.sum + ls.length + 1 := fun row hrow => by
    unfold runTab at hrow
    rcases List.mem_append.mp hrow with z | z
    · rcases List.mem_append.mp z with z | z
      · exact runRows_mem ls [] (ls.sum + ls.length + 1) h (fun r hr => by cases hr) (Nat.le_refl _) (by simp) row z
      · rw [List.mem_singleton] at z
        subst z
        refine ⟨byM_len, fun q hq => ?_⟩
        rw [hrl] at hq
        rcases byM_mem hq with e | e
        · rw [e]; exact Nat.le_refl _
        · omega
    · rw [List.mem_singleton] at z
      subst z
      refine ⟨byM_len, fun q hq => ?_⟩
      rcases byM_mem hq with e | e
      · rw [e]; exact Nat.le_refl _
      · rw [e]; exact Nat.le_refl _
  refine ⟨by rw [hl]; unfold runTab; simp [hrl], by rw [hl]; omega, fun r hr => (all r hr).1, fun r hr q hq => ?_⟩
  have := (all r hr).2 q hq
  rw [hl]
  omega
def spRuns (c : Cs) (C : Addr) (TT : List (Addr × Str)) : Sp := fun vs H Q _ => ∃ (x v dx p : Addr) (L : List Nat) (m : Nat) (ls : List Nat), vs = [.ref x, .ref v, .str (Sg [m]), .ref p] ∧ H x = some (.ins C dx []) ∧ ValO c H v L ∧ L.length ≤ 4 ∧ m ∈ L ∧ H p = some (.tup (ls.map nV)) ∧ ls.length ≤ 8 ∧ (∀ r ∈ ls, 1 ≤ r ∧ r ≤ 30) ∧
  ls.sum + ls.length + 2 ≤ 64 ∧ Tabs TT H ∧ ∀ T' H', ExtX [x] H H' → Tabs TT H' → ClueO c H' x v L T' → (∀ w, LS.Wd L.length w → T'.lang w = (runTab L m ls).lang w) → Q .non H'
section
variable {P : Program} {w : World} {K : PySem.W.Frag} {mg : Str → Option Value} {base : Heap} {c : Cs} {C f : Addr} {TT : List (Addr × Str)}
theorem c_Runs_init (Z : TC K mg c) (F : KindM P K mg base c TT "Runs.__init__" st_Runs_init C f) : FnR P w K mg base CX0 6 f (fun vs H Q E => ∃ ws rest, vs = ws ++ rest ∧ ws.length = 3 ∧ rest.length ≤ sizeLine ∧ ∀ p, H p = Option.none → spRuns c C TT (ws ++ [V.ref p]) (upd H p (.tup rest)) Q E) := by
  have T := Z.T
  have c_need_mark := c_need_mark (P := P) (w := w) (base := base) Z
  have c_is_whole := c_is_whole (P := P) (w := w) (base := base) T
  have c_table_of_runs := c_table_of_runs (P := P) (w := w) (base := base) Z
  have c_Clue_init := c_Clue_init (P := P) (w := w) (base := base) Z
  refine F.star (ps := ["self", "values", "mark"]) (pv := "lengths") sc_Runs_init (by decide +kernel) (fun _ _ _ _ _ _ _ us rest hl => match us, hl, rest with | [_, _, _], _, [] => rfl | [_, _, _], _, _ :: _ => rfl) (fun cda cc tab sf tb tm tu A outer s H vs Q E hr h => ?_)
  · obtain ⟨x, v, dx, p, L, m, ls, rfl, hx, hv, hL, hm, hp, hz1, hz2, hz3, hT, kk⟩ := h
--TERM Runs.__init__
    refine ⟨_, (pssA_cons (ps_expr (pe_cal c_need_mark (by decide) hr (pa_cons (pv 1) (pa_cons (pv 2) pa_nil))))
  (pssA_cons (ps_if (pt_cmpR op_gt (pe_callB (call_lenK K) (by rfl) T.b_len PySem.boot_len (pa_cons (pv 3) pa_nil)) (pe_gci rfl T.g_MOST_RUNS) (nomark _)) (pss_one ps_never)
  pss_nil)
  (pssA_cons (ps_expr (pe_items T tb rfl tm tu hr (pv 3) (show LamS1 (defScope st_Runs_init) _ _ from ⟨rfl, rfl, rfl, rfl, by decide +kernel, by decide +kernel⟩) (show ¬ (("length" : Str) ∈ (["self", "values", "mark", "lengths"] : List Str)) from by decide +kernel) rfl (fun _ _ _ _ _ _ => rfl) (fun A outer s H f' c' hr2 => (pe_cal c_is_whole (by decide) hr2 (pa_cons (pv 4) (pa_cons pe_int (pa_cons (pe_gci rfl T.g_LONGEST_RUN) pa_nil)))))))
  (pssA_super sc_Runs_init rfl rfl sf F.su rfl c_Clue_init (by decide) hr (pa_cons (pv 1) (pa_cons (pe_cal c_table_of_runs (by decide) hr (pa_cons (pv 1) (pa_cons (pv 2) (pa_cons (pv 3) pa_nil)))) pa_nil))
  (pssA_of (pss_cons (ps_fldK K (pv 0) (pv 2))
  (pss_one (ps_fldK K (pv 0) (pv 3))))))))), ?_⟩
--END
    refine ⟨_, rfl, _, rfl, v, L, m, rfl, hv, hm, ?_⟩
    refine ⟨_, rfl, _, ls.length, rfl, .inr ⟨_, SqT.of hp, by rw [List.length_map]⟩, _, _, rfl, rfl, _, rfl, ?_⟩
    rw [decide_eq_false (by omega)]
    refine iteF ?_
    refine ⟨_, rfl, hT, .tup p, ls.map nV, rfl, SqT.of hp, fun H1 eN T1 => ⟨fun i y H2 ey s2 R hR => ?_, fun H2 s2 => ?_⟩⟩
    · obtain ⟨r, er, rfl⟩ := of_map_at ey
      obtain ⟨g1, g2⟩ := hz2 r (List.mem_of_getElem? er)
      refine ⟨_, rfl, (r : Int), 1, 30, rfl, ?_⟩
      rw [decide_eq_true (by omega), decide_eq_true (by omega)]
      exact hR H2 (Same.refl _)
    have hx2 := s2 _ _ (eN _ _ hx fun ps z => by cases z)
    have hv2 := (hv.extN eN).same s2
    have hp2 := s2 _ _ (eN _ _ hp fun ps z => by cases z)
    refine ⟨x, dx, [], rfl, hx2, _, rfl, _, rfl, _, rfl, _, rfl, v, p, L, m, ls, rfl, hv2, hL, SqT.of hp2, hz1, hz2, fun t a b H3 s3 ht ha hb => ?_⟩
    have ok := runTab_ok (L := L) (m := m) (ls := ls) fun r hr => (hz2 r hr).1
    have hlen := runTab_len (L := L) (m := m) (ls := ls) fun r hr => (hz2 r hr).1
    have hx3 := s3 _ _ hx2
    refine sup_ok (T := runTab L m ls) hx3 F.mem (hv2.same s3) hL ht ha hb ok (by rw [hlen]; omega) ⟨runTab L m ls, ok, fun w _ => rfl, by rw [hlen]; exact hz3⟩ fun T' r' t' H' sx hx' hq lg => ?_
    refine ⟨_, rfl, _, rfl, x, C, dx, _, rfl, hx', (Z.cq F.mem).cls, (Z.cq F.mem).na _ (by simp [fieldNames]), by show 3 < 1000; decide, ?_⟩
    have hq1 := hq.put (f := "mark") (y := .str (Sg [m])) hx' (by decide)
    refine ⟨_, rfl, _, rfl, x, C, dx, _, rfl, upd_same, (Z.cq F.mem).cls, (Z.cq F.mem).na _ (by simp [fieldNames]), by rw [putF_new (f := Str.ofString "mark") rfl]; show 4 < 1000; decide, ?_⟩
    have hq2 := hq1.put (f := "lengths") (y := .ref p) upd_same (by decide)
    have sx2 : SameX [x] H3 _ := (sx.put (a := x) (o := .ins C dx (putF "mark" (.str (Sg [m])) [("alphabet", .ref v), ("steps", .ref r'), ("told", .ref t')])) (by simp)).put (a := x) (o := .ins C dx (putF "lengths" (.ref p) (putF "mark" (.str (Sg [m])) [("alphabet", .ref v), ("steps", .ref r'), ("told", .ref t')]))) (by simp)
    have ia : InsAt [x] H3 := fun b hb => by rw [List.mem_singleton] at hb; subst hb; exact ⟨C, dx, _, hx3⟩
    exact kk T' _ (ExtX.of eN (SameX.after (sm_trans s2 s3) sx2)) (Tabs.sameX ((T1.ext s2).ext s3) sx2 ia) hq2 fun w hw => lg w hw
end
end LW
end
section
set_option Elab.async false
set_option linter.all false
set_option maxRecDepth 100000
set_option maxHeartbeats 2000000
/-! Listed(..): the table's law -/
namespace LW
open PySem PySem.Spec PyProof.Rows L2 LamX
theorem wordTab_len (L : List Nat) (ws : List (List Nat)) : (wordTab L ws).st.length = (LS.trie ws).br.length + 1 := by simp [wordTab]
theorem kid_lt {t : LS.Tr} {pw : List (List Nat)} (wf : t.Wf pw) {s y q : Nat} (hs : s < t.br.length) (h : t.kid s y = some q) : q < t.br.length := by
  obtain ⟨p, _, a2⟩ := (wf.kid s y q hs).mp h
  rw [← wf.len]
  exact (List.getElem?_eq_some_iff.mp a2).1
theorem wordTab_nx {L : List Nat} {ws : List (List Nat)} {s : Nat} (hs : s < (LS.trie ws).br.length) : (wordTab L ws).nx s = L.map fun y => ((LS.trie ws).kid s y).getD (LS.trie ws).br.length := by
  unfold LS.Tb.nx wordTab
  show List.getD _ s [] = _
  rw [List.getD_eq_getElem?_getD, List.getElem?_append_left (by simpa using hs), List.getElem?_map, List.getElem?_eq_getElem hs]
  show (L.map fun y => (((LS.trie ws).br[s]).lookup y).getD (LS.trie ws).br.length) = _
  unfold LS.Tr.kid
  rw [LS.getD_at hs]
theorem wordTab_lost {L : List Nat} {ws : List (List Nat)} : (wordTab L ws).nx (LS.trie ws).br.length = L.map fun _ => (LS.trie ws).br.length := by
  unfold LS.Tb.nx wordTab
  show List.getD _ _ [] = _
  rw [List.getD_eq_getElem?_getD, List.getElem?_append_right (by simp)]
  simp
theorem wordTab_ok (L : List Nat) (ws : List (List Nat)) : (wordTab L ws).Ok L.length := by
  obtain ⟨pw, wf, tl, _⟩ := LS.trie_spec ws
  have hl := wordTab_len L ws
  refine ⟨by rw [hl]; unfold wordTab; simp [wf.tl], by rw [hl]; omega, fun r hr => ?_, fun r hr q hq => ?_⟩
  · rcases List.mem_append.mp hr with z | z
    · obtain ⟨b, _, rfl⟩ := List.mem_map.mp z
      exact List.length_map _
    · rw [List.mem_singleton] at z
      subst z
      exact List.length_map _
  · rw [hl]
    rcases List.mem_append.mp hr with z | z
    · obtain ⟨b, hb, rfl⟩ := List.mem_map.mp z
      obtain ⟨y, _, rfl⟩ := List.mem_map.mp hq
      obtain ⟨s, hs, rfl⟩ := List.getElem_of_mem hb
      cases e : ((LS.trie ws).br[s]).lookup y with
      | none => show (LS.trie ws).br.length < _; omega
      | some q =>
        have : (LS.trie ws).kid s y = some q := by unfold LS.Tr.kid; rw [LS.getD_at hs]; exact e
        have := kid_lt wf hs this
        show q < _
        omega
    · rw [List.mem_singleton] at z
      subst z
      obtain ⟨y, _, rfl⟩ := List.mem_map.mp hq
      omega
/-- a word's signs by their places -/
def spell (L : List Nat) (w : List Nat) : List Nat := w.map fun a => L.getD a 0
theorem pc_all {t : LS.Tr} {pw : List (List Nat)} (wf : t.Wf pw) : ∀ (l p : List Nat), p ++ l ∈ pw → p ∈ pw
  | [], p, h => by rw [List.append_nil] at h; exact h
  | y :: l, p, h => by
    have e : p ++ y :: l = p ++ [y] ++ l := by rw [List.append_assoc] <;> rfl
    rw [e] at h
    exact wf.pc p y (pc_all wf l (p ++ [y]) h)
theorem wordTab_dead {L : List Nat} {ws : List (List Nat)} : ∀ {w : List Nat}, LS.Wd L.length w → LS.go (wordTab L ws).nx (LS.trie ws).br.length w = (LS.trie ws).br.length
  | [], _ => rfl
  | a :: w, h => by
    rw [go_cons, wordTab_lost, map_getD_at h.head]
    exact wordTab_dead h.tail
theorem wordTab_go {L : List Nat} {ws pw : List (List Nat)} (wf : (LS.trie ws).Wf pw) : ∀ (w : List Nat) (s : Nat) (p : List Nat), LS.Wd L.length w → pw[s]? = some p →
    (p ++ spell L w ∈ pw ∧ pw[LS.go (wordTab L ws).nx s w]? = some (p ++ spell L w)) ∨ (p ++ spell L w ∉ pw ∧ LS.go (wordTab L ws).nx s w = (LS.trie ws).br.length)
  | [], s, p, _, hp => by
    refine .inl ⟨?_, ?_⟩
    · show p ++ [] ∈ pw
      rw [List.append_nil]
      exact List.mem_of_getElem? hp
    · show pw[s]? = some (p ++ [])
      rw [List.append_nil]
      exact hp
  | a :: w, s, p, h, hp => by
    have hs : s < (LS.trie ws).br.length := by rw [← wf.len]; exact (List.getElem?_eq_some_iff.mp hp).1
    have e : p ++ spell L (a :: w) = p ++ [L.getD a 0] ++ spell L w := by
      unfold spell
      rw [List.map_cons, List.append_assoc] <;> rfl
    rw [go_cons, wordTab_nx hs, map_getD_at h.head, e]
    cases hk : (LS.trie ws).kid s (L.getD a 0) with
    | some q =>
      obtain ⟨p2, a1, a2⟩ := (wf.kid s _ q hs).mp hk
      rw [hp] at a1
      cases a1
      exact wordTab_go wf w q _ h.tail a2
    | none =>
      refine .inr ⟨fun z => ?_, wordTab_dead h.tail⟩
      have hm := pc_all wf (spell L w) (p ++ [L.getD a 0]) z
      obtain ⟨q, hq⟩ := List.mem_iff_getElem?.mp hm
      have := (wf.kid s _ q hs).mpr ⟨p, hp, hq⟩
      rw [hk] at this
      cases this
theorem wordTab_lang {L : List Nat} {ws : List (List Nat)} {w : List Nat} (hw : LS.Wd L.length w) : (wordTab L ws).lang w = decide (spell L w ∈ ws) := by
  obtain ⟨pw, wf, tl, _⟩ := LS.trie_spec ws
  have h := wordTab_go (L := L) wf w 0 [] hw wf.root
  rw [List.nil_append] at h
  unfold LS.Tb.lang LS.Tb.acc
  show ((LS.trie ws).to ++ [false]).getD _ false = _
  rcases h with ⟨h1, h2⟩ | ⟨h1, h2⟩
  · have hq : LS.go (wordTab L ws).nx 0 w < (LS.trie ws).to.length := by rw [wf.tl, ← wf.len]; exact (List.getElem?_eq_some_iff.mp h2).1
    rw [List.getD_eq_getElem?_getD, List.getElem?_append_left hq, ← List.getD_eq_getElem?_getD, tl.at_ _ _ h2]
  · rw [h2, decide_eq_false fun z => h1 (tl.sub _ z), List.getD_eq_getElem?_getD, List.getElem?_append_right (by rw [wf.tl] <;> omega), wf.tl, Nat.sub_self] <;> rfl
end LW
end
section
set_option Elab.async false
set_option linter.all false
set_option maxRecDepth 100000
set_option maxHeartbeats 2000000
/-! Listed(..) -/
namespace LW
open PySem PySem.Spec PyProof.Rows L2 LamX
abbrev st_Listed_init : Stmt := meth 56 0
theorem sc_Listed_init : SScope ["self", "values", "words"] ["self", "values", "words"] (defScope st_Listed_init) := ⟨rfl, rfl, rfl, by decide +kernel, rfl, by decide +kernel, by decide +kernel, rfl, by decide +kernel⟩
def spListed (c : Cs) (C : Addr) (TT : List (Addr × Str)) : Sp := fun vs H Q _ => ∃ (x v dx p : Addr) (L : List Nat) (ws : List (List Nat)), vs = [.ref x, .ref v, .ref p] ∧ H x = some (.ins C dx []) ∧ ValO c H v L ∧ L.length ≤ 4 ∧ H p = some (.tup (ws.map fun w => V.str (Sg w))) ∧ ws.length ≤ 20 ∧ (∀ w ∈ ws, w.length ≤ 30 ∧ ∀ y ∈ w, y ∈ L) ∧
  (ws.map List.length).sum + 2 ≤ 64 ∧ Tabs TT H ∧ ∀ T' H', ExtX [x] H H' → Tabs TT H' → ClueO c H' x v L T' → (∀ w, LS.Wd L.length w → T'.lang w = decide (spell L w ∈ ws)) → Q .non H'
section
variable {P : Program} {w : World} {K : PySem.W.Frag} {mg : Str → Option Value} {base : Heap} {c : Cs} {C f : Addr} {TT : List (Addr × Str)}
theorem c_Listed_init (Z : TC K mg c) (F : KindM P K mg base c TT "Listed.__init__" st_Listed_init C f) : FnR P w K mg base CX0 6 f (fun vs H Q E => ∃ ws rest, vs = ws ++ rest ∧ ws.length = 2 ∧ rest.length ≤ sizeLine ∧ ∀ p, H p = Option.none → spListed c C TT (ws ++ [V.ref p]) (upd H p (.tup rest)) Q E) := by
  have T := Z.T
  have c_need_values := c_need_values (P := P) (w := w) (base := base) Z
  have c_is_word := c_is_word (P := P) (w := w) (base := base) Z
  have c_table_of_words := c_table_of_words (P := P) (w := w) (base := base) Z
  have c_Clue_init := c_Clue_init (P := P) (w := w) (base := base) Z
  refine F.star (ps := ["self", "values"]) (pv := "words") sc_Listed_init (by decide +kernel) (fun _ _ _ _ _ _ _ us rest hl => match us, hl, rest with | [_, _], _, [] => rfl | [_, _], _, _ :: _ => rfl) (fun cda cc tab sf tb tm tu A outer s H vs Q E hr h => ?_)
  · obtain ⟨x, v, dx, p, L, ws, rfl, hx, hv, hL, hp, hz1, hz2, hz3, hT, kk⟩ := h
--TERM Listed.__init__
    refine ⟨_, (pssA_cons (ps_expr (pe_cal c_need_values (by decide) hr (pa_cons (pv 1) pa_nil)))
  (pssA_cons (ps_if (pt_cmpR op_gt (pe_callB (call_lenK K) (by rfl) T.b_len PySem.boot_len (pa_cons (pv 2) pa_nil)) (pe_gci rfl T.g_MOST_WORDS) (nomark _)) (pss_one ps_never)
  pss_nil)
  (pssA_cons (ps_expr (pe_items T tb rfl tm tu hr (pv 2) (show LamS1 (defScope st_Listed_init) _ _ from ⟨rfl, rfl, rfl, rfl, by decide +kernel, by decide +kernel⟩) (show ¬ (("word" : Str) ∈ (["self", "values", "words"] : List Str)) from by decide +kernel) rfl (fun _ _ _ _ _ _ => rfl) (fun A outer s H f' c' hr2 => (pe_and (pe_cal c_is_word (by decide) hr2 (pa_cons (pv 1) (pa_cons (pv 3) pa_nil))) (pe_one (pe_cmpR op_le (pe_callB (call_lenK K) (by rfl) T.b_len PySem.boot_len (pa_cons (pv 3) pa_nil)) (pe_gci rfl T.g_LONGEST_WORD) (nomark _)))))))
  (pssA_super sc_Listed_init rfl rfl sf F.su rfl c_Clue_init (by decide) hr (pa_cons (pv 1) (pa_cons (pe_cal c_table_of_words (by decide) hr (pa_cons (pv 1) (pa_cons (pv 2) pa_nil))) pa_nil))
  (pssA_of (pss_one (ps_fldK K (pv 0) (pv 2)))))))), ?_⟩
--END
    refine ⟨_, rfl, v, L, rfl, hv, ?_⟩
    refine ⟨_, rfl, _, ws.length, rfl, .inr ⟨_, SqT.of hp, by rw [List.length_map]⟩, _, _, rfl, rfl, _, rfl, ?_⟩
    rw [decide_eq_false (by omega)]
    refine iteF ?_
    refine ⟨_, rfl, hT, .tup p, ws.map fun w => V.str (Sg w), rfl, SqT.of hp, fun H1 eN T1 => ⟨fun i y H2 ey s2 R hR => ?_, fun H2 s2 => ?_⟩⟩
    · obtain ⟨r, er, rfl⟩ := of_map_at ey
      obtain ⟨g1, g2⟩ := hz2 r (List.mem_of_getElem? er)
      refine ⟨_, rfl, _, rfl, v, L, r, rfl, (hv.extN eN).same s2, by omega, g2, fun H3 s3 => ⟨true, rfl, ?_⟩⟩
      rw [if_pos rfl]
      refine ⟨_, rfl, _, r.length, rfl, ⟨by rw [S_length]; exact Nat.le_of_lt (small5 (by omega)), (S_length r).symm⟩, _, _, rfl, rfl, ?_⟩
      show R (V.bl (decide (((r.length : Nat) : Int) ≤ 30))) H3
      rw [decide_eq_true (by omega)]
      exact hR H3 s3
    have hx2 := s2 _ _ (eN _ _ hx fun ps z => by cases z)
    have hv2 := (hv.extN eN).same s2
    have hp2 := s2 _ _ (eN _ _ hp fun ps z => by cases z)
    refine ⟨x, dx, [], rfl, hx2, _, rfl, _, rfl, _, rfl, v, p, L, ws, rfl, hv2, hL, SqT.of hp2, hz1, fun w hw => (hz2 w hw).1, fun t a b H3 s3 ht ha hb => ?_⟩
    have ok := wordTab_ok L ws
    have hlen : (wordTab L ws).st.length ≤ 64 := by
      obtain ⟨pw, wf, _, hz⟩ := LS.trie_spec ws
      rw [wordTab_len, ← wf.len]
      omega
    have hx3 := s3 _ _ hx2
    refine sup_ok (T := wordTab L ws) hx3 F.mem (hv2.same s3) hL ht ha hb ok (by omega) ⟨wordTab L ws, ok, fun w _ => rfl, hlen⟩ fun T' r' t' H' sx hx' hq lg => ?_
    refine ⟨_, rfl, _, rfl, x, C, dx, _, rfl, hx', (Z.cq F.mem).cls, (Z.cq F.mem).na _ (by simp [fieldNames]), by show 3 < 1000; decide, ?_⟩
    have hq1 := hq.put (f := "listed") (y := .ref p) hx' (by decide)
    have sx2 : SameX [x] H3 _ := sx.put (a := x) (o := .ins C dx (putF "listed" (.ref p) [("alphabet", .ref v), ("steps", .ref r'), ("told", .ref t')])) (by simp)
    have ia : InsAt [x] H3 := fun b hb => by rw [List.mem_singleton] at hb; subst hb; exact ⟨C, dx, _, hx3⟩
    exact kk T' _ (ExtX.of eN (SameX.after (sm_trans s2 s3) sx2)) (Tabs.sameX ((T1.ext s2).ext s3) sx2 ia) hq1 fun w hw => (lg w hw).trans (wordTab_lang hw)
end
end LW
end
section
set_option Elab.async false
set_option linter.all false
set_option maxRecDepth 100000
set_option maxHeartbeats 2000000
/-! Neighbours(..): the table's law -/
namespace LW
open PySem PySem.Spec PyProof.Rows L2 LamX
def neigRow (L : List Nat) (ps : List (List Nat)) (one : Nat) : List Nat := (List.range L.length).map fun j => if [one, L.getD j 0] ∈ ps then j + 1 else L.length + 1
def neigTab (L : List Nat) (ps : List (List Nat)) : LS.Tb :=
  ⟨(List.range L.length).map (· + 1) :: (L.map (neigRow L ps)) ++ [L.map fun _ => L.length + 1], (List.range (L.length + 2)).map fun s => decide (s ≠ L.length + 1)⟩
/-- all neighbours are of the pairs -/
def nbr (L : List Nat) (ps : List (List Nat)) : List Nat → Bool
  | a :: b :: r => decide ([L.getD a 0, L.getD b 0] ∈ ps) && nbr L ps (b :: r)
  | _ => true
theorem neigTab_len (L : List Nat) (ps : List (List Nat)) : (neigTab L ps).st.length = L.length + 2 := by simp [neigTab]
theorem neigTab_ok (L : List Nat) (ps : List (List Nat)) : (neigTab L ps).Ok L.length := by
  refine ⟨by rw [neigTab_len]; simp [neigTab], by rw [neigTab_len]; omega, fun r hr => ?_, fun r hr q hq => ?_⟩
  · rcases List.mem_append.mp hr with z | z
    · rcases List.mem_cons.mp z with z | z
      · subst z; simp
      · obtain ⟨y, _, rfl⟩ := List.mem_map.mp z
        simp [neigRow]
    · rw [List.mem_singleton] at z
      subst z
      simp
  · rw [neigTab_len]
    rcases List.mem_append.mp hr with z | z
    · rcases List.mem_cons.mp z with z | z
      · subst z
        obtain ⟨j, hj, rfl⟩ := List.mem_map.mp hq
        have := List.mem_range.mp hj
        omega
      · obtain ⟨y, _, rfl⟩ := List.mem_map.mp z
        obtain ⟨j, hj, rfl⟩ := List.mem_map.mp hq
        have := List.mem_range.mp hj
        split <;> omega
    · rw [List.mem_singleton] at z
      subst z
      obtain ⟨y, _, rfl⟩ := List.mem_map.mp hq
      omega
theorem neig_nx0 {L : List Nat} {ps : List (List Nat)} : (neigTab L ps).nx 0 = (List.range L.length).map (· + 1) := rfl
theorem neig_nx {L : List Nat} {ps : List (List Nat)} {a : Nat} (h : a < L.length) : (neigTab L ps).nx (a + 1) = neigRow L ps (L.getD a 0) := by
  unfold LS.Tb.nx neigTab
  show List.getD _ (a + 1) [] = _
  rw [List.getD_eq_getElem?_getD, List.getElem?_append_left (by simpa using h), List.getElem?_cons_succ, List.getElem?_map, List.getElem?_eq_getElem h, LS.getD_at h] <;> rfl
theorem neig_lost {L : List Nat} {ps : List (List Nat)} : (neigTab L ps).nx (L.length + 1) = L.map fun _ => L.length + 1 := by
  unfold LS.Tb.nx neigTab
  show List.getD _ (L.length + 1) [] = _
  rw [List.getD_eq_getElem?_getD, List.getElem?_append_right (by simp)]
  simp
theorem range_at {k a q : Nat} {g : Nat → Nat} (h : a < k) : ((List.range k).map g).getD a q = g a := by
  rw [List.getD_eq_getElem?_getD, List.getElem?_map, List.getElem?_range h] <;> rfl
theorem neig_dead {L : List Nat} {ps : List (List Nat)} : ∀ {w : List Nat}, LS.Wd L.length w → LS.go (neigTab L ps).nx (L.length + 1) w = L.length + 1
  | [], _ => rfl
  | a :: w, h => by
    rw [go_cons, neig_lost, map_getD_at h.head]
    exact neig_dead h.tail
theorem neig_go {L : List Nat} {ps : List (List Nat)} : ∀ {w : List Nat} {a : Nat}, a < L.length → LS.Wd L.length w → (nbr L ps (a :: w) = true ∧ LS.go (neigTab L ps).nx (a + 1) w ≠ L.length + 1) ∨ (nbr L ps (a :: w) = false ∧ LS.go (neigTab L ps).nx (a + 1) w = L.length + 1)
  | [], a, h, _ => .inl ⟨rfl, by show a + 1 ≠ _; omega⟩
  | b :: w, a, h, hw => by
    rw [go_cons, neig_nx h]
    unfold neigRow
    rw [range_at hw.head]
    show (decide ([L.getD a 0, L.getD b 0] ∈ ps) && nbr L ps (b :: w)) = true ∧ _ ∨ (decide ([L.getD a 0, L.getD b 0] ∈ ps) && nbr L ps (b :: w)) = false ∧ _
    by_cases e : [L.getD a 0, L.getD b 0] ∈ ps
    · rw [if_pos e, decide_eq_true e, Bool.true_and]
      exact neig_go hw.head hw.tail
    · rw [if_neg e, decide_eq_false e, Bool.false_and]
      exact .inr ⟨rfl, neig_dead hw.tail⟩
theorem neigTab_acc {L : List Nat} {ps : List (List Nat)} {q : Nat} (h : q < L.length + 2) : (neigTab L ps).acc q = decide (q ≠ L.length + 1) := by
  unfold LS.Tb.acc neigTab
  show List.getD _ q false = _
  rw [List.getD_eq_getElem?_getD, List.getElem?_map, List.getElem?_range h] <;> rfl
theorem neigTab_lang {L : List Nat} {ps : List (List Nat)} {w : List Nat} (hw : LS.Wd L.length w) : (neigTab L ps).lang w = nbr L ps w := by
  unfold LS.Tb.lang
  have hlt := (neigTab_ok L ps).go_lt w (q := 0) (by rw [neigTab_len]; omega) hw
  rw [neigTab_len] at hlt
  rw [neigTab_acc hlt]
  cases w with
  | nil => exact decide_eq_true (by show 0 ≠ _; omega)
  | cons a w =>
    rw [go_cons, neig_nx0, range_at hw.head]
    rcases neig_go (ps := ps) hw.head hw.tail with ⟨h1, h2⟩ | ⟨h1, h2⟩
    · rw [h1]; exact decide_eq_true h2
    · rw [h1, h2]; simp
end LW
end
section
set_option Elab.async false
set_option linter.all false
set_option maxRecDepth 100000
set_option maxHeartbeats 2000000
/-! Neighbours(..) -/
namespace LW
open PySem PySem.Spec PyProof.Rows L2 LamX
abbrev st_Neighbours_init : Stmt := meth 54 0
theorem sc_Neighbours_init : SScope ["self", "values", "pairs", "letters", "lost", "steps", "one", "at", "letter", "other", "state"] ["self", "values", "pairs"] (defScope st_Neighbours_init) := ⟨rfl, rfl, rfl, by decide +kernel, rfl, by decide +kernel, by decide +kernel, rfl, by decide +kernel⟩
theorem sg_inj {a b : List Nat} (h : Sg a = Sg b) : a = b := by
  have := congrArg (fun s : Str => s.cps.toList) h
  simpa [SX.S] using this
theorem inV_str (v : List Nat) : ∀ S : List (List Nat), inV (.str (Sg v)) (S.map fun w => V.str (Sg w)) = decide (v ∈ S)
  | [] => rfl
  | x :: S => by
    have ih := inV_str v S
    unfold inV at ih ⊢
    rw [List.map_cons, List.any_cons, ih]
    have e : eqV (.str (Sg x)) (.str (Sg v)) = decide (x = v) := by
      show (Sg x == Sg v) = _
      rw [Bool.eq_iff_iff, beq_iff_eq, decide_eq_true_eq]
      exact ⟨sg_inj, fun z => by rw [z]⟩
    rw [e]
    by_cases h : x = v
    · subst h; simp
    · by_cases h2 : v ∈ S
      · simp [h2]
      · simp [h, h2, Ne.symm h]
theorem flat_strs (S : List (List Nat)) : (S.map fun w => V.str (Sg w)).all flatV = true := by
  rw [List.all_map]
  exact List.all_eq_true.mpr fun _ _ => rfl
theorem sg_cat (a b : List Nat) : Sg a ++ Sg b = Sg (a ++ b) := by
  show (⟨_⟩ : Str) = ⟨_⟩
  congr 1
  simp [SX.S]
def spNeig (c : Cs) (C : Addr) (TT : List (Addr × Str)) : Sp := fun vs H Q _ => ∃ (x v dx p : Addr) (L : List Nat) (ps : List (List Nat)), vs = [.ref x, .ref v, .ref p] ∧ H x = some (.ins C dx []) ∧ ValO c H v L ∧ L.length ≤ 4 ∧ H p = some (.tup (ps.map fun w => V.str (Sg w))) ∧ ps.length ≤ 100 ∧ (∀ w ∈ ps, w.length = 2 ∧ ∀ y ∈ w, y ∈ L) ∧
  Tabs TT H ∧ ∀ T' H', ExtX [x] H H' → Tabs TT H' → ClueO c H' x v L T' → (∀ w, LS.Wd L.length w → T'.lang w = nbr L ps w) → Q .non H'
section
variable {P : Program} {w : World} {K : PySem.W.Frag} {mg : Str → Option Value} {base : Heap} {c : Cs} {C f : Addr} {TT : List (Addr × Str)}
theorem c_Neighbours_init (Z : TC K mg c) (F : KindM P K mg base c TT "Neighbours.__init__" st_Neighbours_init C f) : FnR P w K mg base CX0 6 f (fun vs H Q E => ∃ ws rest, vs = ws ++ rest ∧ ws.length = 2 ∧ rest.length ≤ sizeLine ∧ ∀ p, H p = Option.none → spNeig c C TT (ws ++ [V.ref p]) (upd H p (.tup rest)) Q E) := by
  have T := Z.T
  have c_need_values := c_need_values (P := P) (w := w) (base := base) Z
  have c_is_word := c_is_word (P := P) (w := w) (base := base) Z
  have c_Clue_init := c_Clue_init (P := P) (w := w) (base := base) Z
  refine F.star (ps := ["self", "values"]) (pv := "pairs") sc_Neighbours_init (by decide +kernel) (fun _ _ _ _ _ _ _ us rest hl => match us, hl, rest with | [_, _], _, [] => rfl | [_, _], _, _ :: _ => rfl) (fun cda cc tab sf tb tm tu A outer s H vs Q E hr h => ?_)
  · obtain ⟨x, v, dx, p, L, ps, rfl, hx, hv, hL, hp, hz1, hz2, hT, kk⟩ := h
--TERM Neighbours.__init__
    refine ⟨_, (pssA_cons (ps_expr (pe_cal c_need_values (by decide) hr (pa_cons (pv 1) pa_nil)))
  (pssA_cons (ps_expr (pe_items T tb rfl tm tu hr (pv 2) (show LamS1 (defScope st_Neighbours_init) _ _ from ⟨rfl, rfl, rfl, rfl, by decide +kernel, by decide +kernel⟩) (show ¬ (("pair" : Str) ∈ (["self", "values", "pairs", "letters", "lost", "steps", "one", "at", "letter", "other", "state"] : List Str)) from by decide +kernel) rfl (fun _ _ _ _ _ _ => rfl) (fun A outer s H f' c' hr2 => (pe_and (pe_cal c_is_word (by decide) hr2 (pa_cons (pv 1) (pa_cons (pv 11) pa_nil))) (pe_one (pe_cmpR op_eq (pe_callB (call_lenK K) (by rfl) T.b_len PySem.boot_len (pa_cons (pv 11) pa_nil)) pe_int (nomark _)))))))
  (pssA_cons (ps_set (i := 3) sc_Neighbours_init.nd rfl (Or.inl rfl) (pe_fldK K (pv 1)))
  (pssA_cons (ps_set (i := 4) sc_Neighbours_init.nd rfl (Or.inr rfl) (pe_op op_add (pe_callB (call_lenK K) (by rfl) T.b_len PySem.boot_len (pa_cons (pv 3) pa_nil)) pe_int))
  (pssA_cons (ps_set (i := 5) sc_Neighbours_init.nd rfl (Or.inl rfl) (pe_lst (pa_cons (pe_lc (own := [("at", 7)]) rfl sc_Neighbours_init.nd (pi_range1 rfl T.b_range (pa_cons (pe_callB (call_lenK K) (by rfl) T.b_len PySem.boot_len (pa_cons (pv 3) pa_nil)) pa_nil)) (blkOk_by (own := [("at", 7)]) (by kernel_rfl)) (fun _ _ _ _ _ => (pg_name (i := 7) sc_Neighbours_init.nd rfl (Or.inl rfl))) (fun _ _ _ _ _ => pts_nil) (fun _ _ _ _ _ => (pe_op op_add (pv 7) pe_int))) pa_nil)))
  (pssA_cons (ps_for PassesOwn.never rfl (pi_str (pv 3)) (pg_name (i := 6) sc_Neighbours_init.nd rfl (Or.inr rfl))
  (pss_one (ps_expr (pe_bmK K PySem.F.plainAttrs_list PySem.F.slot_list_append PySem.F.type_list_append mt_append (pv 5) (pa_cons (pe_lc (own := [("at", 7), ("other", 9)]) rfl sc_Neighbours_init.nd (pi_enumS K T.b_enumerate (pa_cons (pv 3) pa_nil)) (blkOk_by (own := [("at", 7), ("other", 9)]) (by kernel_rfl)) (fun _ _ _ _ _ => (pg_tupK K (n := 2) (pgs_cons (pg_name (i := 7) sc_Neighbours_init.nd rfl (Or.inl rfl) (.inr rfl)) (pgs_cons (pg_name (i := 9) sc_Neighbours_init.nd rfl (Or.inl rfl) (.inr rfl)) pgs_nil)))) (fun _ _ _ _ _ => pts_nil) (fun _ _ _ _ _ => (pe_ifExp (pt_cmpR (op_in_seqK K) (pe_op op_add_str (pv 6) (pv 9)) (pv 2) (by rfl)) (pe_op op_add (pv 7) pe_int) (pv 4)))) pa_nil)))))
  (pssA_cons (ps_expr (pe_bmK K PySem.F.plainAttrs_list PySem.F.slot_list_append PySem.F.type_list_append mt_append (pv 5) (pa_cons (pe_lc (own := [("letter", 8)]) rfl sc_Neighbours_init.nd (pi_str (pv 3)) (blkOk_by (own := [("letter", 8)]) (by kernel_rfl)) (fun _ _ _ _ _ => (pg_name (i := 8) sc_Neighbours_init.nd rfl (Or.inl rfl))) (fun _ _ _ _ _ => pts_nil) (fun _ _ _ _ _ => (pv 4))) pa_nil)))
  (pssA_super sc_Neighbours_init rfl rfl sf F.su rfl c_Clue_init (by decide) hr (pa_cons (pv 1) (pa_cons (pe_tup (pa_cons (pv 5) (pa_cons (pe_lc (own := [("state", 10)]) rfl sc_Neighbours_init.nd (pi_range1 rfl T.b_range (pa_cons (pe_callB (call_lenK K) (by rfl) T.b_len PySem.boot_len (pa_cons (pv 5) pa_nil)) pa_nil)) (blkOk_by (own := [("state", 10)]) (by kernel_rfl)) (fun _ _ _ _ _ => (pg_name (i := 10) sc_Neighbours_init.nd rfl (Or.inl rfl))) (fun _ _ _ _ _ => pts_nil) (fun _ _ _ _ _ => (pe_cmpR op_ne (pv 10) (pv 4) (nomark _)))) pa_nil))) pa_nil))
  (pssA_of (pss_one (ps_fldK K (pv 0) (pv 2)))))))))))), ?_⟩
--END
    refine ⟨_, rfl, v, L, rfl, hv, ?_⟩
    refine ⟨_, rfl, hT, .tup p, ps.map fun w => V.str (Sg w), rfl, SqT.of hp, fun H1 eN T1 => ⟨fun i y H2 ey s2 R hR => ?_, fun H2 s2 => ?_⟩⟩
    · obtain ⟨r, er, rfl⟩ := of_map_at ey
      obtain ⟨g1, g2⟩ := hz2 r (List.mem_of_getElem? er)
      refine ⟨_, rfl, _, rfl, v, L, r, rfl, (hv.extN eN).same s2, by omega, g2, fun H3 s3 => ⟨true, rfl, ?_⟩⟩
      rw [if_pos rfl]
      refine ⟨_, rfl, _, r.length, rfl, ⟨by rw [S_length]; exact Nat.le_of_lt (small5 (by omega)), (S_length r).symm⟩, rfl, ?_⟩
      rw [g1]
      exact hR H3 s3
    have hx2 := s2 _ _ (eN _ _ hx fun ps z => by cases z)
    have hv2 := (hv.extN eN).same s2
    have hp2 := s2 _ _ (eN _ _ hp fun ps z => by cases z)
    have hS := S_length L
    obtain ⟨dv, hv0⟩ := id hv2
    refine ⟨_, rfl, v, _, _, _, _, rfl, hv0, Z.vl.cls, Z.vl.na _ (by simp [fieldNames]), rfl, ?_⟩
    refine ⟨_, rfl, _, L.length, rfl, ⟨by rw [hS]; exact Nat.le_of_lt (small5 (by omega)), hS.symm⟩, _, _, rfl, rfl, ?_⟩
    refine ⟨_, rfl, _, L.length, rfl, ⟨by rw [hS]; exact Nat.le_of_lt (small5 (by omega)), hS.symm⟩, _, rfl, by omega, by omega, ?_⟩
    rw [Int.toNat_natCast]
    refine fun D nD => lc_it (walk_range (lo := 0) (n := L.length)) (LcPv (RMap fun i => nV (i + 1)) H2 D) (pv_start nD rfl) (fun _ _ _ _ => True.intro) ?_ ?_
    · rintro i y H3 H4 hi ⟨acc, eD, hl, sm, r⟩ ⟨rfl, ey⟩
      have ey2 : y = nV i := by rw [ey]; simp
      subst ey2
      exact ⟨rfl, _, rfl, _, _, rfl, rfl, pv_push eD hl sm (Same.refl _) (by omega) (rmap_push r rfl)⟩
    rintro H3 ⟨acc, eD, hl, sm, r⟩
    have s23 := sm_trans sm hid_sub
    have eD2 : H3 D = some (.lst (((List.range L.length).map (· + 1)).map nV)) := by
      rw [eD, show acc = _ from r, List.map_map] <;> rfl
    refine ⟨by show 1 ≤ sizeLine; decide, fun ls nls => ?_⟩
    have s24 : Same H2 (upd H3 ls (.lst [.ref D])) := sm_trans s23 (same_new nls)
    have nls2 : H2 ls = none := by
      cases e : H2 ls with
      | none => rfl
      | some o => rw [s23 _ _ e] at nls; cases nls
    have dls : D ≠ ls := fun z => by rw [← z, eD] at nls; cases nls
    have hR0 : RowsL (upd H3 ls (.lst [.ref D])) ls [] [(List.range L.length).map (· + 1)] := by
      refine ⟨[D], by rw [upd_same] <;> rfl, rfl, fun j a row e1 e2 => ?_⟩
      cases j with
      | zero =>
        have e1 : D = a := Option.some.inj e1
        have e2 : (List.range L.length).map (· + 1) = row := Option.some.inj e2
        subst e1 e2
        exact ⟨by rw [upd_ne dls]; exact eD2, by simp, dls⟩
      | succ j => simp at e1
    generalize upd H3 ls _ = H4 at s24 hR0 ⊢
    refine ⟨_, rfl, Sg L, rfl, for_it (walk_str (z := Sg L)) (fun i σ H' => ∃ v6 : Option V, σ = [some (.ref x), some (.ref v), some (.ref p), some (.str (Sg L)), some (nV (L.length + 1)), some (.ref ls), v6, none, none, none, none] ∧ Same H2 H' ∧
        RowsL H' ls [] ((List.range L.length).map (· + 1) :: (L.take i).map (neigRow L ps))) ⟨none, rfl, s24, hR0⟩ (fun _ _ _ _ _ => True.intro) ?_ ?_⟩
    · rintro i y σ5 H6 H5 hi ⟨v6, rfl, s5, hR⟩ ⟨rfl, one, ey, rfl⟩
      have ey : L[i]? = some one := by simpa [SX.S] using ey
      obtain ⟨rs, p1, p2, _⟩ := id hR.ex
      have hp5 := s5 _ _ hp2
      refine ⟨_, rfl, .inl ⟨rfl, _, SqL.of p1⟩, _, rfl, .txt (Sg L), L.map fun y => V.str (Sg [y]), rfl, chars_S L, fun E2 nE2 => lc_it (walk_enumS (K := K) (S := .txt (Sg L)) (xs := L.map fun y => V.str (Sg [y])))
        (LcPv (RMap fun j => nV (if [one, L.getD j 0] ∈ ps then j + 1 else L.length + 1)) H5 E2) (pv_start nE2 rfl) (fun _ _ _ _ => chars_S L) ?_ ?_⟩
      · rintro j z H7 H8 hj ⟨acc2, eE, hl2, sm2, r2⟩ ⟨t, y1, y2, rfl, nt, rfl, e1, e2⟩
        cases e1
        obtain ⟨q, eq', rfl⟩ := of_map_at e2
        rw [List.length_map] at hj
        have hq2 : L.getD j 0 = q := by rw [List.getD_eq_getElem?_getD, eq'] <;> rfl
        have s78 : Same H7 (upd H7 t (.tup [.int (j : Nat), .str (Sg [q])])) := same_new nt
        have hp8 := s78 _ _ (sm_trans sm2 hid_sub _ _ hp5)
        refine ⟨t, _, rfl, SqT.of upd_same, rfl, _, _, rfl, _, _, rfl, rfl, rfl, ?_⟩
        refine ⟨_, rfl, _, rfl, Sg [one], Sg [q], rfl, rfl, by rw [S_length, S_length]; show 2 ≤ sizeLine; decide, _, rfl, p, _, rfl, .inr (SqT.of hp8), rfl, flat_strs ps, _, rfl, ?_⟩
        rw [sg_cat, if_neg (by decide), inV_str]
        by_cases hm : [one, q] ∈ ps
        · rw [show decide ([one] ++ [q] ∈ ps) = true from decide_eq_true hm]
          exact iteT ⟨_, rfl, _, _, rfl, rfl, pv_push eE hl2 sm2 s78 (by omega) (rmap_push r2 (by rw [hq2, if_pos hm] <;> rfl))⟩
        · rw [show decide ([one] ++ [q] ∈ ps) = false from decide_eq_false hm]
          exact iteF ⟨_, rfl, pv_push eE hl2 sm2 s78 (by omega) (rmap_push r2 (by rw [hq2, if_neg hm]))⟩
      · rintro H7 ⟨acc2, eE, hl2, sm2, r2⟩
        have s57 := sm_trans sm2 hid_sub
        have eE2 : H7 E2 = some (.lst ((neigRow L ps one).map nV)) := by
          rw [eE, show acc2 = _ from r2, List.length_map]
          unfold neigRow
          rw [List.map_map] <;> rfl
        obtain ⟨rs3, c1, c2, hR3⟩ := push_row hR s57 nE2 eE2
        refine ⟨ls, _, _, rfl, rfl, c1, by rw [List.length_map, c2]; refine small5 ?_; simp; omega, ?_⟩
        refine ⟨_, rfl, sm_upd (sm_trans s5 s57) nls2, ?_⟩
        rw [take_snoc ey, List.map_append, ← List.cons_append]
        exact hR3
    · rintro σ5 H5 ⟨v6, rfl, s5, hR⟩
      have e9 : L.take (Sg L).cps.size = L := by simp [SX.S]
      rw [e9] at hR
      obtain ⟨rs, p1, p2, _⟩ := id hR.ex
      refine ⟨_, rfl, .inl ⟨rfl, _, SqL.of p1⟩, _, rfl, Sg L, rfl, lc_txt (fun W => LcPv (RMap fun _ => nV (L.length + 1)) H5 W) (fun W nW => pv_start nW rfl) ?_ ?_⟩
      · rintro W i y H6 nW hy ⟨acc3, eW, hl3, sm3, r3⟩
        have hi : i < L.length := (List.getElem?_eq_some_iff.mp hy).1
        exact ⟨rfl, _, rfl, pv_push eW hl3 sm3 (Same.refl _) (by omega) (rmap_push r3 rfl)⟩
      rintro W H6 nW ⟨acc3, eW, hl3, sm3, r3⟩
      have s56 := sm_trans sm3 hid_sub
      have eW2 : H6 W = some (.lst ((L.map fun _ => L.length + 1).map nV)) := by
        rw [eW, show acc3 = _ from r3, map_range_getD L 0 fun _ => nV (L.length + 1), List.map_map] <;> rfl
      obtain ⟨rs3, c1, c2, hR3⟩ := push_row hR s56 nW eW2
      refine ⟨ls, _, _, rfl, rfl, c1, by rw [List.length_map, c2]; refine small5 ?_; simp; omega, ?_⟩
      have s26 : Same H2 (upd H6 ls (.lst (rs3.map V.ref ++ [.ref W]))) := sm_upd (sm_trans s5 s56) nls2
      generalize upd H6 ls _ = H7 at s26 hR3 ⊢
      obtain ⟨rs4, d1, d2, _⟩ := id hR3.ex
      have hz4 : rs4.length = L.length + 2 := by rw [d2]; simp
      have hx7 := s26 _ _ hx2
      refine ⟨x, dx, [], rfl, hx7, _, rfl, _, rfl, _, rfl, _, L.length + 2, rfl, .inl ⟨_, SqL.of d1, by rw [List.length_map, hz4]⟩, _, rfl, by omega, by omega, ?_⟩
      rw [Int.toNat_natCast]
      refine fun D2 nD2 => lc_it (walk_range (lo := 0) (n := L.length + 2)) (LcPv (RMap fun i => V.bl (decide (i ≠ L.length + 1))) H7 D2) (pv_start nD2 rfl) (fun _ _ _ _ => True.intro) ?_ ?_
      · rintro i y H8 H9 hi ⟨acc2, eD3, hl2, sm2, r2⟩ ⟨rfl, ey⟩
        have ey2 : y = nV i := by rw [ey]; simp
        subst ey2
        refine ⟨rfl, _, rfl, _, rfl, rfl, ?_⟩
        exact pv_push eD3 hl2 sm2 (Same.refl _) (by omega) (rmap_push r2 (by
          congr 1
          rw [Bool.eq_iff_iff, Bool.not_eq_true', decide_eq_false_iff_not, decide_eq_true_eq]
          constructor
          · intro z e
            exact z (by rw [e])
          · intro z e
            have := V.int.inj e
            omega))
      rintro H8 ⟨acc2, eD3, hl2, sm2, r2⟩
      have s78 := sm_trans sm2 hid_sub
      refine ⟨by show 2 ≤ sizeLine; decide, fun p3 n3 => ?_⟩
      have s89 : Same H8 (upd H8 p3 (.tup [.ref ls, .ref D2])) := same_new n3
      have s79 := sm_trans s78 s89
      have s29 := sm_trans s26 s79
      have ok := neigTab_ok L ps
      have hx9 := s29 _ _ hx2
      refine sup_ok (T := neigTab L ps) hx9 F.mem (hv2.same s29) hL upd_same ((hR3.same s79).at) (.inl (SqL.of (s89 _ _ (by rw [eD3, show acc2 = _ from r2]; unfold neigTab; rw [List.map_map] <;> rfl)))) ok (by rw [neigTab_len]; omega) ⟨neigTab L ps, ok, fun w _ => rfl, by rw [neigTab_len]; omega⟩ fun T' r' t' H' sx hx' hq lg => ?_
      refine ⟨_, rfl, _, rfl, x, C, dx, _, rfl, hx', (Z.cq F.mem).cls, (Z.cq F.mem).na _ (by simp [fieldNames]), by show 3 < 1000; decide, ?_⟩
      have hq1 := hq.put (f := "pairs") (y := .ref p) hx' (by decide)
      generalize hH9 : upd H8 p3 _ = H9 at s29 sx hx9
      have sx2 : SameX [x] H9 _ := sx.put (a := x) (o := .ins C dx (putF "pairs" (.ref p) [("alphabet", .ref v), ("steps", .ref r'), ("told", .ref t')])) (by simp)
      have ia : InsAt [x] H9 := fun b hb => by rw [List.mem_singleton] at hb; subst hb; exact ⟨C, dx, _, hx9⟩
      exact kk T' _ (ExtX.of eN (SameX.after (sm_trans s2 s29) sx2)) (Tabs.sameX ((T1.ext s2).ext s29) sx2 ia) hq1 fun w hw => (lg w hw).trans (neigTab_lang hw)
end
end LW
end
section
set_option linter.all false
/-! runs of marks -/
namespace LS
mutual
def rG : List Nat → List Bool → Bool
  | ls, [] => ls.isEmpty
  | [], true :: _ => false
  | r :: rest, true :: w => rI (r - 1) rest w
  | ls, false :: w => rG ls w
termination_by _ w => w.length
def rI : Nat → List Nat → List Bool → Bool
  | 0, rest, [] => rest.isEmpty
  | _ + 1, _, [] => false
  | 0, _, true :: _ => false
  | j + 1, rest, true :: w => rI j rest w
  | 0, rest, false :: w => rG rest w
  | _ + 1, _, false :: _ => false
termination_by _ _ w => w.length
end
theorem rG_nil (ls : List Nat) : rG ls [] = ls.isEmpty := by unfold rG; rfl
theorem rG_t0 (w : List Bool) : rG [] (true :: w) = false := by unfold rG; rfl
theorem rG_t (r : Nat) (rest : List Nat) (w : List Bool) : rG (r :: rest) (true :: w) = rI (r - 1) rest w := by rw [rG]
theorem rG_f (ls : List Nat) (w : List Bool) : rG ls (false :: w) = rG ls w := by rw [rG]
theorem rI_nil0 (rest : List Nat) : rI 0 rest [] = rest.isEmpty := by unfold rI; rfl
theorem rI_nil (j : Nat) (rest : List Nat) : rI (j + 1) rest [] = false := by unfold rI; rfl
theorem rI_t0 (rest : List Nat) (w : List Bool) : rI 0 rest (true :: w) = false := by unfold rI; rfl
theorem rI_t (j : Nat) (rest : List Nat) (w : List Bool) : rI (j + 1) rest (true :: w) = rI j rest w := by rw [rI]
theorem rI_f0 (rest : List Nat) (w : List Bool) : rI 0 rest (false :: w) = rG rest w := by rw [rI]
theorem rI_f (j : Nat) (rest : List Nat) (w : List Bool) : rI (j + 1) rest (false :: w) = false := by unfold rI; rfl
abbrev ct (w : List Bool) : Nat := w.countP id
theorem ct_t (w : List Bool) : ct (true :: w) = ct w + 1 := by simp [ct, List.countP_cons]
theorem ct_f (w : List Bool) : ct (false :: w) = ct w := by simp [ct, List.countP_cons]
/-- two marks side by side -/
def tt : List Bool → Bool
  | true :: true :: _ => true
  | _ :: w => tt w
  | [] => false
theorem tt_f (w : List Bool) : tt (false :: w) = tt w := by cases w <;> rfl
theorem tt_tf (w : List Bool) : tt (true :: false :: w) = tt w := by
  show tt (false :: w) = tt w
  exact tt_f w
theorem rG0 : ∀ w : List Bool, rG [] w = decide (ct w = 0)
  | [] => by rw [rG_nil] <;> rfl
  | true :: w => by rw [rG_t0, ct_t, decide_eq_false (by omega)]
  | false :: w => by rw [rG_f, ct_f, rG0 w]
theorem rI00 : ∀ w : List Bool, rI 0 [] w = decide (ct w = 0)
  | [] => by rw [rI_nil0] <;> rfl
  | true :: w => by rw [rI_t0, ct_t, decide_eq_false (by omega)]
  | false :: w => by rw [rI_f0, ct_f, rG0 w]
theorem rG1 : ∀ w : List Bool, rG [1] w = decide (ct w = 1)
  | [] => by rw [rG_nil] <;> rfl
  | true :: w => by
    rw [rG_t, ct_t, show 1 - 1 = 0 from rfl, rI00, decide_eq_decide]
    omega
  | false :: w => by rw [rG_f, ct_f, rG1 w]
theorem tt_small : ∀ w : List Bool, ct w ≤ 1 → tt w = false
  | [], _ => rfl
  | false :: w, h => by rw [tt_f]; rw [ct_f] at h; exact tt_small w h
  | [true], _ => rfl
  | true :: true :: w, h => by rw [ct_t, ct_t] at h; omega
  | true :: false :: w, h => by rw [tt_tf]; rw [ct_t, ct_f] at h; exact tt_small w (by omega)
theorem rG11 : ∀ w : List Bool, rG [1, 1] w = (decide (ct w = 2) && !tt w)
  | [] => by rw [rG_nil] <;> rfl
  | false :: w => by rw [rG_f, ct_f, tt_f, rG11 w]
  | [true] => by rw [rG_t]; show rI 0 [1] [] = _; rw [rI_nil0] <;> rfl
  | true :: true :: w => by rw [rG_t]; show rI 0 [1] (true :: w) = _; rw [rI_t0]; simp [tt]
  | true :: false :: w => by
    rw [rG_t]
    show rI 0 [1] (false :: w) = _
    rw [rI_f0, rG1, ct_t, ct_f, tt_tf]
    by_cases h : ct w = 1
    · rw [decide_eq_true h, decide_eq_true (by omega), tt_small w (by omega)] <;> rfl
    · rw [decide_eq_false h, decide_eq_false (by omega), Bool.false_and]
mutual
theorem rG_sum : ∀ (w : List Bool) (ls : List Nat), (∀ r ∈ ls, 1 ≤ r) → rG ls w = true → ct w = ls.sum
  | [], ls, _, h => by
    rw [rG_nil, List.isEmpty_iff] at h
    rw [h] <;> rfl
  | true :: w, [], _, h => by rw [rG_t0] at h; cases h
  | true :: w, r :: rest, hr, h => by
    rw [rG_t] at h
    have := rI_sum w (r - 1) rest (fun x hx => hr x (List.mem_cons_of_mem _ hx)) h
    have h1 := hr r List.mem_cons_self
    rw [ct_t, this, List.sum_cons]
    omega
  | false :: w, ls, hr, h => by rw [rG_f] at h; rw [ct_f]; exact rG_sum w ls hr h
theorem rI_sum : ∀ (w : List Bool) (j : Nat) (rest : List Nat), (∀ r ∈ rest, 1 ≤ r) → rI j rest w = true → ct w = j + rest.sum
  | [], 0, rest, _, h => by
    rw [rI_nil0, List.isEmpty_iff] at h
    rw [h] <;> rfl
  | [], j + 1, rest, _, h => by rw [rI_nil] at h; cases h
  | true :: w, 0, rest, _, h => by rw [rI_t0] at h; cases h
  | true :: w, j + 1, rest, hr, h => by
    rw [rI_t] at h
    have := rI_sum w j rest hr h
    rw [ct_t, this]
    omega
  | false :: w, 0, rest, hr, h => by
    rw [rI_f0] at h
    have := rG_sum w rest hr h
    rw [ct_f, this, Nat.zero_add]
  | false :: w, j + 1, rest, _, h => by rw [rI_f] at h; cases h
end
theorem rG_two : ∀ (w : List Bool) (r : Nat) (rest : List Nat), 2 ≤ r → rG (r :: rest) w = true → tt w = true
  | [], _, _, _, h => by rw [rG_nil] at h; cases h
  | false :: w, r, rest, hr, h => by rw [rG_f] at h; rw [tt_f]; exact rG_two w r rest hr h
  | [true], r, rest, hr, h => by
    rw [rG_t] at h
    obtain ⟨j, rfl⟩ : ∃ j, r = j + 2 := ⟨r - 2, by omega⟩
    rw [show j + 2 - 1 = j + 1 by omega, rI_nil] at h
    cases h
  | true :: true :: w, _, _, _, _ => rfl
  | true :: false :: w, r, rest, hr, h => by
    rw [rG_t] at h
    obtain ⟨j, rfl⟩ : ∃ j, r = j + 2 := ⟨r - 2, by omega⟩
    rw [show j + 2 - 1 = j + 1 by omega, rI_f] at h
    cases h
/-! ### the shape of two runs -/
abbrev fs (g : Nat) : List Bool := List.replicate g false
abbrev ts (g : Nat) : List Bool := List.replicate g true
theorem rG_shape0 (w : List Bool) : rG [] w = true ↔ ∃ g, w = fs g := by
  induction w with
  | nil => exact ⟨fun _ => ⟨0, rfl⟩, fun _ => by rw [rG_nil] <;> rfl⟩
  | cons b w ih =>
    cases b with
    | true =>
      rw [rG_t0]
      refine ⟨(fun z => by cases z), fun ⟨g, e⟩ => ?_⟩
      cases g <;> simp [List.replicate_succ] at e
    | false =>
      rw [rG_f, ih]
      constructor
      · rintro ⟨g, rfl⟩
        exact ⟨g + 1, rfl⟩
      · rintro ⟨g, e⟩
        cases g with
        | zero => cases e
        | succ g => exact ⟨g, by simpa [List.replicate_succ] using e⟩
theorem rG_shape (r : Nat) (rest : List Nat) (w : List Bool) : rG (r :: rest) w = true ↔ ∃ g u, w = fs g ++ true :: u ∧ rI (r - 1) rest u = true := by
  induction w with
  | nil =>
    rw [rG_nil]
    refine ⟨(fun z => by cases z), fun ⟨g, u, e, _⟩ => ?_⟩
    exact absurd (congrArg List.length e) (by simp)
  | cons b w ih =>
    cases b with
    | true =>
      rw [rG_t]
      constructor
      · intro h
        exact ⟨0, w, rfl, h⟩
      · rintro ⟨g, u, e, h⟩
        cases g with
        | zero =>
          have : w = u := by simpa using e
          rw [this]; exact h
        | succ g => simp [List.replicate_succ] at e
    | false =>
      rw [rG_f, ih]
      constructor
      · rintro ⟨g, u, rfl, h⟩
        exact ⟨g + 1, u, rfl, h⟩
      · rintro ⟨g, u, e, h⟩
        cases g with
        | zero => simp at e
        | succ g => exact ⟨g, u, by simpa [List.replicate_succ] using e, h⟩
theorem rI_shape (rest : List Nat) : ∀ (w : List Bool) (j : Nat), rI j rest w = true ↔ (rest = [] ∧ w = ts j) ∨ ∃ u, w = ts j ++ false :: u ∧ rG rest u = true
  | [], 0 => by
    rw [rI_nil0, List.isEmpty_iff]
    refine ⟨fun z => .inl ⟨z, rfl⟩, fun z => ?_⟩
    rcases z with ⟨z, _⟩ | ⟨u, e, _⟩
    · exact z
    · cases e
  | [], j + 1 => by
    rw [rI_nil]
    refine ⟨(fun z => by cases z), fun z => ?_⟩
    rcases z with ⟨_, e⟩ | ⟨u, e, _⟩
    · cases e
    · cases e
  | true :: w, 0 => by
    rw [rI_t0]
    refine ⟨(fun z => by cases z), fun z => ?_⟩
    rcases z with ⟨_, e⟩ | ⟨u, e, _⟩
    · cases e
    · cases e
  | true :: w, j + 1 => by
    rw [rI_t, rI_shape rest w j]
    simp [List.replicate_succ]
  | false :: w, 0 => by
    rw [rI_f0]
    constructor
    · intro h
      exact .inr ⟨w, rfl, h⟩
    · rintro (⟨_, e⟩ | ⟨u, e, h⟩)
      · cases e
      · have : w = u := by simpa using e
        rw [this]; exact h
  | false :: w, j + 1 => by
    rw [rI_f]
    refine ⟨(fun z => by cases z), fun z => ?_⟩
    rcases z with ⟨_, e⟩ | ⟨u, e, _⟩
    · cases e
    · cases e
theorem ts_succ (a : Nat) : ts (a + 1) = true :: ts a := rfl
theorem fs_succ (a : Nat) : fs (a + 1) = false :: fs a := rfl
theorem rI_end (j : Nat) (w : List Bool) : rI j [] w = true ↔ ∃ g, w = ts j ++ fs g := by
  rw [rI_shape]
  constructor
  · rintro (⟨_, e⟩ | ⟨u, e, h⟩)
    · exact ⟨0, by rw [e]; simp⟩
    · obtain ⟨g, rfl⟩ := (rG_shape0 u).mp h
      exact ⟨g + 1, e⟩
  · rintro ⟨g, e⟩
    cases g with
    | zero => exact .inl ⟨rfl, by rw [e]; simp⟩
    | succ g => exact .inr ⟨fs g, e, (rG_shape0 _).mpr ⟨g, rfl⟩⟩
theorem rG_pair {a b : Nat} (w : List Bool) : rG [a + 1, b + 1] w = true ↔ ∃ g0 g1 g2, w = fs g0 ++ (ts (a + 1) ++ (fs (g1 + 1) ++ (ts (b + 1) ++ fs g2))) := by
  rw [rG_shape]
  constructor
  · rintro ⟨g0, u, rfl, h⟩
    rcases (rI_shape [b + 1] u (a + 1 - 1)).mp h with ⟨e, _⟩ | ⟨u2, rfl, h2⟩
    · cases e
    · obtain ⟨g1, u3, rfl, h3⟩ := (rG_shape (b + 1) [] u2).mp h2
      obtain ⟨g2, rfl⟩ := (rI_end (b + 1 - 1) u3).mp h3
      exact ⟨g0, g1, g2, by simp [List.replicate_succ]⟩
  · rintro ⟨g0, g1, g2, rfl⟩
    refine ⟨g0, ts a ++ (fs (g1 + 1) ++ (ts (b + 1) ++ fs g2)), rfl, (rI_shape [b + 1] _ (a + 1 - 1)).mpr (.inr ⟨fs g1 ++ (ts (b + 1) ++ fs g2), ?_, (rG_shape (b + 1) [] _).mpr ⟨g1, ts b ++ fs g2, ?_, (rI_end (b + 1 - 1) _).mpr ⟨g2, rfl⟩⟩⟩)⟩
    · simp [List.replicate_succ]
    · simp [List.replicate_succ]
/-- two runs, read backwards -/
theorem rG_rev {a b : Nat} (w : List Bool) : rG [a + 1, b + 1] w.reverse = rG [b + 1, a + 1] w := by
  rw [Bool.eq_iff_iff, rG_pair, rG_pair]
  have rev : ∀ (a b g0 g1 g2 : Nat), (fs g0 ++ (ts (a + 1) ++ (fs (g1 + 1) ++ (ts (b + 1) ++ fs g2)))).reverse = fs g2 ++ (ts (b + 1) ++ (fs (g1 + 1) ++ (ts (a + 1) ++ fs g0))) := fun a b g0 g1 g2 => by
    simp only [List.reverse_append, List.reverse_replicate, List.append_assoc]
  constructor
  · rintro ⟨g0, g1, g2, e⟩
    refine ⟨g2, g1, g0, ?_⟩
    have := congrArg List.reverse e
    rw [List.reverse_reverse, rev] at this
    exact this
  · rintro ⟨g0, g1, g2, rfl⟩
    exact ⟨g2, g1, g0, rev b a g0 g1 g2⟩
end LS
end
section
set_option Elab.async false
set_option linter.all false
set_option maxRecDepth 100000
set_option maxHeartbeats 2000000
/-! the language of runTab -/
namespace LW
open PySem PySem.Spec PyProof.Rows L2 LamX
def offR (pre : List Nat) : Nat := pre.sum + pre.length
/-- which signs are the mark -/
def bm (L : List Nat) (m : Nat) (w : List Nat) : List Bool := w.map fun a => L.getD a 0 == m
theorem bm_ct (L : List Nat) (m : Nat) (w : List Nat) : LS.ct (bm L m w) = cm L m w := by
  unfold LS.ct bm cm
  rw [List.countP_map] <;> rfl
theorem bm_rev (L : List Nat) (m : Nat) (w : List Nat) : bm L m w.reverse = (bm L m w).reverse := by
  unfold bm
  rw [List.map_reverse]
theorem fold_pre {L : List Nat} {m lost : Nat} : ∀ (ls : List Nat) (R : List (List Nat)), ∃ t, ls.foldl (fun R r => R ++ runBlock L m lost R.length r) R = R ++ t
  | [], R => ⟨[], by simp⟩
  | r :: ls, R => by
    obtain ⟨t, e⟩ := fold_pre (L := L) (m := m) (lost := lost) ls (R ++ runBlock L m lost R.length r)
    exact ⟨runBlock L m lost R.length r ++ t, by rw [List.foldl_cons, e, List.append_assoc]⟩
theorem runTab_at {L : List Nat} {m : Nat} {pre rest : List Nat} {r i : Nat} (h : ∀ x ∈ pre ++ r :: rest, 1 ≤ x) (hi : i ≤ r) : (runTab L m (pre ++ r :: rest)).nx (offR pre + i) = (runBlock L m (runLost (pre ++ r :: rest)) (offR pre) r).getD i [] := by
  have hp : (runRows L m (runLost (pre ++ r :: rest)) pre).length = offR pre := runRows_len fun x hx => h x (List.mem_append_left _ hx)
  have hb : (runBlock L m (runLost (pre ++ r :: rest)) (offR pre) r).length = r + 1 := block_len (h r (List.mem_append_right _ List.mem_cons_self))
  obtain ⟨t, e⟩ := fold_pre (L := L) (m := m) (lost := runLost (pre ++ r :: rest)) rest (runRows L m (runLost (pre ++ r :: rest)) pre ++ runBlock L m (runLost (pre ++ r :: rest)) (offR pre) r)
  have e2 : runRows L m (runLost (pre ++ r :: rest)) (pre ++ r :: rest) = runRows L m (runLost (pre ++ r :: rest)) pre ++ runBlock L m (runLost (pre ++ r :: rest)) (offR pre) r ++ t := by
    rw [← e]
    conv => lhs; unfold runRows
    rw [List.foldl_append, List.foldl_cons]
    show List.foldl _ (runRows L m (runLost (pre ++ r :: rest)) pre ++ runBlock L m (runLost (pre ++ r :: rest)) (runRows L m (runLost (pre ++ r :: rest)) pre).length r) rest = _
    rw [hp]
  unfold LS.Tb.nx runTab
  show List.getD (_ ++ _ ++ _) _ [] = _
  rw [e2, List.getD_eq_getElem?_getD, List.getD_eq_getElem?_getD, List.append_assoc, List.append_assoc, List.append_assoc, List.getElem?_append_right (by omega), hp, show offR pre + i - offR pre = i by omega, List.getElem?_append_left (by omega)]
theorem runTab_end {L : List Nat} {m : Nat} {ls : List Nat} (h : ∀ x ∈ ls, 1 ≤ x) : (runTab L m ls).nx (offR ls) = byM L m (runLost ls) (offR ls) ∧ (runTab L m ls).nx (runLost ls) = byM L m (runLost ls) (runLost ls) := by
  have hp : (runRows L m (runLost ls) ls).length = offR ls := runRows_len h
  have el : runLost ls = offR ls + 1 := rfl
  constructor
  · unfold LS.Tb.nx runTab
    show List.getD (_ ++ _ ++ _) _ [] = _
    rw [List.getD_eq_getElem?_getD, List.append_assoc, List.getElem?_append_right (by omega), hp, Nat.sub_self] <;> rfl
  · unfold LS.Tb.nx runTab
    show List.getD (_ ++ _ ++ _) _ [] = _
    rw [List.getD_eq_getElem?_getD, List.append_assoc, List.getElem?_append_right (by omega), hp, el, show offR ls + 1 - offR ls = 1 by omega] <;> rfl
theorem runTab_acc {L : List Nat} {m : Nat} {ls : List Nat} (h : ∀ x ∈ ls, 1 ≤ x) {s : Nat} (hs : s < offR ls + 2) : (runTab L m ls).acc s = (s == offR ls || s + 1 == offR ls) := by
  have hp : (runRows L m (runLost ls) ls).length = offR ls := runRows_len h
  unfold LS.Tb.acc runTab
  show List.getD _ s false = _
  rw [hp, List.getD_eq_getElem?_getD, List.getElem?_map, List.getElem?_range hs] <;> rfl
theorem runTab_lostGo {L : List Nat} {m : Nat} {ls : List Nat} (h : ∀ x ∈ ls, 1 ≤ x) : ∀ {w : List Nat}, LS.Wd L.length w → LS.go (runTab L m ls).nx (runLost ls) w = runLost ls
  | [], _ => rfl
  | a :: w, hw => by
    rw [go_cons, (runTab_end h).2, byM_at hw.head]
    split <;> exact runTab_lostGo h hw.tail
theorem off_snoc (pre : List Nat) (r : Nat) : offR (pre ++ [r]) = offR pre + r + 1 := by
  unfold offR
  rw [List.sum_append, List.length_append]
  simp
  omega
theorem off_app (pre rest : List Nat) (r : Nat) : offR pre + r + 1 + offR rest = offR (pre ++ r :: rest) := by
  unfold offR
  rw [List.sum_append, List.length_append, List.sum_cons, List.length_cons]
  omega
mutual
theorem run_goG {L : List Nat} {m : Nat} {ls : List Nat} (h : ∀ x ∈ ls, 1 ≤ x) : ∀ (w : List Nat) (pre suf : List Nat), ls = pre ++ suf → LS.Wd L.length w → (runTab L m ls).acc (LS.go (runTab L m ls).nx (offR pre) w) = LS.rG suf (bm L m w)
  | [], pre, suf, e, _ => by
    show (runTab L m ls).acc (offR pre) = LS.rG suf []
    rw [LS.rG_nil]
    cases suf with
    | nil =>
      rw [List.append_nil] at e
      subst e
      rw [runTab_acc h (by omega)]
      simp
    | cons r rest =>
      have := off_app pre rest r
      rw [← e] at this
      have h1 := h r (by rw [e]; exact List.mem_append_right _ List.mem_cons_self)
      rw [runTab_acc h (by omega), show (offR pre == offR ls) = false from beq_eq_false_iff_ne.mpr (by omega), show (offR pre + 1 == offR ls) = false from beq_eq_false_iff_ne.mpr (by omega)] <;> rfl
  | a :: w, pre, [], e, hw => by
    rw [List.append_nil] at e
    subst e
    rw [go_cons, (runTab_end h).1, byM_at hw.head]
    show _ = LS.rG [] ((L.getD a 0 == m) :: bm L m w)
    by_cases em : L.getD a 0 = m
    · rw [if_pos em, runTab_lostGo h hw.tail, beq_iff_eq.mpr em, LS.rG_t0, runTab_acc h (by unfold runLost offR; omega)]
      have : runLost ls = offR ls + 1 := rfl
      rw [this, show (offR ls + 1 == offR ls) = false from beq_eq_false_iff_ne.mpr (by omega), show (offR ls + 1 + 1 == offR ls) = false from beq_eq_false_iff_ne.mpr (by omega)] <;> rfl
    · rw [if_neg em, show (L.getD a 0 == m) = false from beq_eq_false_iff_ne.mpr em, LS.rG_f]
      exact run_goG h w ls [] (by simp) hw.tail
  | a :: w, pre, r :: rest, e, hw => by
    subst e
    have h1 := h r (List.mem_append_right _ List.mem_cons_self)
    have hx := runTab_at (L := L) (m := m) (i := 0) h (Nat.zero_le r)
    rw [Nat.add_zero] at hx
    rw [go_cons, hx]
    show (runTab L m (pre ++ r :: rest)).acc (LS.go _ ((byM L m (offR pre + 1) (offR pre)).getD a (offR pre)) w) = LS.rG (r :: rest) ((L.getD a 0 == m) :: bm L m w)
    rw [byM_at hw.head]
    by_cases em : L.getD a 0 = m
    · rw [if_pos em, beq_iff_eq.mpr em, LS.rG_t]
      exact run_goI h w pre rest r 1 rfl (Nat.le_refl _) h1 hw.tail
    · rw [if_neg em, show (L.getD a 0 == m) = false from beq_eq_false_iff_ne.mpr em, LS.rG_f]
      exact run_goG h w pre (r :: rest) rfl hw.tail
theorem run_goI {L : List Nat} {m : Nat} {ls : List Nat} (h : ∀ x ∈ ls, 1 ≤ x) : ∀ (w : List Nat) (pre rest : List Nat) (r i : Nat), ls = pre ++ r :: rest → 1 ≤ i → i ≤ r → LS.Wd L.length w → (runTab L m ls).acc (LS.go (runTab L m ls).nx (offR pre + i) w) = LS.rI (r - i) rest (bm L m w)
  | [], pre, rest, r, i, e, hi, hr, _ => by
    show (runTab L m ls).acc (offR pre + i) = LS.rI (r - i) rest []
    have := off_app pre rest r
    rw [← e] at this
    rw [runTab_acc h (by omega), show (offR pre + i == offR ls) = false from beq_eq_false_iff_ne.mpr (by omega), Bool.false_or]
    by_cases e1 : i = r
    · subst e1
      rw [Nat.sub_self, LS.rI_nil0]
      cases rest with
      | nil =>
        have : offR ([] : List Nat) = 0 := rfl
        rw [show (offR pre + i + 1 == offR ls) = true from beq_iff_eq.mpr (by omega)] <;> rfl
      | cons y z =>
        have : 1 ≤ offR (y :: z) := by unfold offR; simp; omega
        rw [show (offR pre + i + 1 == offR ls) = false from beq_eq_false_iff_ne.mpr (by omega)] <;> rfl
    · obtain ⟨j, ej⟩ : ∃ j, r - i = j + 1 := ⟨r - i - 1, by omega⟩
      rw [ej, LS.rI_nil]
      exact beq_eq_false_iff_ne.mpr (by omega)
  | a :: w, pre, rest, r, i, e, hi, hr, hw => by
    subst e
    rw [go_cons, runTab_at h hr]
    show _ = LS.rI (r - i) rest ((L.getD a 0 == m) :: bm L m w)
    have hlost : (runTab L m (pre ++ r :: rest)).acc (runLost (pre ++ r :: rest)) = false := by
      rw [runTab_acc h (by unfold runLost offR; omega)]
      have : runLost (pre ++ r :: rest) = offR (pre ++ r :: rest) + 1 := rfl
      rw [this, show (offR (pre ++ r :: rest) + 1 == offR (pre ++ r :: rest)) = false from beq_eq_false_iff_ne.mpr (by omega), show (offR (pre ++ r :: rest) + 1 + 1 == offR (pre ++ r :: rest)) = false from beq_eq_false_iff_ne.mpr (by omega)] <;> rfl
    obtain ⟨i', rfl⟩ : ∃ i', i = i' + 1 := ⟨i - 1, by omega⟩
    by_cases e1 : i' + 1 = r
    · have eb : (runBlock L m (runLost (pre ++ r :: rest)) (offR pre) r).getD (i' + 1) [] = byM L m (runLost (pre ++ r :: rest)) (offR pre + r + 1) := by
        unfold runBlock
        rw [List.getD_eq_getElem?_getD, List.getElem?_append_right (by simp; omega)]
        simp [← e1]
      rw [eb, byM_at hw.head, e1, Nat.sub_self]
      by_cases em : L.getD a 0 = m
      · rw [if_pos em, beq_iff_eq.mpr em, LS.rI_t0, runTab_lostGo h hw.tail]
        exact hlost
      · rw [if_neg em, show (L.getD a 0 == m) = false from beq_eq_false_iff_ne.mpr em, LS.rI_f0, ← off_snoc]
        exact run_goG h w (pre ++ [r]) rest (by simp) hw.tail
    · have eb : (runBlock L m (runLost (pre ++ r :: rest)) (offR pre) r).getD (i' + 1) [] = byM L m (offR pre + (i' + 1) + 1) (runLost (pre ++ r :: rest)) := by
        unfold runBlock
        rw [List.getD_eq_getElem?_getD, List.getElem?_append_left (by simp; omega), List.getElem?_cons_succ, List.getElem?_map, List.getElem?_range (by omega)] <;> rfl
      obtain ⟨j, ej⟩ : ∃ j, r - (i' + 1) = j + 1 := ⟨r - (i' + 1) - 1, by omega⟩
      rw [eb, byM_at hw.head, ej]
      by_cases em : L.getD a 0 = m
      · rw [if_pos em, beq_iff_eq.mpr em, LS.rI_t, show j = r - (i' + 1 + 1) by omega]
        exact run_goI h w pre rest r (i' + 1 + 1) rfl (by omega) (by omega) hw.tail
      · rw [if_neg em, show (L.getD a 0 == m) = false from beq_eq_false_iff_ne.mpr em, LS.rI_f, runTab_lostGo h hw.tail]
        exact hlost
end
theorem runTab_lang {L : List Nat} {m : Nat} {ls : List Nat} (h : ∀ x ∈ ls, 1 ≤ x) {w : List Nat} (hw : LS.Wd L.length w) : (runTab L m ls).lang w = LS.rG ls (bm L m w) := run_goG h w [] ls rfl hw
end LW
end
section
set_option Elab.async false
set_option linter.all false
set_option maxRecDepth 100000
set_option maxHeartbeats 2000000
/-! the law's level: clues told by their languages -/
namespace LW
open PySem PySem.Spec PyProof.Rows L2 LamX
/-- what stays on the law's level -/
structure Kp (TT : List (Addr × Str)) (H H' : Hp) : Prop where
  ext : ExtN H H'
  tab : Tabs TT H → Tabs TT H'
theorem Kp.refl {TT : List (Addr × Str)} {H : Hp} : Kp TT H H := ⟨ExtN.refl H, fun t => t⟩
theorem Kp.of {TT : List (Addr × Str)} {H H' : Hp} (s : Same H H') : Kp TT H H' := ⟨ExtN.of s, fun t => t.ext s⟩
theorem Kp.trans {TT : List (Addr × Str)} {H H1 H2 : Hp} (a : Kp TT H H1) (b : Kp TT H1 H2) : Kp TT H H2 := ⟨a.ext.trans b.ext, fun t => b.tab (a.tab t)⟩
/-- a clue with the language f -/
def ClueL (c : Cs) (H : Hp) (q v : Addr) (L : List Nat) (f : List Nat → Bool) : Prop := ∃ T, ClueO c H q v L T ∧ ∀ w, LS.Wd L.length w → T.lang w = f w
theorem ClueL.same {c : Cs} {H H' : Hp} {q v : Addr} {L : List Nat} {f : List Nat → Bool} (e : Same H H') (h : ClueL c H q v L f) : ClueL c H' q v L f := let ⟨T, h1, h2⟩ := h; ⟨T, h1.same e, h2⟩
theorem ClueL.kp {TT : List (Addr × Str)} {c : Cs} {H H' : Hp} {q v : Addr} {L : List Nat} {f : List Nat → Bool} (e : Kp TT H H') (h : ClueL c H q v L f) : ClueL c H' q v L f := let ⟨T, h1, h2⟩ := h; ⟨T, h1.extN e.ext, h2⟩
theorem ClueL.congr {c : Cs} {H : Hp} {q v : Addr} {L : List Nat} {f g : List Nat → Bool} (h : ClueL c H q v L f) (e : ∀ w, LS.Wd L.length w → f w = g w) : ClueL c H q v L g := let ⟨T, h1, h2⟩ := h; ⟨T, h1, fun w hw => (h2 w hw).trans (e w hw)⟩
theorem ClueO.le {c : Cs} {H : Hp} {q v : Addr} {L : List Nat} {T : LS.Tb} {n : Nat} {f : List Nat → Bool} (h : ClueO c H q v L T) (e : ∀ w, LS.Wd L.length w → T.lang w = f w) (s : Small L.length n f) : T.st.length ≤ n := by
  obtain ⟨D, d1, d2, d3⟩ := s
  exact Nat.le_trans (h.can.least d1 fun w hw => (e w hw).trans (d2 w hw).symm) d3
/-- products of small tables -/
theorem Small.op {k m n : Nat} {f g : List Nat → Bool} (r : Bool → Bool → Bool) (hf : Small k m f) (hg : Small k n g) : Small k (m * n) (fun w => r (f w) (g w)) := by
  obtain ⟨A, a1, a2, a3⟩ := hf
  obtain ⟨B, b1, b2, b3⟩ := hg
  obtain ⟨o, _, W, h0, hlt, _⟩ := LS.pair_spec a1 b1
  refine ⟨LS.tabOf (LS.pairNx A B) (LS.pairOk r A B) o, W.tab_ok ?_, fun w hw => ?_, ?_⟩
  · exact List.length_pos_iff.mpr fun z => by rw [z] at h0; cases h0
  · show _ = r (f w) (g w)
    rw [← a2 w hw, ← b2 w hw]
    exact LS.pair_lang a1 b1 W h0 hw
  · have hl : (LS.tabOf (LS.pairNx A B) (LS.pairOk r A B) o).st.length = o.length := by unfold LS.tabOf; simp
    rw [hl]
    exact Nat.le_trans (LS.nodup_pairs W.nd hlt) (Nat.mul_le_mul a3 b3)
theorem Small.le {k m n : Nat} {f : List Nat → Bool} (h : Small k m f) (e : m ≤ n) : Small k n f := let ⟨D, d1, d2, d3⟩ := h; ⟨D, d1, d2, Nat.le_trans d3 e⟩
theorem Small.not {k n : Nat} {f : List Nat → Bool} (h : Small k n f) : Small k n (fun w => !f w) := by
  obtain ⟨A, a1, a2, a3⟩ := h
  exact ⟨LS.notTb A, LS.notTb_ok a1, fun w hw => by rw [LS.notTb_lang a1 hw, a2 w hw], a3⟩
section
variable {K : PySem.W.Frag} {mg : Str → Option Value} {c : Cs} {H : Hp} {Q : VK} {q1 q2 v1 v2 : Addr} {L : List Nat} {f g : List Nat → Bool}
theorem rd_op2 (Z : TC K mg c) {op : Operator} {fO : Addr} {r : Rule} {m n : Nat} (hS : ∀ C ∈ c.clues, Sp1 K C fO (PySem.dunder op.info.2)) (hop : op.info.2 ∈ ops) (ha : ClueL c H q1 v1 L f) (hb : ClueL c H q2 v2 L g) (hL : L.length ≤ 4) (hf : Small L.length m f) (hg : Small L.length n g) (hz : m * n ≤ 1000)
    (sm : Small L.length 64 (fun w => r.f (f w) (g w))) (kk : ∀ q H', Same H H' → ClueL c H' q v1 L (fun w => r.f (f w) (g w)) → Q (.ref q) H') : rOw2 K op fO (spOp2 c r) (.ref q1) (.ref q2) H Q := by
  obtain ⟨A, hA, eA⟩ := ha
  obtain ⟨B, hB, eB⟩ := hb
  obtain ⟨C1, d1, f1, _, _, a1, a2, _⟩ := hA.ex
  obtain ⟨C2, d2, f2, _, _, b1, b2, _⟩ := hB.ex
  have e : ∀ w, LS.Wd L.length w → r.f (A.lang w) (B.lang w) = r.f (f w) (g w) := fun w hw => by rw [eA w hw, eB w hw]
  refine ⟨q1, q2, C1, C2, d1, d2, f1, f2, rfl, rfl, a1, b1, hS C1 a2, ⟨fO, hS C2 b2⟩, Z.bin C1 a2 C2 b2 _ hop, q1, q2, v1, v2, L, A, B, rfl, hA, hB, hL, Nat.le_trans (Nat.mul_le_mul (hA.le eA hf) (hB.le eB hg)) hz, sm.congr fun w hw => (e w hw).symm, fun q T' H' s hq lg => ?_⟩
  exact kk q H' s ⟨T', hq, fun w hw => (lg w hw).trans (e w hw)⟩
theorem rd_inv (Z : TC K mg c) (ha : ClueL c H q1 v1 L f) (hL : L.length ≤ 4) (kk : ∀ q H', Same H H' → ClueL c H' q v1 L (fun w => !f w) → Q (.ref q) H') : rOw1 K c.fInv "__invert__" (spInv c) (.ref q1) H Q := by
  obtain ⟨A, hA, eA⟩ := ha
  obtain ⟨C1, d1, f1, _, _, a1, a2, _⟩ := hA.ex
  exact ⟨q1, C1, d1, f1, rfl, a1, (Z.cc C1 a2).inv, q1, v1, L, A, rfl, hA, hL, fun q T' H' s hq lg => kk q H' s ⟨T', hq, fun w hw => by rw [lg w hw, eA w hw]⟩⟩
theorem rd_neg (Z : TC K mg c) (ha : ClueL c H q1 v1 L f) (hL : L.length ≤ 4) (sm : Small L.length 64 (fun w => f w.reverse)) (kk : ∀ q H', Same H H' → ClueL c H' q v1 L (fun w => f w.reverse) → Q (.ref q) H') : rOw1 K c.fNeg "__neg__" (spNeg c) (.ref q1) H Q := by
  obtain ⟨A, hA, eA⟩ := ha
  obtain ⟨C1, d1, f1, _, _, a1, a2, _⟩ := hA.ex
  exact ⟨q1, C1, d1, f1, rfl, a1, (Z.cc C1 a2).neg, q1, v1, L, A, rfl, hA, hL, sm.congr fun w hw => (eA _ hw.rev).symm, fun q T' H' s hq lg => kk q H' s ⟨T', hq, fun w hw => by rw [lg w hw, eA _ hw.rev]⟩⟩
theorem rd_eq (Z : TC K mg c) (ha : ClueL c H q1 v1 L f) (hb : ClueL c H q2 v2 L g) (kk : ∀ b H', (b = true ↔ ∀ w, LS.Wd L.length w → f w = g w) → Same H H' → Q (.bl b) H') : rOwEq K c.fEq (spEqC c) (.ref q1) (.ref q2) H Q := by
  obtain ⟨A, hA, eA⟩ := ha
  obtain ⟨B, hB, eB⟩ := hb
  obtain ⟨C1, d1, f1, _, _, a1, a2, _⟩ := hA.ex
  obtain ⟨C2, d2, f2, _, _, b1, b2, _⟩ := hB.ex
  refine ⟨q1, q2, C1, C2, d1, d2, f1, f2, rfl, rfl, a1, b1, (Z.cc C1 a2).eq, (Z.cc C2 b2).eq, Z.ord C1 a2 C2 b2, ⟨q1, q2, v1, v2, L, A, B, rfl, hA, hB, fun b H' hb' s => kk b H' (hb'.trans ?_) s⟩, ⟨q2, q1, v2, v1, L, B, A, rfl, hB, hA, fun b H' hb' s => kk b H' (hb'.trans ?_) s⟩⟩
  · exact ⟨fun h w hw => by rw [← eA w hw, ← eB w hw]; exact h w hw, fun h w hw => by rw [eA w hw, eB w hw]; exact h w hw⟩
  · exact ⟨fun h w hw => by rw [← eA w hw, ← eB w hw]; exact (h w hw).symm, fun h w hw => by rw [eA w hw, eB w hw]; exact (h w hw).symm⟩
theorem rd_ne (Z : TC K mg c) (ha : ClueL c H q1 v1 L f) (hb : ClueL c H q2 v2 L g) (kk : ∀ b H', (b = true ↔ ∀ w, LS.Wd L.length w → f w = g w) → Same H H' → Q (.bl (!b)) H') : rOwNe K c.fEq (spEqC c) (.ref q1) (.ref q2) H Q := by
  obtain ⟨A, hA, eA⟩ := ha
  obtain ⟨B, hB, eB⟩ := hb
  obtain ⟨C1, d1, f1, _, _, a1, a2, _⟩ := hA.ex
  obtain ⟨C2, d2, f2, _, _, b1, b2, _⟩ := hB.ex
  refine ⟨q1, q2, C1, C2, d1, d2, f1, f2, rfl, rfl, a1, b1, (Z.cc C1 a2).eq, (Z.cc C2 b2).eq, (Z.cc C1 a2).ne, (Z.cc C2 b2).ne, Z.ord C1 a2 C2 b2, ⟨q1, q2, v1, v2, L, A, B, rfl, hA, hB, fun b H' hb' s => ⟨b, rfl, kk b H' (hb'.trans ?_) s⟩⟩, ⟨q2, q1, v2, v1, L, B, A, rfl, hB, hA, fun b H' hb' s => ⟨b, rfl, kk b H' (hb'.trans ?_) s⟩⟩⟩
  · exact ⟨fun h w hw => by rw [← eA w hw, ← eB w hw]; exact h w hw, fun h w hw => by rw [eA w hw, eB w hw]; exact h w hw⟩
  · exact ⟨fun h w hw => by rw [← eA w hw, ← eB w hw]; exact (h w hw).symm, fun h w hw => by rw [eA w hw, eB w hw]; exact (h w hw).symm⟩
theorem rd_bool (Z : TC K mg c) (ha : ClueL c H q1 v1 L f) (kk : ∀ b H', (b = true ↔ ∃ w, LS.Wd L.length w ∧ f w = true) → Same H H' → Q (.bl b) H') : rBoolOw K c.fBool (spBool c) [.ref q1] H Q := by
  obtain ⟨A, hA, eA⟩ := ha
  obtain ⟨C1, d1, f1, _, _, a1, a2, _⟩ := hA.ex
  refine ⟨q1, C1, d1, f1, rfl, a1, (Z.cc C1 a2).bool, q1, v1, L, A, rfl, hA, fun b H' hb s => ⟨b, rfl, kk b H' (hb.trans ?_) s⟩⟩
  exact ⟨fun ⟨w, hw, h⟩ => ⟨w, hw, by rw [← eA w hw]; exact h⟩, fun ⟨w, hw, h⟩ => ⟨w, hw, by rw [eA w hw]; exact h⟩⟩
theorem rd_within (Z : TC K mg c) (ha : ClueL c H q1 v1 L f) (hb : ClueL c H q2 v2 L g) (hL : L.length ≤ 4) (kk : ∀ b H', (b = true ↔ ∀ w, LS.Wd L.length w → f w = true → g w = true) → Same H H' → Q (.bl b) H') : spWithin c [.ref q1, .ref q2] H Q E0 := by
  obtain ⟨A, hA, eA⟩ := ha
  obtain ⟨B, hB, eB⟩ := hb
  refine ⟨q1, q2, v1, v2, L, A, B, rfl, hA, hB, hL, fun b H' hb' s => kk b H' (hb'.trans ?_) s⟩
  exact ⟨fun h w hw x => by rw [← eB w hw]; exact h w hw (by rw [eA w hw]; exact x), fun h w hw x => by rw [eB w hw]; exact h w hw (by rw [← eA w hw]; exact x)⟩
theorem rd_count (Z : TC K mg c) {n : Nat} (ha : ClueL c H q1 v1 L f) (hL : L.length ≤ 4) (hn : n ≤ 1000) (kk : ∀ H', Same H H' → Q (nV (LS.cnt L.length n f)) H') : spCount c [.ref q1, nV n] H Q E0 := by
  obtain ⟨A, hA, eA⟩ := ha
  refine ⟨q1, v1, L, A, n, rfl, hA, hL, hn, fun H' s => ?_⟩
  rw [LS.cnt_congr eA]
  exact kk H' s
theorem rd_renamed (Z : TC K mg c) {nd : Addr} {h : Nat → Nat} (ha : ClueL c H q1 v1 L f) (hL : L.length ≤ 4) (hd : H nd = some (.dK (nmsOf h L))) (hM : Abc (L.map h)) (kk : ∀ q v' H', Same H H' → ClueL c H' q v' (L.map h) f → Q (.ref q) H') : spRenamed c [.ref q1, .ref nd] H Q E0 := by
  obtain ⟨A, hA, eA⟩ := ha
  refine ⟨q1, v1, nd, L, A, h, rfl, hA, hL, hd, hM, fun q v' T' H' s hq lg => kk q v' H' s ⟨T', hq, fun w hw => ?_⟩⟩
  rw [List.length_map] at hw
  rw [lg w hw, eA w hw]
/-- a clue's method is there -/
theorem rd_me (Z : TC K mg c) (ha : ClueL c H q1 v1 L f) : ∃ C dx fs, H q1 = some (.ins C dx fs) ∧ Cls K C ∧ ClC K c C ∧ ∀ m ∈ clueMs, fs.lookup m = none := by
  obtain ⟨A, hA, eA⟩ := ha
  obtain ⟨C1, d1, f1, _, _, a1, a2, _, _, _, a6, _⟩ := hA.ex
  exact ⟨C1, d1, f1, a1, (Z.cq a2).cls, Z.cc C1 a2, a6⟩
end
/-! ### the kinds -/
/-- what the law asks of the text -/
structure TL (P : Program) (K : PySem.W.Frag) (mg : Str → Option Value) (base : Heap) (c : Cs) (TT : List (Addr × Str)) : Prop where
  Z : TC K mg c
  kRuns : ∃ f, KindM P K mg base c TT "Runs.__init__" st_Runs_init c.runs f
  kNeig : ∃ f, KindM P K mg base c TT "Neighbours.__init__" st_Neighbours_init c.neig f
  kList : ∃ f, KindM P K mg base c TT "Listed.__init__" st_Listed_init c.list f
  kFew : ∃ f, KindF P K mg c "Few.__init__" st_Few_init .none c.few f
  kModu : ∃ f T0 u cl d nn sl, KindF P K mg c "Modulo.__init__" st_Modulo_init (.ref T0) c.modu f ∧ K.lookup T0 = some ⟨cl, d, .seq #[u] nn, sl⟩
  kEnds : ∃ f, KindF P K mg c "Ends.__init__" st_Ends_init .none c.ends f
  kEvry : ∃ f, KindF P K mg c "Every.__init__" st_Every_init .none c.evry f
  kNevr : ∃ f, KindF P K mg c "Never.__init__" st_Never_init .none c.nevr f
  g_Runs : mg "Runs" = some (.ref c.runs)
  g_Few : mg "Few" = some (.ref c.few)
  g_Modulo : mg "Modulo" = some (.ref c.modu)
  g_Neighbours : mg "Neighbours" = some (.ref c.neig)
  g_Ends : mg "Ends" = some (.ref c.ends)
  g_Listed : mg "Listed" = some (.ref c.list)
  g_Every : mg "Every" = some (.ref c.evry)
  g_Never : mg "Never" = some (.ref c.nevr)
/-- from the new instance's frame to the caller's -/
theorem kp_made {TT : List (Addr × Str)} {H H' : Hp} {x dx : Addr} {o o' : HO} (nx : H x = none) (ndx : H dx = none) (e : ExtX [x] (upd (upd H dx o) x o') H') (t : Tabs TT H → Tabs TT H') : Kp TT H H' := by
  refine ⟨fun b u hb ht => ?_, t⟩
  have n1 := ne_of_none hb nx
  have n2 := ne_of_none hb ndx
  exact e b u (by simpa using n1) (by rw [upd_ne n1, upd_ne n2]; exact hb) ht
section
variable {K : PySem.W.Frag} {mg : Str → Option Value} {c : Cs} {H : Hp} {Q : VK} {v x dx : Addr} {L : List Nat} {TT : List (Addr × Str)}
theorem mk_few {m n : Nat} (hv : ValO c H v L) (hL : L.length ≤ 4) (hm : m ∈ L) (hn : n ≤ 60) (nx : H x = none) (nd : H dx = none) {R : Hp → Prop} (kk : ∀ H', Same H H' → ClueL c H' x v L (fun w => decide (cm L m w ≤ n)) → R H') :
    spFew c c.few [.ref x, .ref v, .str (Sg [m]), nV n] (upd (upd H dx (.own x)) x (.ins c.few dx [])) (fun z H2 => z = .non ∧ R H2) E0 := by
  have s1 : Same H (upd (upd H dx (.own x)) x (.ins c.few dx [])) := sm_upd (sm_upd (Same.refl H) nd) nx
  exact ⟨x, v, dx, L, m, n, rfl, upd_same, hv.same s1, hL, hm, hn, fun T' H' sx hq lg => ⟨rfl, kk H' (made_same (Same.refl H) nx nd sx) ⟨T', hq, lg⟩⟩⟩
theorem mk_mod {m md rest : Nat} (hv : ValO c H v L) (hL : L.length ≤ 4) (hm : m ∈ L) (h1 : 1 ≤ md) (h2 : md ≤ 60) (h3 : rest < md) (nx : H x = none) (nd : H dx = none) {R : Hp → Prop} (kk : ∀ H', Same H H' → ClueL c H' x v L (fun w => decide (cm L m w % md = rest)) → R H') :
    spMod c c.modu [.ref x, .ref v, .str (Sg [m]), nV md, nV rest] (upd (upd H dx (.own x)) x (.ins c.modu dx [])) (fun z H2 => z = .non ∧ R H2) E0 := by
  have s1 : Same H (upd (upd H dx (.own x)) x (.ins c.modu dx [])) := sm_upd (sm_upd (Same.refl H) nd) nx
  exact ⟨x, v, dx, L, m, md, rest, rfl, upd_same, hv.same s1, hL, hm, h1, h2, h3, fun T' H' sx hq lg => ⟨rfl, kk H' (made_same (Same.refl H) nx nd sx) ⟨T', hq, lg⟩⟩⟩
theorem mk_const {C : Addr} {b : Bool} (hv : ValO c H v L) (hL : L.length ≤ 4) (nx : H x = none) (nd : H dx = none) {R : Hp → Prop} (kk : ∀ H', Same H H' → ClueL c H' x v L (fun _ => b) → R H') :
    spConst c C b [.ref x, .ref v] (upd (upd H dx (.own x)) x (.ins C dx [])) (fun z H2 => z = .non ∧ R H2) E0 := by
  have s1 : Same H (upd (upd H dx (.own x)) x (.ins C dx [])) := sm_upd (sm_upd (Same.refl H) nd) nx
  exact ⟨x, v, dx, L, rfl, upd_same, hv.same s1, hL, fun T' H' sx hq lg => ⟨rfl, kk H' (made_same (Same.refl H) nx nd sx) ⟨T', hq, lg⟩⟩⟩
theorem mk_ends {a b : List Nat} (hv : ValO c H v L) (hL : L.length ≤ 4) (hn : L.Nodup) (ha1 : a.length ≤ 4) (ha2 : a.Nodup) (ha3 : ∀ y ∈ a, y ∈ L) (hb1 : b.length ≤ 4) (hb2 : b.Nodup) (hb3 : ∀ y ∈ b, y ∈ L) (nx : H x = none) (nd : H dx = none)
    {R : Hp → Prop} (kk : ∀ H', Same H H' → ClueL c H' x v L (fun w => firstIn L a w && lastIn L b w) → R H') :
    spEnds c c.ends [.ref x, .ref v, .str (Sg a), .str (Sg b)] (upd (upd H dx (.own x)) x (.ins c.ends dx [])) (fun z H2 => z = .non ∧ R H2) E0 := by
  have s1 : Same H (upd (upd H dx (.own x)) x (.ins c.ends dx [])) := sm_upd (sm_upd (Same.refl H) nd) nx
  exact ⟨x, v, dx, L, a, b, rfl, upd_same, hv.same s1, hL, hn, ha1, ha2, ha3, hb1, hb2, hb3, fun T' H' sx hq lg => ⟨rfl, kk H' (made_same (Same.refl H) nx nd sx) ⟨T', hq, lg⟩⟩⟩
/-- the three kinds with a star: the rest is laid as a tuple -/
theorem star_frame {C p : Addr} {rest : List V} (nx : H x = none) (nd : H dx = none) (np : upd (upd H dx (.own x)) x (.ins C dx []) p = none) : Same H (upd (upd (upd H dx (.own x)) x (.ins C dx [])) p (.tup rest)) ∧ p ≠ x ∧ H p = none := by
  have s1 : Same H (upd (upd H dx (.own x)) x (.ins C dx [])) := sm_upd (sm_upd (Same.refl H) nd) nx
  refine ⟨sm_trans s1 (same_new np), (fun z => by rw [z, upd_same] at np; cases np), ?_⟩
  cases e : H p with
  | none => rfl
  | some o => rw [s1 _ _ e] at np; cases np
theorem kp_star {C p : Addr} {rest : List V} {H' : Hp} (nx : H x = none) (nd : H dx = none) (np : upd (upd H dx (.own x)) x (.ins C dx []) p = none) (e : ExtX [x] (upd (upd (upd H dx (.own x)) x (.ins C dx [])) p (.tup rest)) H') (t : Tabs TT H') : Kp TT H H' := by
  obtain ⟨s, _, _⟩ := star_frame (rest := rest) nx nd np
  exact ⟨fun b u hb ht => e b u (by simpa using ne_of_none hb nx) (s _ _ hb) ht, fun _ => t⟩
theorem mk_runs {m : Nat} {ls : List Nat} (hv : ValO c H v L) (hL : L.length ≤ 4) (hm : m ∈ L) (h1 : ls.length ≤ 8) (h2 : ∀ r ∈ ls, 1 ≤ r ∧ r ≤ 30) (h3 : ls.sum + ls.length + 2 ≤ 64) (hT : Tabs TT H) (nx : H x = none) (nd : H dx = none)
    {R : Hp → Prop} (kk : ∀ H', Kp TT H H' → ClueL c H' x v L (fun w => LS.rG ls (bm L m w)) → R H') :
    ∃ ws rest, [V.ref x, .ref v, .str (Sg [m])] ++ ls.map nV = ws ++ rest ∧ ws.length = 3 ∧ rest.length ≤ sizeLine ∧ ∀ p, upd (upd H dx (.own x)) x (.ins c.runs dx []) p = Option.none → spRuns c c.runs TT (ws ++ [V.ref p]) (upd (upd (upd H dx (.own x)) x (.ins c.runs dx [])) p (.tup rest)) (fun z H2 => z = .non ∧ R H2) E0 := by
  refine ⟨[.ref x, .ref v, .str (Sg [m])], ls.map nV, rfl, rfl, by rw [List.length_map]; exact Nat.le_of_lt (small5 (by omega)), fun p np => ?_⟩
  obtain ⟨s, nxp, np0⟩ := star_frame (rest := ls.map nV) nx nd np
  refine ⟨x, v, dx, p, L, m, ls, rfl, by rw [upd_ne (Ne.symm nxp), upd_same], hv.same s, hL, hm, upd_same, h1, h2, h3, hT.ext s, fun T' H' e t hq lg => ⟨rfl, ?_⟩⟩
  exact kk H' (kp_star nx nd np e t) ⟨T', hq, fun w hw => (lg w hw).trans (runTab_lang (fun r hr => (h2 r hr).1) hw)⟩
theorem mk_list {ws : List (List Nat)} (hv : ValO c H v L) (hL : L.length ≤ 4) (h1 : ws.length ≤ 20) (h2 : ∀ w ∈ ws, w.length ≤ 30 ∧ ∀ y ∈ w, y ∈ L) (h3 : (ws.map List.length).sum + 2 ≤ 64) (hT : Tabs TT H) (nx : H x = none) (nd : H dx = none)
    {R : Hp → Prop} (kk : ∀ H', Kp TT H H' → ClueL c H' x v L (fun w => decide (spell L w ∈ ws)) → R H') :
    ∃ us rest, [V.ref x, .ref v] ++ ws.map (fun w => V.str (Sg w)) = us ++ rest ∧ us.length = 2 ∧ rest.length ≤ sizeLine ∧ ∀ p, upd (upd H dx (.own x)) x (.ins c.list dx []) p = Option.none → spListed c c.list TT (us ++ [V.ref p]) (upd (upd (upd H dx (.own x)) x (.ins c.list dx [])) p (.tup rest)) (fun z H2 => z = .non ∧ R H2) E0 := by
  refine ⟨[.ref x, .ref v], ws.map (fun w => V.str (Sg w)), rfl, rfl, by rw [List.length_map]; exact Nat.le_of_lt (small5 (by omega)), fun p np => ?_⟩
  obtain ⟨s, nxp, np0⟩ := star_frame (rest := ws.map fun w => V.str (Sg w)) nx nd np
  refine ⟨x, v, dx, p, L, ws, rfl, by rw [upd_ne (Ne.symm nxp), upd_same], hv.same s, hL, upd_same, h1, h2, h3, hT.ext s, fun T' H' e t hq lg => ⟨rfl, ?_⟩⟩
  exact kk H' (kp_star nx nd np e t) ⟨T', hq, lg⟩
theorem mk_neig {ps : List (List Nat)} (hv : ValO c H v L) (hL : L.length ≤ 4) (h1 : ps.length ≤ 100) (h2 : ∀ w ∈ ps, w.length = 2 ∧ ∀ y ∈ w, y ∈ L) (hT : Tabs TT H) (nx : H x = none) (nd : H dx = none)
    {R : Hp → Prop} (kk : ∀ H', Kp TT H H' → ClueL c H' x v L (nbr L ps) → R H') :
    ∃ us rest, [V.ref x, .ref v] ++ ps.map (fun w => V.str (Sg w)) = us ++ rest ∧ us.length = 2 ∧ rest.length ≤ sizeLine ∧ ∀ p, upd (upd H dx (.own x)) x (.ins c.neig dx []) p = Option.none → spNeig c c.neig TT (us ++ [V.ref p]) (upd (upd (upd H dx (.own x)) x (.ins c.neig dx [])) p (.tup rest)) (fun z H2 => z = .non ∧ R H2) E0 := by
  refine ⟨[.ref x, .ref v], ps.map (fun w => V.str (Sg w)), rfl, rfl, by rw [List.length_map]; exact Nat.le_of_lt (small5 (by omega)), fun p np => ?_⟩
  obtain ⟨s, nxp, np0⟩ := star_frame (rest := ps.map fun w => V.str (Sg w)) nx nd np
  refine ⟨x, v, dx, p, L, ps, rfl, by rw [upd_ne (Ne.symm nxp), upd_same], hv.same s, hL, upd_same, h1, h2, hT.ext s, fun T' H' e t hq lg => ⟨rfl, ?_⟩⟩
  exact kk H' (kp_star nx nd np e t) ⟨T', hq, lg⟩
end
end LW
end
section
set_option Elab.async false
set_option linter.all false
set_option maxRecDepth 100000
set_option maxHeartbeats 2000000
/-! the law's pen -/
namespace LW
open PySem PySem.Spec PyProof.Rows L2 LamX
/-- the pen: numbers, a place, a rest; n draws at most so far -/
def PenO (H : Hp) (pn ls : Addr) (n : Nat) : Prop := ∃ (xs : List Int) (at_ gr : Int), H pn = some (.lst [.ref ls, .int at_, .int gr]) ∧ H ls = some (.lst (xs.map V.int)) ∧ ls ≠ pn ∧ 0 ≤ at_ ∧ at_ ≤ n
/-- all but the pen stays, tables grow -/
structure Kq (TT : List (Addr × Str)) (pn : Addr) (H H' : Hp) : Prop where
  ext : ExtX [pn] H H'
  tab : Tabs TT H → Tabs TT H'
theorem Kq.refl {TT : List (Addr × Str)} {pn : Addr} {H : Hp} : Kq TT pn H H := ⟨fun b o _ e _ => e, fun t => t⟩
theorem Kq.trans {TT : List (Addr × Str)} {pn : Addr} {H H1 H2 : Hp} (a : Kq TT pn H H1) (b : Kq TT pn H1 H2) : Kq TT pn H H2 := ⟨fun d o n e t => b.ext d o n (a.ext d o n e t) t, fun t => b.tab (a.tab t)⟩
theorem Kq.of {TT : List (Addr × Str)} {pn : Addr} {H H' : Hp} (a : Kp TT H H') : Kq TT pn H H' := ⟨fun b o _ e t => a.ext b o e t, a.tab⟩
theorem Kq.same {TT : List (Addr × Str)} {pn : Addr} {H H' : Hp} (a : Same H H') : Kq TT pn H H' := .of (.of a)
theorem PenO.kp {TT : List (Addr × Str)} {H H' : Hp} {pn ls : Addr} {n : Nat} (h : PenO H pn ls n) (e : Kp TT H H') : PenO H' pn ls n := by
  obtain ⟨xs, a, g, h1, h2, h3⟩ := h
  exact ⟨xs, a, g, e.ext _ _ h1 (fun ps z => by cases z), e.ext _ _ h2 (fun ps z => by cases z), h3⟩
/-- a draw: some digit below many -/
def spDraw : Sp := fun vs H Q _ => ∃ (pn ls : Addr) (n many : Nat), vs = [.ref pn, nV many] ∧ PenO H pn ls n ∧ n ≤ 90000 ∧ 1 ≤ many ∧ many ≤ 1000 ∧ ∀ d H', d < many → SameX [pn] H H' → PenO H' pn ls (n + 1) → Q (nV d) H'
theorem Kq.draw {TT : List (Addr × Str)} {pn : Addr} {H H' : Hp} {xs : List V} (hp : H pn = some (.lst xs)) (e : SameX [pn] H H') : Kq TT pn H H' := by
  refine ⟨fun b o n h _ => e b o n h, fun t p hm => ?_⟩
  obtain ⟨ps, h1, h2, h3⟩ := t p hm
  refine ⟨ps, e _ _ (fun z => by rw [List.mem_singleton] at z; rw [z, hp] at h1; cases h1) h1, h2, fun pos cv hc => ?_⟩
  obtain ⟨c', e1, e2⟩ := h3 pos cv hc
  exact ⟨c', e1, e _ _ (fun z => by rw [List.mem_singleton] at z; rw [z, hp] at e2; unfold CodeO at e2; cases e2) e2⟩
abbrev st_law_draw : Stmt := top 61
theorem sc_law_draw : FnScope ["_law_pen_here", "_law_many", "_law_digit", "_law_at", "_law_cell", "_law_great", "_law_mixed"] ["_law_pen_here", "_law_many"] (defScope st_law_draw) := ⟨rfl, rfl, rfl, by decide +kernel, rfl, by decide +kernel, by decide +kernel⟩
section
variable {P : Program} {w : World} {K : PySem.W.Frag} {mg : Str → Option Value} {base : Heap}
theorem mod_nat {a : Int} {m : Nat} (h : 1 ≤ m) : ∃ d : Nat, a % (m : Int) = (d : Int) ∧ d < m := by
  have h1 := Int.emod_nonneg a (b := (m : Int)) (by omega)
  have h2 := Int.emod_lt_of_pos a (b := (m : Int)) (by omega)
  exact ⟨(a % (m : Int)).toNat, by omega, by omega⟩
theorem mix_bound {mx a : Int} (h1 : 0 ≤ mx) (h2 : mx < 2147483587) (h3 : 0 ≤ a) (h4 : a ≤ 90000) : (mx * (2 * a + 57) + 57839 * a * a + 127).natAbs < 2 ^ 64 := by
  have e1 : mx * (2 * a + 57) ≤ 2147483587 * 180057 := Int.mul_le_mul (by omega) (by omega) (by omega) (by omega)
  have e2 : 0 ≤ mx * (2 * a + 57) := Int.mul_nonneg h1 (by omega)
  have e3 : 57839 * a * a ≤ 57839 * 90000 * 90000 := Int.mul_le_mul (by omega) h4 h3 (by omega)
  have e4 : 0 ≤ 57839 * a * a := Int.mul_nonneg (by omega) h3
  omega
theorem modV {x : Int} {m : Nat} (Q : VK) {H : Hp} (h : 1 ≤ m) (k : ∀ d : Nat, d < m → Q (nV d) H) : Q (.int (x % (m : Int))) H := by
  obtain ⟨d, e, hd⟩ := mod_nat (a := x) h
  rw [e]
  exact k d hd
theorem c_law_draw (T : Txt K mg) : Cal P w K mg base "_law_draw" 1 ["_law_pen_here", "_law_many"] spDraw := by
  refine FunG.cal T.f_law_draw sc_law_draw (fun _ _ _ _ _ _ us hl => match us, hl with | [_, _], _ => rfl) (fun vs H Q E h => ?_) (fun f cdv A outer s H vs Q E hr h => ?_)
  · obtain ⟨pn, ls, n, many, rfl, _⟩ := h
    rfl
  · obtain ⟨pn, ls, n, many, rfl, ⟨xs, at_, gr, hp, hls, hne, h0, h1⟩, hn, hm1, hm2, kk⟩ := h
    have hu : (A.deeper (envOfC "_law_draw" (defScope st_law_draw) s.heap.objs.size f cdv)).units + 64 < cLine := hr.units
--TERM _law_draw
    refine ⟨_, (pss_cons (ps_if (pt_cmpR op_gt (pe_ix (ix_listK K) (pv 0) pe_int (fun _ _ => rfl)) pe_int (nomark _)) (pss_cons (ps_set (i := 2) sc_law_draw.nd rfl (Or.inl rfl) (pe_op op_mod (pe_callTy call_int1 (by rfl) T.b_int bt_int (pa_cons (pe_ix (ix_listK K) (pv 0) pe_int (fun _ _ => rfl)) pa_nil)) (pv 1)))
  (pss_cons (ps_asg (pe_op op_fdiv (pe_callTy call_int1 (by rfl) T.b_int bt_int (pa_cons (pe_ix (ix_listK K) (pv 0) pe_int (fun _ _ => rfl)) pa_nil)) (pv 1)) (pg_sub (pv 0) pe_int set_list))
  (pss_one (ps_ret (pv 2)))))
  pss_nil)
  (pss_cons (ps_set (i := 3) sc_law_draw.nd rfl (Or.inl rfl) (pe_ix (ix_listK K) (pv 0) pe_int (fun _ _ => rfl)))
  (pss_cons (ps_asg (pe_op op_add (pv 3) pe_int) (pg_sub (pv 0) pe_int set_list))
  (pss_cons (ps_set (i := 4) sc_law_draw.nd rfl (Or.inl rfl) (pe_op op_add (pe_op op_mul pe_int (pv 3)) pe_int))
  (pss_cons (ps_if (pt_cmpR (op_neDK K hu) (pe_ix (ix_listK K) (pv 0) pe_int (fun _ _ => rfl)) (pe_lst pa_nil) (nomark _)) (pss_one (ps_set (i := 4) sc_law_draw.nd rfl (Or.inl rfl) (pe_ix (ix_listK K) (pe_ix (ix_listK K) (pv 0) pe_int (fun _ _ => rfl)) (pe_op op_mod (pe_callTy call_int1 (by rfl) T.b_int bt_int (pa_cons (pv 3) pa_nil)) (pe_callB (call_lenK K) (by rfl) T.b_len PySem.boot_len (pa_cons (pe_ix (ix_listK K) (pv 0) pe_int (fun _ _ => rfl)) pa_nil))) (fun _ _ => rfl))))
  pss_nil)
  (pss_cons (ps_if (PW.pt (pw_and (pt_cmpR op_lt (pv 3) (pe_callB (call_lenK K) (by rfl) T.b_len PySem.boot_len (pa_cons (pe_ix (ix_listK K) (pv 0) pe_int (fun _ _ => rfl)) pa_nil)) (nomark _)) (pw_and1 (pt_cmpR op_ge (pe_callB call_abs (by rfl) T.b_abs bt_abs (pa_cons (pv 4) pa_nil)) (pe_op op_pow pe_int pe_int) (nomark _))))) (pss_cons (ps_set (i := 5) sc_law_draw.nd rfl (Or.inl rfl) (pe_op op_add (pe_op op_mul pe_int (pe_op op_sub (pe_callB call_abs (by rfl) T.b_abs bt_abs (pa_cons (pv 4) pa_nil)) (pe_op op_pow pe_int pe_int))) (pe_callTy call_int1 (by rfl) T.b_int bt_int (pa_cons (pe_cmpR op_lt (pv 4) pe_int (nomark _)) pa_nil))))
  (pss_cons (ps_asg (pe_op op_fdiv (pe_callTy call_int1 (by rfl) T.b_int bt_int (pa_cons (pv 5) pa_nil)) (pv 1)) (pg_sub (pv 0) pe_int set_list))
  (pss_one (ps_ret (pe_op op_mod (pe_callTy call_int1 (by rfl) T.b_int bt_int (pa_cons (pv 5) pa_nil)) (pv 1))))))
  pss_nil)
  (pss_cons (ps_set (i := 6) sc_law_draw.nd rfl (Or.inl rfl) (pe_op op_mod (pe_callTy call_int1 (by rfl) T.b_int bt_int (pa_cons (pe_op op_pow (pe_op op_add (pe_op op_add (pe_op op_mod (pe_callTy call_int1 (by rfl) T.b_int bt_int (pa_cons (pv 4) pa_nil)) pe_int) (pe_op op_mul pe_int (pv 3))) pe_int) pe_int) pa_nil)) pe_int))
  (pss_cons (ps_set (i := 6) sc_law_draw.nd rfl (Or.inl rfl) (pe_op op_mod (pe_callTy call_int1 (by rfl) T.b_int bt_int (pa_cons (pe_op op_pow (pe_op op_add (pe_op op_add (pe_op op_mul (pv 6) (pe_op op_add (pe_op op_mul pe_int (pv 3)) pe_int)) (pe_op op_mul (pe_op op_mul pe_int (pv 3)) (pv 3))) pe_int) pe_int) pa_nil)) pe_int))
  (pss_one (ps_ret (pe_op op_mod (pe_callTy call_int1 (by rfl) T.b_int bt_int (pa_cons (pe_op op_fdiv (pv 6) pe_int) pa_nil)) (pv 1)))))))))))), ?_⟩
--END
    refine ⟨_, rfl, pn, _, 2, _, rfl, rfl, SqL.of hp, rfl, _, _, rfl, rfl, _, rfl, ?_⟩
    by_cases hg : 0 < gr
    · rw [decide_eq_true hg]
      refine iteT ?_
      refine ⟨_, rfl, pn, _, 2, _, rfl, rfl, SqL.of hp, rfl, .inl ⟨_, rfl, _, rfl, _, _, rfl, rfl, by omega, ?_⟩⟩
      obtain ⟨d, ed, hd⟩ := mod_nat (a := gr) hm1
      show gName 2 (V.int (gr % (many : Int))) _ _ _
      rw [ed]
      refine ⟨_, rfl, pn, _, 2, _, rfl, rfl, SqL.of hp, rfl, .inl ⟨_, rfl, _, rfl, _, _, rfl, rfl, ⟨by omega, by omega⟩, ?_⟩⟩
      refine ⟨_, rfl, pn, _, 2, 2, rfl, rfl, hp, rfl, _, rfl, ?_⟩
      exact kk d _ hd (SameX.refl.put (by simp)) ⟨xs, at_, gr / (many : Int), by rw [upd_same] <;> rfl, by rw [upd_ne hne]; exact hls, hne, h0, by omega⟩
    · rw [decide_eq_false hg]
      refine iteF ?_
      refine ⟨_, rfl, pn, _, 1, _, rfl, rfl, SqL.of hp, rfl, ?_⟩
      -- pen[1] = at + 1
      refine ⟨_, rfl, _, _, rfl, rfl, _, rfl, pn, _, 1, 1, rfl, rfl, hp, rfl, ?_⟩
      have hp1 : upd H pn (.lst ([V.ref ls, .int at_, .int gr].set 1 (.int (at_ + 1)))) pn = some (.lst [V.ref ls, .int (at_ + 1), .int gr]) := by rw [upd_same] <;> rfl
      have hl1 : upd H pn (.lst ([V.ref ls, .int at_, .int gr].set 1 (.int (at_ + 1)))) ls = some (.lst (xs.map V.int)) := by rw [upd_ne hne]; exact hls
      have sx1 : SameX [pn] H (upd H pn (.lst ([V.ref ls, .int at_, .int gr].set 1 (.int (at_ + 1))))) := SameX.refl.put (by simp)
      generalize upd H pn _ = H1 at hp1 hl1 sx1 ⊢
      refine ⟨_, rfl, _, _, rfl, rfl, .inr ⟨by omega, by omega⟩, _, _, rfl, rfl, ?_⟩
      refine ⟨_, rfl, pn, _, 0, _, rfl, rfl, SqL.of hp1, rfl, by show 0 ≤ sizeLine; decide, fun e ne => ?_⟩
      have s12 : Same H1 (upd H1 e (.lst [])) := same_new ne
      have hls2 := s12 _ _ hl1
      have hp2 := s12 _ _ hp1
      have he2 : upd H1 e (.lst []) e = some (.lst []) := upd_same
      generalize upd H1 e _ = H2 at s12 hls2 hp2 he2 ⊢
      have dpx : DpAll K H2 (xs.map V.int) (xs.map PyData.int) := dp_map V.int PyData.int (fun i => .int i) xs
      have shx : SeqAt.shaped (.list (xs.map PyData.int)) = true := by
        unfold SeqAt.shaped
        rw [Bool.and_eq_true]
        refine ⟨lay_all fun d hd => ?_, decide_eq_true ?_⟩
        · obtain ⟨i, _, rfl⟩ := List.mem_map.mp hd
          rfl
        · show PyData.depthAll _ + 1 ≤ 64
          have := deep_all (n := 0) (l := xs.map PyData.int) fun d hd => by
            obtain ⟨i, _, rfl⟩ := List.mem_map.mp hd
            exact Nat.le_refl _
          omega
      refine ⟨.list (xs.map PyData.int), .list [], .lst (SqL.of hls2) dpx, .lst (SqL.of he2) .nil, shx, by decide, _, rfl, ?_⟩
      have hcl : ∃ cell : Int, cell = 61409 * at_ + 197 := ⟨_, rfl⟩
      rcases Classical.em (xs = []) with hx | hx
      · rw [hx]
        refine iteF ?_
        refine ⟨_, rfl, _, rfl, pn, _, 0, _, rfl, rfl, SqL.of hp2, rfl, _, xs.length, rfl, .inl ⟨_, SqL.of hls2, by simp⟩, _, _, rfl, rfl, _, rfl, ?_⟩
        rw [decide_eq_false (by rw [hx]; simp; omega)]
        refine iteF ?_
        refine iteF ?_
        refine ⟨_, rfl, .inl ⟨_, rfl, _, _, rfl, rfl, (by show (0 : Int) < 2147483629; decide), _, rfl, _, _, rfl, rfl, .inr ⟨by omega, by omega⟩, _, _, rfl, rfl, _, _, rfl, rfl, _, _, rfl, rfl, ⟨by decide, by decide, ?_⟩, .inl ⟨_, rfl, _, _, rfl, rfl, (by show (0 : Int) < 2147483587; decide), ?_⟩⟩⟩
        · omega
        refine ⟨_, rfl, _, rfl, _, _, rfl, rfl, .inl ⟨by decide, by decide⟩, _, _, rfl, rfl, _, _, rfl, rfl, .inr ⟨by omega, by omega⟩, _, rfl, _, _, rfl, rfl, .inl ⟨by decide, by decide⟩, _, rfl, _, _, rfl, rfl, .inr ⟨by omega, by omega⟩, _, _, rfl, rfl, _, _, rfl, rfl, _, _, rfl, rfl,
          ⟨by decide, by decide, mix_bound (Int.emod_nonneg _ (by decide)) (Int.emod_lt_of_pos _ (by decide)) h0 (by omega)⟩, .inl ⟨_, rfl, _, _, rfl, rfl, (by show (0 : Int) < 2147483563; decide), ?_⟩⟩
        refine ⟨_, rfl, _, _, rfl, rfl, ⟨by decide, by decide⟩, .inl ⟨_, rfl, _, rfl, _, _, rfl, rfl, by omega, ?_⟩⟩
        exact modV Q hm1 fun d hd => kk d H2 hd (sx1.then s12) ⟨xs, at_ + 1, gr, hp2, hls2, hne, by omega, by omega⟩
      · have hln : 1 ≤ xs.length := List.length_pos_iff.mpr hx
        obtain ⟨i, ei, hi⟩ := mod_nat (a := at_) (m := xs.length) hln
        have hne2 : (!(PyData.list (xs.map PyData.int)).eqv (.list [])) = true := by
          cases xs with
          | nil => exact absurd rfl hx
          | cons _ _ => rfl
        rw [hne2]
        refine iteT ?_
        refine ⟨_, rfl, pn, _, 0, _, rfl, rfl, SqL.of hp2, rfl, _, rfl, .inl ⟨_, rfl, _, rfl, pn, _, 0, _, rfl, rfl, SqL.of hp2, rfl, _, xs.length, rfl, .inl ⟨_, SqL.of hls2, by simp⟩, _, _, rfl, rfl, (by show (0 : Int) < (xs.length : Int); omega), ls, _, _, V.int xs[i], rfl, rfl, SqL.of hls2, ?_, ?_⟩⟩
        · rw [ei]
          exact atI_nat (map_at V.int (List.getElem?_eq_getElem hi))
        refine ⟨_, rfl, _, rfl, pn, _, 0, _, rfl, rfl, SqL.of hp2, rfl, _, xs.length, rfl, .inl ⟨_, SqL.of hls2, by simp⟩, _, _, rfl, rfl, _, rfl, ?_⟩
        by_cases ha : at_ < (xs.length : Int)
        · rw [decide_eq_true ha]
          refine iteT ?_
          refine ⟨_, rfl, xs[i], rfl, _, _, rfl, rfl, ⟨by decide, by decide, by decide⟩, _, _, rfl, rfl, _, rfl, ?_⟩
          by_cases hb : (10 : Int) ^ Int.toNat 18 ≤ (if xs[i] < 0 then -xs[i] else xs[i])
          · rw [decide_eq_true hb]
            refine iteT ?_
            refine ⟨_, rfl, xs[i], rfl, _, _, rfl, rfl, ⟨by decide, by decide, by decide⟩, _, _, rfl, rfl, _, _, rfl, rfl, .inl ⟨by decide, by decide⟩, _, rfl, _, _, rfl, rfl, .inr ⟨_, rfl, _, _, rfl, rfl, ?_⟩⟩
            refine ⟨_, rfl, .inl ⟨_, rfl, _, rfl, _, _, rfl, rfl, ⟨by omega, by omega⟩, _, rfl, pn, _, 2, 2, rfl, rfl, hp2, rfl, ?_⟩⟩
            refine ⟨_, rfl, .inl ⟨_, rfl, _, rfl, _, _, rfl, rfl, by omega, ?_⟩⟩
            exact modV Q hm1 fun d hd => kk d _ hd ((sx1.then s12).put (by simp)) ⟨xs, at_ + 1, _, by rw [upd_same] <;> rfl, by rw [upd_ne hne]; exact hls2, hne, by omega, by omega⟩
          · rw [decide_eq_false hb]
            refine iteF ?_
            refine ⟨_, rfl, .inl ⟨_, rfl, _, _, rfl, rfl, (by show (0 : Int) < 2147483629; decide), _, rfl, _, _, rfl, rfl, .inr ⟨by omega, by omega⟩, _, _, rfl, rfl, _, _, rfl, rfl, _, _, rfl, rfl, ⟨by decide, by decide, ?_⟩, .inl ⟨_, rfl, _, _, rfl, rfl, (by show (0 : Int) < 2147483587; decide), ?_⟩⟩⟩
            · omega
            refine ⟨_, rfl, _, rfl, _, _, rfl, rfl, .inl ⟨by decide, by decide⟩, _, _, rfl, rfl, _, _, rfl, rfl, .inr ⟨by omega, by omega⟩, _, rfl, _, _, rfl, rfl, .inl ⟨by decide, by decide⟩, _, rfl, _, _, rfl, rfl, .inr ⟨by omega, by omega⟩, _, _, rfl, rfl, _, _, rfl, rfl, _, _, rfl, rfl,
              ⟨by decide, by decide, mix_bound (Int.emod_nonneg _ (by decide)) (Int.emod_lt_of_pos _ (by decide)) h0 (by omega)⟩, .inl ⟨_, rfl, _, _, rfl, rfl, (by show (0 : Int) < 2147483563; decide), ?_⟩⟩
            refine ⟨_, rfl, _, _, rfl, rfl, ⟨by decide, by decide⟩, .inl ⟨_, rfl, _, rfl, _, _, rfl, rfl, by omega, ?_⟩⟩
            exact modV Q hm1 fun d hd => kk d H2 hd (sx1.then s12) ⟨xs, at_ + 1, gr, hp2, hls2, hne, by omega, by omega⟩
        · rw [decide_eq_false ha]
          refine iteF ?_
          refine iteF ?_
          refine ⟨_, rfl, .inl ⟨_, rfl, _, _, rfl, rfl, (by show (0 : Int) < 2147483629; decide), _, rfl, _, _, rfl, rfl, .inr ⟨by omega, by omega⟩, _, _, rfl, rfl, _, _, rfl, rfl, _, _, rfl, rfl, ⟨by decide, by decide, ?_⟩, .inl ⟨_, rfl, _, _, rfl, rfl, (by show (0 : Int) < 2147483587; decide), ?_⟩⟩⟩
          · omega
          refine ⟨_, rfl, _, rfl, _, _, rfl, rfl, .inl ⟨by decide, by decide⟩, _, _, rfl, rfl, _, _, rfl, rfl, .inr ⟨by omega, by omega⟩, _, rfl, _, _, rfl, rfl, .inl ⟨by decide, by decide⟩, _, rfl, _, _, rfl, rfl, .inr ⟨by omega, by omega⟩, _, _, rfl, rfl, _, _, rfl, rfl, _, _, rfl, rfl,
            ⟨by decide, by decide, mix_bound (Int.emod_nonneg _ (by decide)) (Int.emod_lt_of_pos _ (by decide)) h0 (by omega)⟩, .inl ⟨_, rfl, _, _, rfl, rfl, (by show (0 : Int) < 2147483563; decide), ?_⟩⟩
          refine ⟨_, rfl, _, _, rfl, rfl, ⟨by decide, by decide⟩, .inl ⟨_, rfl, _, rfl, _, _, rfl, rfl, by omega, ?_⟩⟩
          exact modV Q hm1 fun d hd => kk d H2 hd (sx1.then s12) ⟨xs, at_ + 1, gr, hp2, hls2, hne, by omega, by omega⟩
end
end LW
end
section
set_option Elab.async false
set_option linter.all false
set_option maxRecDepth 100000
set_option maxHeartbeats 2000000
/-! the pen, picks -/
namespace LW
open PySem PySem.Spec PyProof.Rows L2 LamX
abbrev st_law_pen : Stmt := top 60
theorem sc_law_pen : FnScope ["_law_script"] ["_law_script"] (defScope st_law_pen) := ⟨rfl, rfl, rfl, by decide +kernel, rfl, by decide +kernel, by decide +kernel⟩
abbrev st_law_pick : Stmt := top 62
theorem sc_law_pick : FnScope ["_law_pen_here", "_law_some"] ["_law_pen_here", "_law_some"] (defScope st_law_pick) := ⟨rfl, rfl, rfl, by decide +kernel, rfl, by decide +kernel, by decide +kernel⟩
/-- the pen from the script -/
def spPen (K : PySem.W.Frag) : Sp := fun vs H Q _ => ∃ (sc : Addr) (xs : List Int), vs = [.ref sc] ∧ SqL K H sc (xs.map V.int) ∧ xs.length ≤ 63 ∧ ∀ p ls H', Same H H' → H p = none → H ls = none → PenO H' p ls 0 → Q (.ref p) H'
/-- a sign or an item -/
def spPick (K : PySem.W.Frag) : Sp := fun vs H Q _ => ∃ (pn ls : Addr) (n : Nat) (x : V) (xs : List V), vs = [.ref pn, x] ∧ PenO H pn ls n ∧ n ≤ 90000 ∧ 1 ≤ xs.length ∧ xs.length ≤ 1000 ∧ ((∃ a, x = .ref a ∧ H a = some (.lst xs) ∧ a ≠ pn) ∨ ∃ l, x = .str (Sg l) ∧ xs = l.map fun y => V.str (Sg [y])) ∧
  ∀ v H', v ∈ xs → SameX [pn] H H' → PenO H' pn ls (n + 1) → Q v H'
section
variable {P : Program} {w : World} {K : PySem.W.Frag} {mg : Str → Option Value} {base : Heap}
theorem c_law_pick (T : Txt K mg) : Cal P w K mg base "_law_pick" 2 ["_law_pen_here", "_law_some"] (spPick K) := by
  have c_law_draw := c_law_draw (P := P) (w := w) (base := base) T
  refine FunG.cal T.f_law_pick sc_law_pick (fun _ _ _ _ _ _ us hl => match us, hl with | [_, _], _ => rfl) (fun vs H Q E h => ?_) (fun f cdv A outer s H vs Q E hr h => ?_)
  · obtain ⟨pn, ls, n, x, xs, rfl, _⟩ := h
    rfl
  · obtain ⟨pn, ls, n, x, xs, rfl, hp, hn, h1, h2, hx, kk⟩ := h
--TERM _law_pick
    refine ⟨_, (pss_one (ps_ret (pe_ix (ix_seqK K) (pv 1) (pe_cal c_law_draw (by decide) hr (pa_cons (pv 0) (pa_cons (pe_callB (call_lenK K) (by rfl) T.b_len PySem.boot_len (pa_cons (pv 1) pa_nil)) pa_nil))) (fun _ _ => rfl)))), ?_⟩
--END
    have hlen : LenV K x H xs.length := by
      rcases hx with ⟨a, rfl, ha, _⟩ | ⟨l, rfl, rfl⟩
      · exact .inl ⟨_, SqL.of ha, rfl⟩
      · refine ⟨?_, ?_⟩
        · rw [S_length]
          rw [List.length_map] at h2
          exact Nat.le_of_lt (small5 (by omega))
        · rw [S_length, List.length_map]
    refine ⟨_, rfl, _, rfl, _, rfl, _, xs.length, rfl, hlen, ?_⟩
    refine ⟨pn, ls, n, xs.length, rfl, hp, hn, h1, h2, fun d H' hd sx hp' => ?_⟩
    have ed : xs[d]? = some xs[d] := List.getElem?_eq_getElem hd
    rcases hx with ⟨a, rfl, ha, hap⟩ | ⟨l, rfl, rfl⟩
    · exact .inl ⟨a, xs, _, xs[d], rfl, rfl, SqL.of (sx _ _ (by simpa using hap) ha), atI_nat ed, kk _ H' (List.getElem_mem hd) sx hp'⟩
    · rw [List.length_map] at hd h2
      have hd2 : d < l.length := hd
      refine .inr (.inr ⟨Sg l, _, l[d], rfl, rfl, by rw [S_length]; exact Nat.le_of_lt (small5 (by omega)), ?_, ?_⟩)
      · have : (Sg l).cps.toList = l := by simp [SX.S]
        rw [this]
        exact atI_nat (List.getElem?_eq_getElem hd2)
      · exact kk (.str (Sg [l[d]])) H' (List.mem_map.mpr ⟨l[d], List.getElem_mem hd2, rfl⟩) sx hp'
theorem c_law_pen (T : Txt K mg) : Cal P w K mg base "_law_pen" 1 ["_law_script"] (spPen K) := by
  refine FunG.cal T.f_law_pen sc_law_pen (fun _ _ _ _ _ _ us hl => match us, hl with | [_], _ => rfl) (fun vs H Q E h => ?_) (fun f cdv A outer s H vs Q E hr h => ?_)
  · obtain ⟨sc, xs, rfl, _⟩ := h
    rfl
  · obtain ⟨sc, xs, rfl, hs, hz, kk⟩ := h
--TERM _law_pen
    refine ⟨_, (pss_one (ps_ret (pe_lst (pa_cons (pe_callTy (call_listK K) (by rfl) T.b_list bt_list (pa_cons (pe_slice (sl_listK K) (pv 0) po_none (po_some pe_int)) pa_nil)) (pa_cons pe_int (pa_cons pe_int pa_nil)))))), ?_⟩
--END
    have cut : ∀ (lo hi : Option Int), ∃ ys : List Int, cutV (xs.map V.int) lo hi = ys.map V.int := fun lo hi => ⟨(xs.drop (HT.sIx (xs.map V.int).length 0 lo)).take (HT.sIx (xs.map V.int).length (xs.map V.int).length hi - HT.sIx (xs.map V.int).length 0 lo), by unfold cutV; rw [List.map_take, List.map_drop]⟩
    refine ⟨_, rfl, 63, rfl, sc, _, rfl, hs, fun p np => ?_⟩
    obtain ⟨ys, ey⟩ := cut none (some 63)
    refine ⟨p, _, rfl, .inl (SqL.of upd_same), fun l nl => ?_⟩
    refine ⟨by show 3 ≤ sizeLine; decide, fun q nq => ?_⟩
    have s1 : Same H (upd H p (.lst (cutV (xs.map V.int) none (some 63)))) := same_new np
    have s2 := sm_trans s1 (same_new (o := .lst (cutV (xs.map V.int) none (some 63))) nl)
    have s3 := sm_trans s2 (same_new (o := .lst [V.ref l, .int 0, .int 0]) nq)
    have nlq : l ≠ q := fun z => by rw [← z, upd_same] at nq; cases nq
    refine kk q l _ s3 ?_ ?_ ⟨ys, 0, 0, upd_same, by rw [upd_ne nlq, upd_same, ey], nlq, Int.le_refl _, by omega⟩
    · cases e : H q with
      | none => rfl
      | some o => rw [s2 _ _ e] at nq; cases nq
    · cases e : H l with
      | none => rfl
      | some o => rw [s1 _ _ e] at nl; cases nl
end
end LW
end
section
set_option Elab.async false
set_option linter.all false
set_option maxRecDepth 100000
set_option maxHeartbeats 1000000
/-! list(zip(e, e2)) of any two sources of one length; texts backwards -/
namespace LW
open PySem PySem.Spec PyProof.Rows L2
/-! ### text[::-1] -/
def tRevS (te : TE) : TE := fun σ H Q => te σ H fun x H1 => ∃ l : List Nat, x = .str (SX.S l) ∧ l.length ≤ 1000 ∧ Q (.str (SX.S l.reverse)) H1
theorem pick_back (l : List Nat) : (Builtin.Str.strSliceIndices none none (-1) (SX.S l).length).filterMap ((SX.S l).cps[·]?) = l.reverse := by
  have e : (SX.S l).length = l.toArray.size := rfl
  rw [e]
  show (sliceRange (((l.toArray.size : Nat) : Int) - 1) (-1) (-1)).filterMap (l.toArray[·]?) = _
  rw [PySem.W.krv_sliceRange, PySem.W.krv_range, List.filterMap_reverse, PySem.W.krv_all]
section
variable {X : Cx}
theorem pe_revS {e : Expr} {te : TE} {k : Nat} {p1 p2 p3 pos : Pos} (he : PE X e te) : PE X (.Subscript e (.Slice none none (some (.UnaryOp .USub (.Constant (.int 1) k p1) p2)) p3) pos) (tRevS te) := by
  refine ⟨fun pins s σ H Q I h => ?_⟩
  refine Subscript_ (thn (he.run pins s σ H _ I h) fun v s1 ⟨x, H1, I1, r1, q1⟩ => ?_)
  obtain ⟨z, ex, hz, q⟩ := q1
  subst ex
  obtain ⟨tk, rfl⟩ := r1
  have hst : PO X (some (.UnaryOp .USub (.Constant (.int 1) k p1) p2)) (tPart (tUn (rU fun i => .int (-i)) (tC (.int 1)))) := po_some (pe_un un_neg pe_int)
  refine wpAny_Slice (thn (po_none.run pins s1 σ H1 (fun o H2 => o = none ∧ H2 = H1) I1 ⟨rfl, rfl⟩) fun vl s2 ⟨l, H2, I2, pl, el, e2⟩ => ?_)
  subst el e2
  refine thn (po_none.run pins s2 σ H2 (fun o H3 => o = none ∧ H3 = H2) I2 ⟨rfl, rfl⟩) fun vu s3 ⟨u, H3, I3, pu, eu, e3⟩ => ?_
  subst eu e3
  refine thn (hst.run pins s3 σ H3 (fun o H4 => o = some (-1) ∧ H4 = H3) I3 ⟨1, rfl, -1, rfl, rfl, rfl⟩) fun vs s4 ⟨o, H4, I4, ps, eo, e4⟩ => ?_
  subst eo e4
  have I5 : Inv X pins σ H4 { s4 with heap := s4.heap.push { cls := .type "slice", data := .fields #[vl, vu, vs] } } := I4.kept (t' := s4.toks) fun b ob q => Heap.get?_push_of_some _ q
  obtain ⟨a1, ea1, eb1⟩ := IsPart.raw pl
  obtain ⟨a2, ea2, eb2⟩ := IsPart.raw pu
  obtain ⟨a3, ea3, eb3⟩ := IsPart.raw ps
  subst ea1 ea2 ea3
  cases a1 with
  | some _ => cases eb1
  | none =>
  cases a2 with
  | some _ => cases eb2
  | none =>
  cases a3 with
  | none => cases eb3
  | some c =>
  have ec : c.1 = (-1 : Int) := by
    exact Option.some.inj eb3
  show wpAny (model X.prog X.w) X.A (subscriptTail e (.Slice none none (some (.UnaryOp .USub (.Constant (.int 1) k p1) p2)) p3) (.str (SX.S z) tk) (.ref s4.heap.objs.size)) (EP X pins σ Q) X.xe _
  refine tail_any (ops := [.ref s4.heap.objs.size, .str (SX.S z) tk]) (typeIs_str _ _ _) PySem.F.slot_str_getitem.lookup ?_ (by with_unfolding_all rfl)
  refine wpAny_getItem_str_slice (l := none) (u := none) (st := some c) ⟨_, Heap.get?_push_size _ rfl, rfl, rfl⟩ (by rw [Option.map_some, Option.getD_some, ec]; decide) ?_
  unfold sliceMade slicePicked
  rw [Option.map_some, Option.getD_some, ec]
  show Made.post (if ((-1 : Int) == 1 && (Builtin.Str.strSliceIndices none none (-1) (SX.S z).length).length == (SX.S z).length) = true then Made.val (.str (SX.S z) tk)
    else Made.str ⟨((Builtin.Str.strSliceIndices none none (-1) (SX.S z).length).filterMap ((SX.S z).cps[·]?)).toArray⟩) (EP X pins σ Q) _
  rw [pick_back, if_neg (by simp)]
  refine ⟨?_, .str _, _, I5.tok _, ⟨_, rfl⟩, q⟩
  show (SX.S z.reverse).length ≤ sizeLine
  rw [SX.S_len, List.length_reverse]
  exact Nat.le_trans hz (by decide)
end
/-! ### list(zip(..)) -/
theorem zip_no_len : typeLookup (.type "zip") "__len__" = pure none := am_miss_of_fast (by decide +kernel)
theorem zip_no_hint : typeLookup (.type "zip") "__length_hint__" = pure none := am_miss_of_fast (by decide +kernel)
section
variable {prog : Program} {w : World} {A : Around} {E : Value → Shared → Prop} {s : Shared}
theorem zip_hint {r : Addr} (hT : s.TypeIs (.ref r) "zip") {Q : Bool → Shared → Prop} (h : Q true s) : wpAny (model prog w) A (Builtin.List.listLengthHint (.ref r)) Q E s := by
  unfold Builtin.List.listLengthHint
  refine wpAny_bind (wpAny_specialOf hT zip_no_len ?_)
  show wpAny _ _ (specialOf (.ref r) "__length_hint__" >>= _) _ _ _
  refine wpAny_bind (wpAny_specialOf hT zip_no_hint ?_)
  exact wpAny_pure h
end
/-- the zip whose first part stands at N, behind i turns -/
def ZSt (N : Addr) (St1 St2 : Nat → Heap → Prop) (i : Nat) (h : Heap) : Prop :=
  (∃ f b, ZipAny h (N + 4) (N + 2) (N + 3) f b ∧ OutF f) ∧ IsTupOf2 h (N + 2) (.ref N) (.ref (N + 1)) ∧ (∃ x y, IsTupOf2 h (N + 3) x y) ∧ St1 i h ∧ St2 i h
structure ZG (P1 P2 : Nat → Value → Prop) (lo : Addr) (h : Heap) (as : List Addr) : Prop where
  rise : as.Pairwise (· < ·)
  above : ∀ a ∈ as, lo < a
  pairs : ∀ (j : Nat) (a : Addr), as[j]? = some a → ∃ x y, P1 j x ∧ P2 j y ∧ IsTupOf2 h a x y
section
variable {prog : Program} {w : World} {A : Around} {s : Shared} {R : Result → Shared → Prop} {N : Addr} {r1 r2 : List Addr} {n : Nat} {P1 P2 : Nat → Value → Prop} {St1 St2 : Nat → Heap → Prop}
theorem ZG.there {lo : Addr} {h : Heap} {as : List Addr} (g : ZG P1 P2 lo h as) {a : Addr} (ha : a ∈ as) : a < h.objs.size := by
  obtain ⟨j, hj⟩ := List.mem_iff_getElem?.mp ha
  obtain ⟨_, _, _, _, e⟩ := g.pairs j a hj
  exact Heap.lt_size e
theorem zl_loop {S : Addr} (hSN : N + 4 < S) (h1 : ∀ b ∈ r1, b < N) (h2 : ∀ b ∈ r2, b < N) (D1 : Draws prog w A.in1.in1 N (N :: r1) n P1 St1) (D2 : Draws prog w A.in1.in1 (N + 1) ((N + 1) :: r2) n P2 St2) (hn : n ≤ sizeLine) (res : Value) {h₁ : Heap}
    (hR : ∀ h' tk acc c as, (∀ b o, b < N → h₁.get? b = some o → h'.get? b = some o) → h'.get? S = some { cls := .type "list", dict := none, data := .seq acc c, slots := #[] } → as.length = n → ZG P1 P2 S h' as →
      acc.toList = as.map Value.ref → R (.ok (.ret res)) { s with heap := h', toks := tk }) :
    ∀ (k i : Nat) (h : Heap) (tk c : Nat) (acc : Array Value) (as : List Addr), n - i = k → i ≤ n → ZSt N St1 St2 i h → (∀ b o, b < N → h₁.get? b = some o → h.get? b = some o) →
      h.get? S = some { cls := .type "list", dict := none, data := .seq acc c, slots := #[] } → acc.toList = as.map Value.ref → as.length = i → ZG P1 P2 S h as →
      codeAny (model prog w) A (.builtin "list.extend.loop" ⟨[.ref S, .ref (N + 4), res], []⟩) R { s with heap := h, toks := tk } := by
  have Sp := zip_sep2 (N := N) (fp1 := r1) (fp2 := r2) h1 h2
  have f1 : ∀ b ∈ N :: r1, b ≠ S := fun b hb => by
    rcases List.mem_cons.mp hb with e | hb
    · rw [e]; exact Nat.ne_of_lt (Nat.lt_of_le_of_lt (Nat.le_add_right N 4) hSN)
    · exact Nat.ne_of_lt (Nat.lt_trans (h1 b hb) (Nat.lt_of_le_of_lt (Nat.le_add_right N 4) hSN))
  have f2 : ∀ b ∈ (N + 1) :: r2, b ≠ S := fun b hb => by
    rcases List.mem_cons.mp hb with e | hb
    · rw [e]; exact Nat.ne_of_lt (Nat.lt_of_le_of_lt (Nat.add_le_add_left (by decide : 1 ≤ 4) N) hSN)
    · exact Nat.ne_of_lt (Nat.lt_trans (h2 b hb) (Nat.lt_of_le_of_lt (Nat.le_add_right N 4) hSN))
  intro k
  induction k with
  | zero =>
    intro i h tk c acc as hk hi hst hkeep hS hacc hal hG
    have hin : i = n := by omega
    obtain ⟨⟨f, b, hz, hf⟩, hTI, ⟨x0, y0, hTO⟩, st1, st2⟩ := hst
    refine codeAny_builtin PySem.F.entry_extend_loop ?_
    rw [Around.under_plainId PySem.F.plain_extend_loop _]
    show wpAny _ A.in1 (pyNext (.ref (N + 4)) >>= _) _ _ _
    refine wpAny_bind (zipA_stop (s := { s with heap := h, toks := tk }) Sp D1 D2 hz hf hTI hTO st1 st2 hi hi (.inl hin) fun h' tk' hk' => ?_)
    refine wpAny_pure (hR h' tk' acc c as (fun b o hb e => hk' b o (fun z => ?_) (fun z => ?_) (fun z => ?_) (fun z => ?_) (hkeep b o hb e)) (hk' S _ (fun z => ?_) (fun z => ?_) (fun z => ?_) (fun z => ?_) hS) (hal.trans hin) ⟨hG.rise, hG.above, fun j a hj => ?_⟩ hacc)
    all_goals first | (rw [z] at hb; exact absurd hb (Nat.not_lt.mpr (Nat.le_add_right _ _))) | (rw [z] at hb; exact absurd hb (Nat.lt_irrefl _)) | skip
    · exact Nat.ne_of_gt hSN z
    · exact Nat.ne_of_gt (Nat.lt_of_le_of_lt (Nat.add_le_add_left (by decide : 3 ≤ 4) N) hSN) z
    · exact Nat.ne_of_gt (Nat.lt_of_le_of_lt (Nat.le_add_right N 4) hSN) z
    · exact Nat.ne_of_gt (Nat.lt_of_le_of_lt (Nat.add_le_add_left (by decide : 1 ≤ 4) N) hSN) z
    · obtain ⟨x, y, e1, e2, e3⟩ := hG.pairs j a hj
      have ha : S < a := hG.above a (List.mem_of_getElem? hj)
      refine ⟨x, y, e1, e2, hk' a _ (fun z => ?_) (fun z => ?_) (fun z => ?_) (fun z => ?_) e3⟩
      · rw [z] at ha; exact Nat.lt_asymm ha hSN
      · rw [z] at ha; exact Nat.lt_asymm ha (Nat.lt_of_le_of_lt (Nat.add_le_add_left (by decide : 3 ≤ 4) N) hSN)
      · rw [z] at ha; exact Nat.lt_asymm ha (Nat.lt_of_le_of_lt (Nat.le_add_right N 4) hSN)
      · rw [z] at ha; exact Nat.lt_asymm ha (Nat.lt_of_le_of_lt (Nat.add_le_add_left (by decide : 1 ≤ 4) N) hSN)
  | succ k ih =>
    intro i h tk c acc as hk hi hst hkeep hS hacc hal hG
    have hlt : i < n := by omega
    obtain ⟨⟨f, b, hz, hf⟩, hTI, ⟨x0, y0, hTO⟩, st1, st2⟩ := hst
    have hsz : acc.size = i := by rw [← Array.length_toList, hacc, List.length_map, hal]
    refine codeAny_builtin PySem.F.entry_extend_loop ?_
    rw [Around.under_plainId PySem.F.plain_extend_loop _]
    show wpAny _ A.in1 (pyNext (.ref (N + 4)) >>= _) _ _ _
    refine wpAny_bind (zipA_next (s := { s with heap := h, toks := tk }) Sp D1 D2 hz hf hTI hTO st1 st2 hlt hlt fun x y h' tk' f' b' c1 c2 px py hz' hf' hTO' st1' st2' hT hhs hkp => ?_)
    dsimp only at hT hhs hkp ⊢
    have off : ∀ b, S ≤ b → b ≠ N + 4 ∧ b ≠ N + 3 ∧ b ≠ N ∧ b ≠ N + 1 := fun b hb => by
      have hb2 : N + 4 < b := Nat.lt_of_lt_of_le hSN hb
      exact ⟨Nat.ne_of_gt hb2, Nat.ne_of_gt (Nat.lt_of_le_of_lt (Nat.add_le_add_left (by decide : 3 ≤ 4) N) hb2), Nat.ne_of_gt (Nat.lt_of_le_of_lt (Nat.le_add_right N 4) hb2), Nat.ne_of_gt (Nat.lt_of_le_of_lt (Nat.add_le_add_left (by decide : 1 ≤ 4) N) hb2)⟩
    have lowo : ∀ b, b < N → b ≠ N + 4 ∧ b ≠ N + 3 ∧ b ≠ N ∧ b ≠ N + 1 := fun b hb =>
      ⟨Nat.ne_of_lt (Nat.lt_of_lt_of_le hb (Nat.le_add_right N 4)), Nat.ne_of_lt (Nat.lt_of_lt_of_le hb (Nat.le_add_right N 3)), Nat.ne_of_lt hb, Nat.ne_of_lt (Nat.lt_of_lt_of_le hb (Nat.le_add_right N 1))⟩
    have kp : ∀ b o, (b ≠ N + 4 ∧ b ≠ N + 3 ∧ b ≠ N ∧ b ≠ N + 1) → h.get? b = some o → h'.get? b = some o := fun b o q e => hkp b o q.1 q.2.1 q.2.2.1 q.2.2.2 e
    have hS' := kp S _ (off S (Nat.le_refl _)) hS
    have up : ∀ b o, b ≠ S → h'.get? b = some o → (h'.update S (Obj.mapSeq (·.push (Value.ref h.objs.size)))).get? b = some o := fun b o hb e => (Heap.get?_update_other _ _ (Ne.symm hb)).trans e
    have hSl : S < h.objs.size := Heap.lt_size hS
    have lowS : ∀ b, b ≤ N + 4 → b ≠ S := fun b hb => Nat.ne_of_lt (Nat.lt_of_le_of_lt hb hSN)
    show wpAny _ A.in1 (updateSeq S (·.push (Value.ref h.objs.size)) >>= _) _ _ _
    refine wpAny_bind ?_
    refine wpAny_updateSeq hS' rfl (wpAny_pure ⟨plainId_quiet PySem.F.plain_extend_loop _, ih (i + 1) _ tk' _ (acc.push (Value.ref h.objs.size)) (as ++ [h.objs.size]) (by omega) hlt ⟨⟨f', b', up _ _ (lowS _ (Nat.le_refl _)) hz', hf'⟩, up _ _ (lowS _ (Nat.add_le_add_left (by decide : 2 ≤ 4) N)) ?_, ⟨c1, c2, up _ _ (lowS _ (Nat.add_le_add_left (by decide : 3 ≤ 4) N)) hTO'⟩, D1.frame _ _ _ st1' fun b hb o e => up b o (f1 b hb) e, D2.frame _ _ _ st2' fun b hb o e => up b o (f2 b hb) e⟩
      (fun b o hb e => up b o (lowS b (Nat.le_trans (Nat.le_of_lt hb) (Nat.le_add_right N 4))) (kp b o (lowo b hb) (hkeep b o hb e))) (Heap.get?_update_self _ hS' rfl) (by rw [Array.toList_push, hacc, List.map_append]; rfl) (by rw [List.length_append, hal]; rfl) ⟨?_, ?_, ?_⟩⟩) (by rw [hsz]; omega) (by show (acc.push (Value.ref h.objs.size)).size ≤ sizeLine + 1; rw [Array.size_push, hsz]; omega)
    · exact hkp _ _ Sp.TIz Sp.TITO Sp.TIi1 Sp.TIi2 hTI
    · refine List.pairwise_append.mpr ⟨hG.rise, List.pairwise_singleton _ _, fun a ha b hb => ?_⟩
      rw [List.mem_singleton.mp hb]
      exact hG.there ha
    · intro a ha
      rcases List.mem_append.mp ha with ha | ha
      · exact hG.above a ha
      · rw [List.mem_singleton.mp ha]; exact hSl
    · intro j b hj
      rcases Nat.lt_trichotomy j as.length with q1 | q1 | q1
      · rw [List.getElem?_append_left q1] at hj
        obtain ⟨x', y', e1, e2, e3⟩ := hG.pairs j b hj
        have hb := hG.above b (List.mem_of_getElem? hj)
        exact ⟨x', y', e1, e2, up b _ (Nat.ne_of_gt hb) (kp b _ (off b (Nat.le_of_lt hb)) e3)⟩
      · subst q1
        have hb : h.objs.size = b := by simpa using hj
        subst hb
        exact ⟨x, y, by rw [hal]; exact px, by rw [hal]; exact py, up _ _ (Nat.ne_of_gt hSl) hT⟩
      · have hnone : (as ++ [h.objs.size])[j]? = none := List.getElem?_eq_none (by rw [List.length_append, List.length_singleton]; omega)
        rw [hnone] at hj; cases hj
theorem zl_extend {S : Addr} (hSN : N + 4 < S) (h1 : ∀ b ∈ r1, b < N) (h2 : ∀ b ∈ r2, b < N) (D1 : Draws prog w A.in1.in1 N (N :: r1) n P1 St1) (D2 : Draws prog w A.in1.in1 (N + 1) ((N + 1) :: r2) n P2 St2) (hn : n ≤ sizeLine) (res : Value) (c₀ : Nat)
    (hz : ZSt N St1 St2 0 s.heap) (hS : s.heap.get? S = some { cls := .type "list", data := .seq #[] c₀ })
    (hR : ∀ h' tk acc c as, (∀ b o, b < N → s.heap.get? b = some o → h'.get? b = some o) → h'.get? S = some { cls := .type "list", dict := none, data := .seq acc c, slots := #[] } → as.length = n → ZG P1 P2 S h' as →
      acc.toList = as.map Value.ref → R (.ok (.ret res)) { s with heap := h', toks := tk }) :
    wpAny (model prog w) A.in1 (Builtin.List.listExtendWith (.ref S) (.ref (N + 4)) res)
      (fun fin s' => match fin with | .done f => R (.ok f) s' | .again c' => c'.quiet = true ∧ codeAny (model prog w) A c' R s') (fun e s' => R (.error e) s') s := by
  obtain ⟨⟨f, b, hz0, hf⟩, hTI, hTO, st1, st2⟩ := id hz
  have hT : s.TypeIs (.ref (N + 4)) "zip" := ⟨_, hz0, rfl⟩
  have hNS : ∀ b, b ≤ N + 4 → b ≠ S := fun b hb => Nat.ne_of_lt (Nat.lt_of_le_of_lt hb hSN)
  have fS : ∀ (r : List Addr), (∀ b ∈ r, b < N) → ∀ j, j ≤ 4 → ∀ b ∈ (N + j) :: r, b ≠ S := fun r hr j hj b hb => by
    rcases List.mem_cons.mp hb with e | hb
    · rw [e]; exact hNS _ (Nat.add_le_add_left hj N)
    · exact hNS b (Nat.le_trans (Nat.le_of_lt (hr b hb)) (Nat.le_add_right N 4))
  have key : ∀ (h : Heap) (c₁ tk : Nat), (∀ b o, b ≠ S → s.heap.get? b = some o → h.get? b = some o) → h.get? S = some { cls := .type "list", data := .seq #[] c₁ } →
      codeAny (model prog w) A (.builtin "list.extend.loop" ⟨[.ref S, .ref (N + 4), res], []⟩) R { s with heap := h, toks := tk } := by
    intro h c₁ tk hk hS₁
    refine zl_loop (s := s) (h₁ := s.heap) hSN h1 h2 D1 D2 hn res hR n 0 h tk c₁ #[] [] (Nat.sub_zero _) (Nat.zero_le _) ?_ (fun b o hb e => hk b o (hNS b (Nat.le_trans (Nat.le_of_lt hb) (Nat.le_add_right N 4))) e) hS₁ rfl rfl
      ⟨List.Pairwise.nil, (fun _ ha => nomatch ha), (fun j a hj => by simp at hj)⟩
    obtain ⟨x, y, hTO⟩ := hTO
    exact ⟨⟨f, b, hk _ _ (hNS _ (Nat.le_refl _)) hz0, hf⟩, hk _ _ (hNS _ (Nat.add_le_add_left (by decide : 2 ≤ 4) N)) hTI, ⟨x, y, hk _ _ (hNS _ (Nat.add_le_add_left (by decide : 3 ≤ 4) N)) hTO⟩, D1.frame _ _ _ st1 fun b hb o e => hk b o (fS r1 h1 0 (by decide) b hb) e, D2.frame _ _ _ st2 fun b hb o e => hk b o (fS r2 h2 1 (by decide) b hb) e⟩
  unfold Builtin.List.listExtendWith
  refine wpAny_bind (wpAny_typeOf (T := "zip") hT ?_)
  have e1 : Builtin.List.listSameRef (.ref S) (.ref (N + 4)) = false := by
    have : S ≠ N + 4 := Nat.ne_of_gt hSN
    simp [Builtin.List.listSameRef, this]
  have e2 : (Value.type "zip" == Value.type "list") = false := by decide
  have e3 : (Value.type "zip" == Value.type "tuple") = false := by decide
  simp only [e1, e2, e3, Bool.or_false, Bool.false_eq_true, if_false]
  refine wpAny_bind (wpAny_pyIter_slot hT PySem.F.slot_zip_iter (wpAny_call_entry PySem.F.slot_zip_iter hT PySem.F.entry_zip_iter ?_ (PySem.F.args_zip_iter_1 _)))
  show wpAny _ _ (ret (.ref _)) _ _ s
  refine wpAny_pure ⟨_, rfl, "zip", _, hT, PySem.F.slot_zip_next.lookup, ?_⟩
  refine wpAny_bind (wpAny_holding (zip_hint hT ?_))
  refine wpAny_ite_split (fun _ => ?_) (fun hab => absurd rfl hab)
  refine wpAny_bind (wpAny_rule ?_)
  refine wpAny_bind ?_
  show wpAny _ _ (updateSeq S (·.push .none) >>= fun _ => updateSeq S (·.pop)) _ _ _
  refine wpAny_bind (wpAny_updateSeq hS rfl ?_)
  have hS₂ := Heap.get?_update_self (Obj.mapSeq (·.push Value.none)) hS rfl
  refine wpAny_updateSeq (hz := by seq_fits) hS₂ rfl ?_
  have hS₃ := Heap.get?_update_self (Obj.mapSeq (·.pop)) hS₂ rfl
  refine wpAny_pure ⟨plainId_quiet PySem.F.plain_extend_loop _, key _ _ _ (fun b o hb e => ?_) hS₃⟩
  exact (Heap.get?_update_other _ _ (Ne.symm hb)).trans ((Heap.get?_update_other _ _ (Ne.symm hb)).trans e)
theorem ZSt.keep {S : Addr} {i : Nat} {h h' : Heap} (hSN : N + 4 < S) (h1 : ∀ b ∈ r1, b < N) (h2 : ∀ b ∈ r2, b < N) {A : Around} (D1 : Draws prog w A N (N :: r1) n P1 St1) (D2 : Draws prog w A (N + 1) ((N + 1) :: r2) n P2 St2) (hz : ZSt N St1 St2 i h) (hk : ∀ b o, b ≠ S → h.get? b = some o → h'.get? b = some o) : ZSt N St1 St2 i h' := by
  have hNS : ∀ b, b ≤ N + 4 → b ≠ S := fun b hb => Nat.ne_of_lt (Nat.lt_of_le_of_lt hb hSN)
  have fS : ∀ (r : List Addr), (∀ b ∈ r, b < N) → ∀ j, j ≤ 4 → ∀ b ∈ (N + j) :: r, b ≠ S := fun r hr j hj b hb => by
    rcases List.mem_cons.mp hb with e | hb
    · rw [e]; exact hNS _ (Nat.add_le_add_left hj N)
    · exact hNS b (Nat.le_trans (Nat.le_of_lt (hr b hb)) (Nat.le_add_right N 4))
  obtain ⟨⟨f, b, hz0, hf⟩, hTI, ⟨x, y, hTO⟩, st1, st2⟩ := hz
  exact ⟨⟨f, b, hk _ _ (hNS _ (Nat.le_refl _)) hz0, hf⟩, hk _ _ (hNS _ (Nat.add_le_add_left (by decide : 2 ≤ 4) N)) hTI, ⟨x, y, hk _ _ (hNS _ (Nat.add_le_add_left (by decide : 3 ≤ 4) N)) hTO⟩, D1.frame _ _ _ st1 fun b hb o e => hk b o (fS r1 h1 0 (by decide) b hb) e, D2.frame _ _ _ st2 fun b hb o e => hk b o (fS r2 h2 1 (by decide) b hb) e⟩
theorem zl_init {S : Addr} (hSN : N + 4 < S) (h1 : ∀ b ∈ r1, b < N) (h2 : ∀ b ∈ r2, b < N) (D1 : Draws prog w A.in1.in1 N (N :: r1) n P1 St1) (D2 : Draws prog w A.in1.in1 (N + 1) ((N + 1) :: r2) n P2 St2) (hn : n ≤ sizeLine)
    (hz : ZSt N St1 St2 0 s.heap) (hS : s.heap.get? S = some { cls := .type "list", data := .seq #[] })
    (hR : ∀ h' tk acc c as, (∀ b o, b < N → s.heap.get? b = some o → h'.get? b = some o) → h'.get? S = some { cls := .type "list", dict := none, data := .seq acc c, slots := #[] } → as.length = n → ZG P1 P2 S h' as →
      acc.toList = as.map Value.ref → R (.ok (.ret .none)) { s with heap := h', toks := tk }) :
    wpAny (model prog w) A.in1 (Builtin.«list.__init__» ⟨[.ref S, .ref (N + 4)], []⟩)
      (fun fin s' => match fin with | .done f => R (.ok f) s' | .again c' => c'.quiet = true ∧ codeAny (model prog w) A c' R s') (fun e s' => R (.error e) s') s := by
  show wpAny _ _ (do let old ← Builtin.List.listItems (.ref S); Builtin.List.listUpdate (.ref S) (fun _ => #[]); letGo old.toList.reverse; Builtin.List.listExtendWith (.ref S) (.ref (N + 4)) .none) _ _ s
  refine wpAny_bind ?_
  unfold Builtin.List.listItems
  refine wpAny_bind (wpAny_seqItems hS rfl (wpAny_pure ?_))
  show wpAny _ _ (updateSeq S (fun _ => #[]) >>= fun _ => letGo (#[] : Array Value).toList.reverse >>= fun _ => Builtin.List.listExtendWith (.ref S) (.ref (N + 4)) .none) _ _ s
  refine wpAny_bind (wpAny_updateSeq hS rfl ?_)
  have hS₂ := Heap.get?_update_self (Obj.mapSeq (fun _ => (#[] : Array Value))) hS rfl
  have oth : ∀ b o, b ≠ S → s.heap.get? b = some o → (s.heap.update S (Obj.mapSeq (fun _ => (#[] : Array Value)))).get? b = some o :=
    fun b o hb e => (Heap.get?_update_other _ _ (Ne.symm hb)).trans e
  refine wpAny_bind (wpAny_letGo ?_)
  refine zl_extend hSN h1 h2 D1 D2 hn .none _ (ZSt.keep hSN h1 h2 D1 D2 hz oth) hS₂ fun h' tk acc c as hk hS' hl hG hacc => ?_
  exact hR h' tk acc c as (fun b o hb e => hk b o hb (oth b o (Nat.ne_of_lt (Nat.lt_trans (Nat.lt_of_lt_of_le hb (Nat.le_add_right N 4)) hSN)) e)) hS' hl hG hacc
theorem zl_call {E : Value → Shared → Prop} {Q : Value → Shared → Prop} (hN : s.heap.objs.size = N + 5) (h1 : ∀ b ∈ r1, b < N) (h2 : ∀ b ∈ r2, b < N) (D1 : Draws prog w A.in1.in1.in1 N (N :: r1) n P1 St1) (D2 : Draws prog w A.in1.in1.in1 (N + 1) ((N + 1) :: r2) n P2 St2) (hn : n ≤ sizeLine)
    (hz : ZSt N St1 St2 0 s.heap)
    (hQ : ∀ h' tk acc c as, (∀ b o, b < N → s.heap.get? b = some o → h'.get? b = some o) → h'.get? s.heap.objs.size = some { cls := .type "list", dict := none, data := .seq acc c, slots := #[] } → as.length = n → ZG P1 P2 s.heap.objs.size h' as →
      acc.toList = as.map Value.ref → Q (.ref s.heap.objs.size) { s with heap := h', toks := tk }) :
    wpAny (model prog w) A (call (.type "list") [.ref (N + 4)]) Q E s := by
  refine callType_codes (Q₁ := fun obj s₁ => obj = .ref s.heap.objs.size ∧ s₁ = { s with heap := s.heap.push { cls := .type "list", data := .seq #[] } }) PySem.F.called_list (PySem.F.typeCall_list_1 _) PySem.F.entry_list_init
    (code_list_new _ ⟨rfl, rfl⟩) fun obj s₁ h₁ => ?_
  obtain ⟨rfl, rfl⟩ := h₁
  have hS : (s.heap.push { cls := .type "list", data := .seq #[] }).get? s.heap.objs.size = some { cls := .type "list", data := .seq #[] } := Heap.get?_push_size _ rfl
  have hSN : N + 4 < s.heap.objs.size := by rw [hN]; exact Nat.lt_succ_self _
  refine ⟨⟨_, hS, rfl⟩, PySem.F.args_list_init_2 _ _, zl_init (A := A.in1) hSN h1 h2 D1 D2 hn (ZSt.keep hSN h1 h2 D1 D2 hz fun b o _ e => Heap.get?_push_of_some _ e) hS (fun h' tk acc c as hk hS' hl hG hacc => ?_)⟩
  exact ⟨rfl, hQ h' tk acc c as (fun b o hb e => hk b o hb (Heap.get?_push_of_some _ e)) hS' hl hG hacc⟩
end
/-! ### the pairs in the words' heap -/
def putZ : Hp → List Addr → List (V × V) → Hp
  | H, a :: as, p :: ps => putZ (upd H a (.tup [p.1, p.2])) as ps
  | H, _, _ => H
theorem putZ_off {b : Addr} : ∀ (as : List Addr) (ps : List (V × V)) (H : Hp), b ∉ as → putZ H as ps b = H b
  | [], _, _, _ => rfl
  | _ :: _, [], _, _ => rfl
  | a :: as, p :: ps, H, h => by
    show putZ (upd H a (.tup [p.1, p.2])) as ps b = H b
    rw [putZ_off as ps _ (fun z => h (List.mem_cons_of_mem _ z)), upd_ne (fun z => h (by rw [z]; exact List.mem_cons_self))]
theorem putZ_at : ∀ (as : List Addr) (ps : List (V × V)) (H : Hp), as.length = ps.length → as.Nodup → ∀ (j : Nat) (a : Addr) (p : V × V), as[j]? = some a → ps[j]? = some p → putZ H as ps a = some (.tup [p.1, p.2])
  | [], _, _, _, _, j, a, p, h, _ => by simp at h
  | _ :: _, [], _, h, _, _, _, _, _, _ => by cases h
  | a :: as, p :: ps, H, h, hn, 0, a', p', e1, e2 => by
    have hn' := List.nodup_cons.mp hn
    have e1 : a = a' := Option.some.inj e1
    have e2 : p = p' := Option.some.inj e2
    subst e1 e2
    show putZ (upd H a (.tup [p.1, p.2])) as ps a = some (.tup [p.1, p.2])
    rw [putZ_off as ps _ hn'.1, upd_same]
  | a :: as, p :: ps, H, h, hn, j + 1, a', p', e1, e2 => putZ_at as ps _ (Nat.succ.inj h) (List.nodup_cons.mp hn).2 j a' p' e1 e2
def tListZip (K : PySem.W.Frag) (ta : TA) : TE := fun σ H Q => ta σ H fun vs H1 => ∃ S1 S2 xs ys, vs = [Sk.v S1, Sk.v S2] ∧ S1.Is K H1 xs ∧ S2.Is K H1 ys ∧ xs.length = ys.length ∧ xs.length ≤ sizeLine ∧
  ∀ (H' : Hp) (p : Addr) (ts : List Addr), Same H1 H' → H1 p = none → H' p = some (.lst (ts.map V.ref)) → ts.length = xs.length → (∀ (j : Nat) (t : Addr) (x y : V), ts[j]? = some t → xs[j]? = some x → ys[j]? = some y → H' t = some (.tup [x, y])) → Q (.ref p) H'
section
variable {X : Cx}
theorem zl_laid {pins : List (Addr × Obj)} {σ : L2.St} {H : Hp} {s : Shared} {h' : Heap} {tk : Nat} {xs ys : List V} {acc : Array Value} {c : Nat} {as : List Addr} {P1 P2 : Nat → Value → Prop} {N : Addr} (I : Inv X pins σ H s) (hN : s.heap.objs.size ≤ N) (hz : xs.length ≤ sizeLine) (hxy : xs.length = ys.length)
    (p1 : ∀ i v, P1 i v → ∃ x, xs[i]? = some x ∧ RelV x v) (p2 : ∀ i v, P2 i v → ∃ x, ys[i]? = some x ∧ RelV x v)
    (hk : ∀ b o, s.heap.get? b = some o → h'.get? b = some o) (hS : h'.get? N = some { cls := .type "list", dict := none, data := .seq acc c, slots := #[] }) (hl : as.length = xs.length) (hG : ZG P1 P2 N h' as) (hacc : acc.toList = as.map Value.ref) :
    ∃ H' : Hp, Same H H' ∧ H N = none ∧ H' N = some (.lst (as.map V.ref)) ∧ (∀ (j : Nat) (t : Addr) (x y : V), as[j]? = some t → xs[j]? = some x → ys[j]? = some y → H' t = some (.tup [x, y])) ∧ Inv X pins σ H' { s with heap := h', toks := tk } := by
  have hSn : N ∉ as := fun z => Nat.lt_irrefl _ (hG.above _ z)
  have nd : as.Nodup := List.Pairwise.imp (fun {a b} (h : a < b) => Nat.ne_of_lt h) hG.rise
  have new : ∀ t ∈ as, H t = none := fun t ht => I.hok.fresh (Nat.le_trans hN (Nat.le_of_lt (hG.above t ht)))
  have newS : H N = none := I.hok.fresh hN
  have lz : as.length = (xs.zip ys).length := by rw [List.length_zip]; omega
  have atP := putZ_at as (xs.zip ys) (upd H N (.lst (as.map V.ref))) lz nd
  have off : ∀ b, b ∉ as → b ≠ N → putZ (upd H N (.lst (as.map V.ref))) as (xs.zip ys) b = H b := fun b h1 h2 => by rw [putZ_off as _ _ h1, upd_ne h2]
  have low : ∀ b o, s.heap.get? b = some o → b ∉ as ∧ b ≠ N := fun b o e => ⟨fun z => absurd (Heap.lt_size e) (Nat.not_lt.mpr (Nat.le_trans hN (Nat.le_of_lt (hG.above b z)))), Nat.ne_of_lt (Nat.lt_of_lt_of_le (Heap.lt_size e) hN)⟩
  have kp : ∀ b u, H b = some u → (putZ (upd H N (.lst (as.map V.ref))) as (xs.zip ys)) b = some u := fun b u e => by
    rw [off b (fun z => by rw [new b z] at e; cases e) (fun z => by rw [z, newS] at e; cases e)]
    exact e
  have eS : putZ (upd H N (.lst (as.map V.ref))) as (xs.zip ys) N = some (.lst (as.map V.ref)) := by rw [putZ_off as _ _ hSn, upd_same]
  refine ⟨putZ (upd H N (.lst (as.map V.ref))) as (xs.zip ys), kp, newS, eS, fun j t x y e1 e2 e3 => atP j t (x, y) e1 (by rw [List.getElem?_zip_eq_some]; exact ⟨e2, e3⟩), ?_⟩
  refine I.call' (ch := []) rfl ⟨fun b o q _ _ _ => hk b o q, fun b o q _ _ _ => ⟨o.slots, hk b o q⟩, fun b o q n _ => ?_, fun b o q _ => ⟨o, hk b o q⟩, fun b xs q => kp b _ q, fun b o u q => kp b _ q, fun b ps q => ⟨#[], by rw [kp b _ q]; simp⟩⟩ (fun b u q => ?_) I.bare fun b z => by simp at z
  · obtain ⟨z1, z2⟩ := low b o q
    rw [off b z1 z2]
    exact n
  · by_cases hb : b ∈ as
    · obtain ⟨j, e1⟩ := List.mem_iff_getElem?.mp hb
      obtain ⟨x, y, f1, f2, f3⟩ := hG.pairs j b e1
      obtain ⟨vx, gx, rx⟩ := p1 j x f1
      obtain ⟨vy, gy, ry⟩ := p2 j y f2
      rw [atP j b (vx, vy) e1 (by rw [List.getElem?_zip_eq_some]; exact ⟨gx, gy⟩)] at q
      cases q
      exact ⟨by show 2 ≤ sizeLine; decide, [x, y], .cons rx (.cons ry .nil), ⟨_, f3, rfl, _, rfl⟩⟩
    · by_cases hb2 : b = N
      · rw [hb2] at q ⊢
        rw [eS] at q
        cases q
        refine ⟨by rw [List.length_map]; omega, acc.toList, c, by rw [hacc]; exact LiI.vals_refs as, ?_⟩
        rw [Array.toArray_toList]
        exact hS
      · rw [off b hb hb2] at q
        exact (I.hok b u q).stay (fun d v _ y => hk d v y) (fun d y => kp d _ y) fun d xs y => kp d _ y
/-- list(zip(e, e2)) -/
theorem pe_listZip {e e2 : Expr} {ta : TA} {p p2 pos pos2 : Pos} (K : PySem.W.Frag) (hc : X.calm = true) (hml : X.mg "list" = none) (hm : X.mg "zip" = none) (ha : PA X [e, e2] ta) (hgl : Gl X "list" := by rfl) (hg : Gl X "zip" := by rfl) (hK : X.K = K := by rfl)
    (hs : starEach [e, e2] X.env = (false, eval e X.env) :: starEach [e2] X.env := by rfl) (hpl : (backTo pos2 (starEach [e2] X.env)).any (·.1) = false := by rfl)
    (na : starEach [Expr.Call (.Name "zip" p2) [e, e2] [] pos2] X.env = (false, eval (Expr.Call (.Name "zip" p2) [e, e2] [] pos2) X.env) :: starEach [] X.env := by rfl) :
    PE X (.Call (.Name "list" p) [.Call (.Name "zip" p2) [e, e2] [] pos2] [] pos) (tListZip K ta) := by
  subst hK
  refine ⟨fun pins s σ H Q I h => ?_⟩
  refine Call_ (ld_blt I hgl hml boot_list (PyProof.Rows.callWith_type1 (args_cons (thn (Q := fun v s2 => ∃ (s1 : Shared) (H1 : Hp) (S1 S2 : Sk) (xs ys : List V) (t1 t2 : Tok) (h' : Heap), v = .ref (s1.heap.objs.size + 4) ∧ s2 = { s1 with heap := h' } ∧ Inv X pins σ H1 s1 ∧ S1.Is X.K H1 xs ∧ S2.Is X.K H1 ys ∧ xs.length = ys.length ∧ xs.length ≤ sizeLine ∧
    h'.objs.size = s1.heap.objs.size + 5 ∧ (∀ c o, s1.heap.get? c = some o → h'.get? c = some o) ∧ IsZip h' (s1.heap.objs.size + 4) (s1.heap.objs.size + 2) (s1.heap.objs.size + 3) .none ∧ IsTupOf2 h' (s1.heap.objs.size + 2) (.ref s1.heap.objs.size) (.ref (s1.heap.objs.size + 1)) ∧
    IsTupOf2 h' (s1.heap.objs.size + 3) .none .none ∧ h'.get? s1.heap.objs.size = some (S1.itO t1) ∧ h'.get? (s1.heap.objs.size + 1) = some (S2.itO t2) ∧
    ∀ (H' : Hp) (p : Addr) (ts : List Addr), Same H1 H' → H1 p = none → H' p = some (.lst (ts.map V.ref)) → ts.length = xs.length → (∀ (j : Nat) (t : Addr) (x y : V), ts[j]? = some t → xs[j]? = some x → ys[j]? = some y → H' t = some (.tup [x, y])) → Q (.ref p) H') ?_ fun v s2 h2 => args_nil ?_) na) na))
  · refine Call_ (ld_blt I hg hm PyProof.Rows.boot_zip (PyProof.Rows.callWith_type1 (thn (ha.run pos2 pins s σ H _ I h) fun us s1 ⟨vs, H1, I1, r1, q1⟩ => ?_) hs hpl))
    obtain ⟨S1, S2, xs, ys, rfl, h1, h2, hxy, hz, q⟩ := q1
    cases r1 with
    | cons r rr =>
      cases rr with
      | cons r' rr =>
        cases rr
        obtain ⟨t1, rfl⟩ := Sk.of_val r
        obtain ⟨t2, rfl⟩ := Sk.of_val r'
        obtain ⟨G1, B1, g1⟩ := begins (t := t1) I1 h1
        obtain ⟨G2, B2, g2⟩ := begins (t := t2) I1 h2
        exact zip_begins2 B1 B2 g1 g2 fun h' hzp hTI hTO e1 e2 hsz hk => ⟨s1, H1, S1, S2, xs, ys, t1, t2, h', rfl, rfl, I1, h1, h2, hxy, hz, hsz, hk, hzp, hTI, hTO, e1, e2, q⟩
  · obtain ⟨s1, H1, S1, S2, xs, ys, t1, t2, h', rfl, rfl, I1, h1, h2, hxy, hz, hsz, hk, hzp, hTI, hTO, e1, e2, q⟩ := h2
    have I2 : Inv X pins σ H1 { s1 with heap := h' } := I1.kept (t' := s1.toks) hk
    have l1 := src_lt I1 h1
    have l2 := src_lt I1 h2
    have nm : ∀ {S : Sk} (l : ∀ b ∈ S.rest, b < s1.heap.objs.size) (j : Nat), s1.heap.objs.size + j ∉ S.rest := fun l j hm => absurd (l _ hm) (Nat.not_lt.mpr (Nat.le_add_right s1.heap.objs.size j))
    have hh : X.A.in1.in1.in1.handled = none := I1.ok.hd hc
    obtain ⟨D1⟩ := drawn (t := t1) I2 hh h1 (nm l1 0)
    obtain ⟨D2⟩ := drawn (t := t2) I2 hh h2 (nm l2 1)
    have d2 := D2.dr
    rw [← hxy] at d2
    refine zl_call (s := { s1 with heap := h' }) (N := s1.heap.objs.size) hsz l1 l2 D1.dr d2 hz ⟨⟨_, _, hzp, .inl rfl⟩, hTI, ⟨_, _, hTO⟩, D1.into 0 _ (Sk.start e1) fun _ _ _ q => q, D2.into 0 _ (Sk.start e2) fun _ _ _ q => q⟩ fun h'' tk acc c as hk2 hS hl hG hacc => ?_
    have hsz5 : s1.heap.objs.size ≤ h'.objs.size := by rw [hsz]; exact Nat.le_add_right _ _
    obtain ⟨H', k1, k2, k3, k4, J⟩ := zl_laid (tk := tk) I1 hsz5 hz hxy D1.rel D2.rel (fun b o e => hk2 b o (Heap.lt_size e) (hk b o e)) hS hl hG hacc
    exact ⟨.ref _, H', J, rfl, q H' _ as k1 k2 k3 hl k4⟩
end
end LW
end
section
set_option linter.all false
set_option autoImplicit false
set_option maxRecDepth 100000
set_option maxHeartbeats 2000000
/-! the plain law: small tables -/
namespace LW
open LS (Wd)
theorem fewG_lang {L : List Nat} {m n : Nat} (g : Nat → Bool) {w : List Nat} (hw : Wd L.length w) : (⟨(fewTab L m n).st, (List.range (n + 2)).map g⟩ : LS.Tb).lang w = g (min (cm L m w) (n + 1)) := by
  have h := fewTab_go (L := L) (m := m) (n := n) w 0 (by omega) hw
  rw [Nat.zero_add] at h
  unfold LS.Tb.lang
  show ((List.range (n + 2)).map g).getD (LS.go (fewTab L m n).nx 0 w) false = _
  rw [h, List.getD_eq_getElem?_getD, List.getElem?_map, List.getElem?_range (by omega)] <;> rfl
theorem fewG_ok {L : List Nat} {m n : Nat} (g : Nat → Bool) : (⟨(fewTab L m n).st, (List.range (n + 2)).map g⟩ : LS.Tb).Ok L.length := by
  have h := fewTab_ok L m n
  have e := fewTab_len L m n
  exact ⟨by show ((List.range (n + 2)).map g).length = _; rw [e]; simp, h.pos, h.row, h.lt⟩
theorem sm_few (L : List Nat) (m n : Nat) : Small L.length (n + 2) (fun w => decide (cm L m w ≤ n)) :=
  ⟨fewTab L m n, fewTab_ok L m n, fun w hw => fewTab_lang hw, Nat.le_of_eq (fewTab_len L m n)⟩
theorem sm_just (L : List Nat) (m n : Nat) : Small L.length (n + 2) (fun w => decide (cm L m w = n)) :=
  ⟨_, fewG_ok (m := m) (n := n) (fun i => decide (i = n)), fun w hw => by
    rw [fewG_lang _ hw]
    exact decide_eq_decide.mpr (by omega), Nat.le_of_eq (fewTab_len L m n)⟩
theorem modG_lang {L : List Nat} {m md : Nat} (h1 : 1 ≤ md) (g : Nat → Bool) {w : List Nat} (hw : Wd L.length w) : (⟨(modTab L m md 0).st, (List.range md).map g⟩ : LS.Tb).lang w = g (cm L m w % md) := by
  have h := modTab_go (L := L) (m := m) (rest := 0) h1 w 0 (by omega) hw
  rw [Nat.zero_add] at h
  unfold LS.Tb.lang
  show ((List.range md).map g).getD (LS.go (modTab L m md 0).nx 0 w) false = _
  rw [h, List.getD_eq_getElem?_getD, List.getElem?_map, List.getElem?_range (Nat.mod_lt _ h1)] <;> rfl
theorem modG_ok {L : List Nat} {m md : Nat} (h1 : 1 ≤ md) (g : Nat → Bool) : (⟨(modTab L m md 0).st, (List.range md).map g⟩ : LS.Tb).Ok L.length := by
  have h := modTab_ok L m (rest := 0) h1
  have e := modTab_len L m md 0
  exact ⟨by show ((List.range md).map g).length = _; rw [e]; simp, h.pos, h.row, h.lt⟩
theorem sm_modG (L : List Nat) (m : Nat) {md : Nat} (h1 : 1 ≤ md) (g : Nat → Bool) : Small L.length md (fun w => g (cm L m w % md)) :=
  ⟨_, modG_ok (m := m) h1 g, fun w hw => modG_lang h1 g hw, Nat.le_of_eq (modTab_len L m md 0)⟩
theorem sm_mod (L : List Nat) (m : Nat) {md : Nat} (h1 : 1 ≤ md) (r : Nat) : Small L.length md (fun w => decide (cm L m w % md = r)) := sm_modG L m h1 fun i => decide (i = r)
theorem sm_modlt (L : List Nat) (m : Nat) {md : Nat} (h1 : 1 ≤ md) (r : Nat) : Small L.length md (fun w => decide (cm L m w % md < r)) := sm_modG L m h1 fun i => decide (i < r)
theorem sm_const (k : Nat) (b : Bool) : Small k 1 (fun _ => b) := ⟨constTab k b, constTab_ok k b, fun w hw => constTab_lang hw, Nat.le_refl 1⟩
theorem sm_runs (L : List Nat) (m : Nat) {ls : List Nat} (h : ∀ r ∈ ls, 1 ≤ r) : Small L.length (ls.sum + ls.length + 2) (fun w => LS.rG ls (bm L m w)) :=
  ⟨runTab L m ls, runTab_ok h, fun w hw => runTab_lang h hw, Nat.le_of_eq (runTab_len h)⟩
theorem sm_ends (L a b : List Nat) : Small L.length 4 (fun w => firstIn L a w && lastIn L b w) := ⟨endsTab L a b, endsTab_ok L a b, fun w hw => endsTab_lang hw, Nat.le_refl 4⟩
theorem sm_nbr (L : List Nat) (ps : List (List Nat)) : Small L.length (L.length + 2) (nbr L ps) := ⟨neigTab L ps, neigTab_ok L ps, fun w hw => neigTab_lang hw, Nat.le_of_eq (neigTab_len L ps)⟩
theorem wordTab_le (L : List Nat) (ws : List (List Nat)) : (wordTab L ws).st.length ≤ (ws.map List.length).sum + 2 := by
  obtain ⟨pw, wf, _, h⟩ := LS.trie_spec ws
  rw [wordTab_len, ← wf.len]
  omega
theorem sm_list (L : List Nat) (ws : List (List Nat)) : Small L.length ((ws.map List.length).sum + 2) (fun w => decide (spell L w ∈ ws)) :=
  ⟨wordTab L ws, wordTab_ok L ws, fun w hw => wordTab_lang hw, wordTab_le L ws⟩
/-- pairs that are told by the first part, but for one -/
theorem pairs_few {N n : Nat} {o : List (Nat × Nat)} (nd : o.Nodup) (h : ∀ x ∈ o, x.1 ≤ N ∧ x.2 < n) (hu : ∀ x ∈ o, ∀ y ∈ o, x.1 < N → x.1 = y.1 → x = y) : o.length ≤ N + n := by
  have e : (o.map fun x : Nat × Nat => if x.1 < N then x.1 else N + x.2).length = o.length := List.length_map _
  rw [← e]
  refine LS.nodup_lt (List.pairwise_map.mpr (nd.imp_of_mem fun {x y} hx hy hne z => ?_)) fun q hq => ?_
  · obtain ⟨x1, x2⟩ := h x hx
    obtain ⟨y1, y2⟩ := h y hy
    by_cases a : x.1 < N
    · rw [if_pos a] at z
      by_cases b : y.1 < N
      · rw [if_pos b] at z
        exact hne (hu x hx y hy a z)
      · rw [if_neg b] at z
        omega
    · rw [if_neg a] at z
      by_cases b : y.1 < N
      · rw [if_pos b] at z
        omega
      · rw [if_neg b] at z
        exact hne (Prod.ext (by omega) (by omega))
  · obtain ⟨x, hx, rfl⟩ := List.mem_map.mp hq
    obtain ⟨x1, x2⟩ := h x hx
    by_cases a : x.1 < N
    · rw [if_pos a]; omega
    · rw [if_neg a]; omega
theorem spell_inj {L : List Nat} (hn : L.Nodup) : ∀ {u w : List Nat}, Wd L.length u → Wd L.length w → spell L u = spell L w → u = w
  | [], [], _, _, _ => rfl
  | [], _ :: _, _, _, h => by cases h
  | _ :: _, [], _, _, h => by cases h
  | a :: u, b :: w, hu, hw, h => by
    have h1 : L.getD a 0 = L.getD b 0 := (List.cons.inj h).1
    have h2 : spell L u = spell L w := (List.cons.inj h).2
    rw [LS.getD_at hu.head, LS.getD_at hw.head] at h1
    have e : a = b := (List.getElem_inj hn).mp h1
    rw [e, spell_inj hn hu.tail hw.tail h2]
/-- Listed beside any table: few pairs -/
theorem sm_opL {L : List Nat} {ws : List (List Nat)} {n : Nat} {g : List Nat → Bool} (hn : L.Nodup) (r : Bool → Bool → Bool) (hg : Small L.length n g) : Small L.length ((ws.map List.length).sum + 1 + n) (fun w => r (decide (spell L w ∈ ws)) (g w)) := by
  obtain ⟨B, b1, b2, b3⟩ := hg
  have a1 := wordTab_ok L ws
  obtain ⟨pw, wf, _, hp⟩ := LS.trie_spec ws
  obtain ⟨o, _, W, h0, hlt, hr⟩ := LS.pair_spec a1 b1
  refine ⟨LS.tabOf (LS.pairNx (wordTab L ws) B) (LS.pairOk r (wordTab L ws) B) o, W.tab_ok ?_, fun w hw => ?_, ?_⟩
  · exact List.length_pos_iff.mpr fun z => by rw [z] at h0; cases h0
  · show _ = r _ (g w)
    rw [← b2 w hw, ← wordTab_lang hw]
    exact LS.pair_lang a1 b1 W h0 hw
  · have hl : (LS.tabOf (LS.pairNx (wordTab L ws) B) (LS.pairOk r (wordTab L ws) B) o).st.length = o.length := by unfold LS.tabOf; simp
    rw [hl]
    have q : o.length ≤ pw.length + B.st.length := by
      refine pairs_few W.nd (fun x hx => ⟨?_, (hlt x hx).2⟩) fun x hx y hy hxN he => ?_
      · have := (hlt x hx).1
        rw [wordTab_len, ← wf.len] at this
        omega
      · obtain ⟨u, hu, eu⟩ := hr x hx
        obtain ⟨v, hv, ev⟩ := hr y hy
        have gu := wordTab_go (L := L) wf u 0 [] hu wf.root
        have gv := wordTab_go (L := L) wf v 0 [] hv wf.root
        rw [List.nil_append] at gu gv
        have xu : x.1 = LS.go (wordTab L ws).nx 0 u := by rw [eu]
        have yv : y.1 = LS.go (wordTab L ws).nx 0 v := by rw [ev]
        rw [← xu] at gu
        rw [← yv, ← he] at gv
        have lu : pw[x.1]? = some (spell L u) := by
          rcases gu with z | z
          · exact z.2
          · have := z.2
            rw [← wf.len] at this
            omega
        have lv : pw[x.1]? = some (spell L v) := by
          rcases gv with z | z
          · exact z.2
          · have := z.2
            rw [← wf.len] at this
            omega
        rw [lu] at lv
        have := spell_inj hn hu hv (Option.some.inj lv)
        subst this
        rw [eu, ev]
    omega
end LW
end
section
set_option linter.all false
set_option autoImplicit false
set_option maxRecDepth 100000
set_option maxHeartbeats 2000000
/-! the plain law: what the law asks of languages -/
namespace LW
open LS (Wd)
theorem runs_none (L : List Nat) (m : Nat) (w : List Nat) : LS.rG [] (bm L m w) = decide (cm L m w ≤ 0) := by
  rw [LS.rG0, bm_ct]
  exact decide_eq_decide.mpr (by omega)
theorem runs_just {L : List Nat} {m n : Nat} {w : List Nat} (h1 : 1 ≤ n) (h : LS.rG [n] (bm L m w) = true) : cm L m w = n := by
  have := LS.rG_sum _ [n] (fun r hr => by rw [List.mem_singleton] at hr; omega) h
  rw [bm_ct] at this
  simpa using this
theorem runs_one (L : List Nat) (m : Nat) (w : List Nat) : LS.rG [1] (bm L m w) = decide (cm L m w = 1) := by rw [LS.rG1, bm_ct]
theorem runs_apart (L : List Nat) (m : Nat) (w : List Nat) : LS.rG [1, 1] (bm L m w) = (decide (cm L m w = 2) && !LS.tt (bm L m w)) := by rw [LS.rG11, bm_ct]
theorem runs_21 {L : List Nat} {m : Nat} {w : List Nat} (h : LS.rG [2, 1] (bm L m w) = true) : cm L m w = 3 ∧ LS.tt (bm L m w) = true := by
  have h1 := LS.rG_sum _ [2, 1] (fun r hr => by simp at hr; omega) h
  rw [bm_ct] at h1
  exact ⟨by simpa using h1, LS.rG_two _ 2 [1] (Nat.le_refl 2) h⟩
theorem dec_two (x y m : Nat) [Decidable (¬ (x = m ∧ y = m))] : decide (¬ (x = m ∧ y = m)) = !((x == m) && (y == m)) := by
  by_cases e1 : x = m <;> by_cases e2 : y = m <;> simp [e1, e2]
/-- neighbours of all pairs but of one letter twice -/
theorem nbr_apart {L : List Nat} {m : Nat} {ps : List (List Nat)} (h : ∀ x ∈ L, ∀ y ∈ L, [x, y] ∈ ps ↔ ¬ (x = m ∧ y = m)) : ∀ {w : List Nat}, Wd L.length w → nbr L ps w = !LS.tt (bm L m w)
  | [], _ => rfl
  | [a], _ => by
    show true = !LS.tt [L.getD a 0 == m]
    cases (L.getD a 0 == m) <;> rfl
  | a :: b :: w, hw => by
    have ih := nbr_apart h (w := b :: w) hw.tail
    have ha : L.getD a 0 ∈ L := LS.getD_mem hw.head
    have hb : L.getD b 0 ∈ L := LS.getD_mem hw.tail.head
    show (decide ([L.getD a 0, L.getD b 0] ∈ ps) && nbr L ps (b :: w)) = !LS.tt ((L.getD a 0 == m) :: (L.getD b 0 == m) :: bm L m w)
    rw [ih]
    show (decide ([L.getD a 0, L.getD b 0] ∈ ps) && !LS.tt ((L.getD b 0 == m) :: bm L m w)) = _
    have e : decide ([L.getD a 0, L.getD b 0] ∈ ps) = !((L.getD a 0 == m) && (L.getD b 0 == m)) := by
      rw [decide_eq_decide.mpr (h _ ha _ hb)]
      exact dec_two _ _ m
    rw [e]
    cases (L.getD a 0 == m) with
    | false => rw [LS.tt_f]; rfl
    | true =>
      cases (L.getD b 0 == m) with
      | true => rfl
      | false => rw [LS.tt_tf, LS.tt_f]; rfl
theorem nbr_snoc (L : List Nat) (ps : List (List Nat)) : ∀ (w : List Nat) (a b : Nat), nbr L ps (w ++ [a, b]) = (nbr L ps (w ++ [a]) && decide ([L.getD a 0, L.getD b 0] ∈ ps))
  | [], a, b => by
    show (decide ([L.getD a 0, L.getD b 0] ∈ ps) && true) = (true && decide ([L.getD a 0, L.getD b 0] ∈ ps))
    rw [Bool.and_true, Bool.true_and]
  | [c], a, b => by
    show (decide ([L.getD c 0, L.getD a 0] ∈ ps) && (decide ([L.getD a 0, L.getD b 0] ∈ ps) && true)) = ((decide ([L.getD c 0, L.getD a 0] ∈ ps) && true) && decide ([L.getD a 0, L.getD b 0] ∈ ps))
    rw [Bool.and_true, Bool.and_true]
  | c :: d :: w, a, b => by
    have ih := nbr_snoc L ps (d :: w) a b
    show (decide ([L.getD c 0, L.getD d 0] ∈ ps) && nbr L ps (d :: w ++ [a, b])) = ((decide ([L.getD c 0, L.getD d 0] ∈ ps) && nbr L ps (d :: w ++ [a])) && decide ([L.getD a 0, L.getD b 0] ∈ ps))
    rw [ih, Bool.and_assoc]
theorem mem_rev {ps : List (List Nat)} (x : List Nat) : x ∈ ps.map List.reverse ↔ x.reverse ∈ ps := by
  constructor
  · intro h
    obtain ⟨y, hy, rfl⟩ := List.mem_map.mp h
    rw [List.reverse_reverse]
    exact hy
  · intro h
    exact List.mem_map.mpr ⟨_, h, List.reverse_reverse x⟩
theorem nbr_rev (L : List Nat) (ps : List (List Nat)) : ∀ (w : List Nat), nbr L ps w.reverse = nbr L (ps.map List.reverse) w
  | [] => rfl
  | [_] => rfl
  | a :: b :: w => by
    have ih := nbr_rev L ps (b :: w)
    rw [List.reverse_cons, List.reverse_cons, List.append_assoc]
    rw [List.reverse_cons] at ih
    show nbr L ps (w.reverse ++ [b, a]) = (decide ([L.getD a 0, L.getD b 0] ∈ ps.map List.reverse) && nbr L (ps.map List.reverse) (b :: w))
    rw [nbr_snoc, ih, Bool.and_comm, decide_eq_decide.mpr (mem_rev [L.getD a 0, L.getD b 0])]
    rfl
theorem spell_rev (L w : List Nat) : spell L w.reverse = (spell L w).reverse := by unfold spell; rw [List.map_reverse]
theorem list_rev (L : List Nat) (ws : List (List Nat)) (w : List Nat) : decide (spell L w.reverse ∈ ws) = decide (spell L w ∈ ws.map List.reverse) := by
  rw [spell_rev]
  exact decide_eq_decide.mpr (mem_rev _).symm
theorem cm_rev (L : List Nat) (m : Nat) (w : List Nat) : cm L m w.reverse = cm L m w := by
  unfold cm
  exact List.countP_reverse
/-! ### other letters in their places -/
section
variable {L : List Nat} {h : Nat → Nat}
theorem getD_h (a : Nat) (ha : a < L.length) : (L.map h).getD a 0 = h (L.getD a 0) := by
  rw [LS.getD_at ha, LS.getD_at (by rw [List.length_map]; exact ha), List.getElem_map]
theorem spell_h {w : List Nat} (hw : Wd L.length w) : spell (L.map h) w = (spell L w).map h := by
  unfold spell
  rw [List.map_map]
  exact List.map_congr_left fun a ha => getD_h a (hw a ha)
theorem spell_in {w : List Nat} (hw : Wd L.length w) : ∀ y ∈ spell L w, y ∈ L := fun y hy => by
  obtain ⟨a, ha, rfl⟩ := List.mem_map.mp hy
  exact LS.getD_mem (hw a ha)
variable (hi : ∀ x ∈ L, ∀ y ∈ L, h x = h y → x = y)
theorem map_inj_on : ∀ {u w : List Nat}, (∀ x ∈ L, ∀ y ∈ L, h x = h y → x = y) → (∀ y ∈ u, y ∈ L) → (∀ y ∈ w, y ∈ L) → u.map h = w.map h → u = w
  | [], [], _, _, _, _ => rfl
  | [], _ :: _, _, _, _, e => by cases e
  | _ :: _, [], _, _, _, e => by cases e
  | a :: u, b :: w, hi, hu, hw, e => by
    rw [List.map_cons, List.map_cons] at e
    have e1 := hi _ (hu _ List.mem_cons_self) _ (hw _ List.mem_cons_self) (List.cons.inj e).1
    have e2 := map_inj_on hi (fun y hy => hu y (List.mem_cons_of_mem _ hy)) (fun y hy => hw y (List.mem_cons_of_mem _ hy)) (List.cons.inj e).2
    rw [e1, e2]
theorem mem_map_on {ws : List (List Nat)} {u : List Nat} (hi : ∀ x ∈ L, ∀ y ∈ L, h x = h y → x = y) (hws : ∀ v ∈ ws, ∀ y ∈ v, y ∈ L) (hu : ∀ y ∈ u, y ∈ L) : u.map h ∈ ws.map (List.map h) ↔ u ∈ ws := by
  constructor
  · intro z
    obtain ⟨v, hv, e⟩ := List.mem_map.mp z
    rw [← map_inj_on hi (hws v hv) hu e]
    exact hv
  · intro z
    exact List.mem_map.mpr ⟨u, z, rfl⟩
theorem bm_h {m : Nat} (hi : ∀ x ∈ L, ∀ y ∈ L, h x = h y → x = y) (hm : m ∈ L) {w : List Nat} (hw : Wd L.length w) : bm (L.map h) (h m) w = bm L m w := by
  unfold bm
  refine List.map_congr_left fun a ha => ?_
  rw [getD_h a (hw a ha)]
  by_cases e : L.getD a 0 = m
  · rw [e]; simp
  · have : h (L.getD a 0) ≠ h m := fun z => e (hi _ (LS.getD_mem (hw a ha)) _ hm z)
    rw [beq_eq_false_iff_ne.mpr this, beq_eq_false_iff_ne.mpr e]
theorem cm_h {m : Nat} (hi : ∀ x ∈ L, ∀ y ∈ L, h x = h y → x = y) (hm : m ∈ L) {w : List Nat} (hw : Wd L.length w) : cm (L.map h) (h m) w = cm L m w := by
  rw [← bm_ct, ← bm_ct, bm_h hi hm hw]
theorem list_h {ws : List (List Nat)} (hi : ∀ x ∈ L, ∀ y ∈ L, h x = h y → x = y) (hws : ∀ v ∈ ws, ∀ y ∈ v, y ∈ L) {w : List Nat} (hw : Wd L.length w) : decide (spell (L.map h) w ∈ ws.map (List.map h)) = decide (spell L w ∈ ws) := by
  rw [spell_h hw]
  exact decide_eq_decide.mpr (mem_map_on hi hws (spell_in hw))
theorem nbr_h {ps : List (List Nat)} (hi : ∀ x ∈ L, ∀ y ∈ L, h x = h y → x = y) (hps : ∀ v ∈ ps, ∀ y ∈ v, y ∈ L) : ∀ {w : List Nat}, Wd L.length w → nbr (L.map h) (ps.map (List.map h)) w = nbr L ps w
  | [], _ => rfl
  | [_], _ => rfl
  | a :: b :: w, hw => by
    have ih := nbr_h hi hps (w := b :: w) hw.tail
    have ha : L.getD a 0 ∈ L := LS.getD_mem hw.head
    have hb : L.getD b 0 ∈ L := LS.getD_mem hw.tail.head
    show (decide ([(L.map h).getD a 0, (L.map h).getD b 0] ∈ ps.map (List.map h)) && _) = (decide ([L.getD a 0, L.getD b 0] ∈ ps) && nbr L ps (b :: w))
    rw [ih, getD_h a hw.head, getD_h b hw.tail.head]
    congr 1
    exact decide_eq_decide.mpr (mem_map_on (u := [L.getD a 0, L.getD b 0]) hi hps fun y hy => by
      rcases List.mem_cons.mp hy with e | hy
      · rw [e]; exact ha
      · rw [List.mem_singleton.mp hy]; exact hb)
end
/-! ### ends -/
theorem head_nil {L a : List Nat} : ¬ ∃ x, ([] : List Nat).head? = some x ∧ L.getD x 0 ∈ a := fun h => by
  obtain ⟨x, h, _⟩ := h
  cases h
theorem last_nil {L a : List Nat} : ¬ ∃ x, ([] : List Nat).getLast? = some x ∧ L.getD x 0 ∈ a := fun h => by
  obtain ⟨x, h, _⟩ := h
  cases h
theorem first_all {L : List Nat} : ∀ {w : List Nat}, Wd L.length w → firstIn L L w = decide (w ≠ [])
  | [], _ => by
    unfold firstIn
    exact (decide_eq_false head_nil).trans (decide_eq_false fun h => h rfl).symm
  | a :: w, hw => by
    unfold firstIn
    exact (decide_eq_true ⟨a, rfl, LS.getD_mem hw.head⟩).trans (decide_eq_true (List.cons_ne_nil a w)).symm
theorem last_all {L : List Nat} {w : List Nat} (hw : Wd L.length w) : lastIn L L w = decide (w ≠ []) := by
  unfold lastIn
  by_cases e : w = []
  · subst e
    exact (decide_eq_false last_nil).trans (decide_eq_false fun h => h rfl).symm
  · exact (decide_eq_true ⟨w.getLast e, List.getLast?_eq_some_getLast e, LS.getD_mem (hw _ (List.getLast_mem e))⟩).trans (decide_eq_true e).symm
theorem first_none (L a : List Nat) : firstIn L a [] = false := by
  unfold firstIn
  exact decide_eq_false fun h => by
    obtain ⟨x, h, _⟩ := h
    cases h
theorem ends_two {L : List Nat} (a b : List Nat) {w : List Nat} (hw : Wd L.length w) : ((firstIn L a w && lastIn L L w) && (firstIn L L w && lastIn L b w)) = (firstIn L a w && lastIn L b w) := by
  rw [first_all hw, last_all hw]
  by_cases e : w = []
  · rw [e, first_none] <;> rfl
  · rw [decide_eq_true e, Bool.and_true, Bool.true_and]
theorem ends_any {L : List Nat} {w : List Nat} (hw : Wd L.length w) : (firstIn L L w && lastIn L L w) = !decide (spell L w ∈ [[]]) := by
  rw [first_all hw, last_all hw, Bool.and_self]
  cases w with
  | nil => rfl
  | cons a w => rfl
/-! ### listed words -/
theorem list_or (L : List Nat) (a b : List Nat) (w : List Nat) : (decide (spell L w ∈ [a]) || decide (spell L w ∈ [b])) = decide (spell L w ∈ [a, b]) := by
  simp only [List.mem_cons, List.not_mem_nil, or_false]
  by_cases e1 : spell L w = a <;> by_cases e2 : spell L w = b <;> simp [e1, e2]
theorem list_again (L : List Nat) (a b : List Nat) (w : List Nat) : decide (spell L w ∈ [b, a, a]) = decide (spell L w ∈ [a, b]) := by
  refine decide_eq_decide.mpr ?_
  simp only [List.mem_cons, List.not_mem_nil, or_false]
  constructor
  · rintro (h | h | h)
    · exact .inr h
    · exact .inl h
    · exact .inl h
  · rintro (h | h)
    · exact .inr (.inl h)
    · exact .inl h
/-- the index word of a word over L -/
theorem spell_onto {L : List Nat} {u : List Nat} (h : ∀ y ∈ u, y ∈ L) : ∃ w, Wd L.length w ∧ spell L w = u := by
  refine ⟨u.map fun y => L.idxOf y, fun a ha => ?_, ?_⟩
  · obtain ⟨y, hy, rfl⟩ := List.mem_map.mp ha
    exact List.idxOf_lt_length_iff.mpr (h y hy)
  · unfold spell
    rw [List.map_map]
    conv => rhs; rw [← List.map_id u]
    refine List.map_congr_left fun y hy => ?_
    have hl := List.idxOf_lt_length_iff.mpr (h y hy)
    show L.getD (L.idxOf y) 0 = y
    rw [LS.getD_at hl, List.getElem_idxOf hl]
theorem list_both {L a b : List Nat} (ha : ∀ y ∈ a, y ∈ L) : (∀ w, Wd L.length w → (decide (spell L w ∈ [a]) && decide (spell L w ∈ [b])) = decide (spell L w ∈ ([] : List (List Nat)))) ↔ a ≠ b := by
  constructor
  · intro h e
    obtain ⟨w, hw, es⟩ := spell_onto ha
    have := h w hw
    rw [es, e] at this
    simp at this
  · intro h w _
    have : ¬ (spell L w = a ∧ spell L w = b) := fun ⟨z1, z2⟩ => h (z1.symm.trans z2)
    by_cases e1 : spell L w = a
    · have e2 : ¬ spell L w = b := fun z => this ⟨e1, z⟩
      simp [e2]
    · simp [e1]
/-- some word has so many marks -/
theorem cm_some {L : List Nat} {m : Nat} (hm : m ∈ L) (n : Nat) : ∃ w, Wd L.length w ∧ cm L m w = n := by
  have hl := List.idxOf_lt_length_iff.mpr hm
  refine ⟨List.replicate n (L.idxOf m), fun a ha => by rw [(List.mem_replicate.mp ha).2]; exact hl, ?_⟩
  have e : L.getD (L.idxOf m) 0 = m := by rw [LS.getD_at hl, List.getElem_idxOf hl]
  unfold cm
  rw [List.countP_replicate]
  simp only [e, BEq.rfl, if_true]
end LW
end
section
set_option Elab.async false
set_option linter.all false
set_option maxRecDepth 100000
set_option maxHeartbeats 2000000
/-! the law's letters, texts; just so many marks -/
namespace LW
open PySem PySem.Spec PyProof.Rows L2 LamX
theorem PenO.mono {H : Hp} {pn ls : Addr} {n m : Nat} (h : PenO H pn ls n) (e : n ≤ m) : PenO H pn ls m := by
  obtain ⟨xs, a, g, h1, h2, h3, h4, h5⟩ := h
  exact ⟨xs, a, g, h1, h2, h3, h4, by omega⟩
theorem PenO.lst {H : Hp} {pn ls : Addr} {n : Nat} (h : PenO H pn ls n) : ∃ xs, H pn = some (.lst xs) := let ⟨xs, a, g, h1, _⟩ := h; ⟨_, h1⟩
section
variable {c : Cs} {TT : List (Addr × Str)} {H H' : Hp} {pn ls v q : Addr} {n : Nat} {L : List Nat} {f : List Nat → Bool}
theorem Kq.get (hp : PenO H pn ls n) (e : Kq TT pn H H') {b : Addr} {o : HO} (h : H b = some o) (nl : ∀ xs, o ≠ .lst xs) (nt : ∀ ps, o ≠ .tbl ps) : H' b = some o := by
  obtain ⟨xs, hx⟩ := hp.lst
  refine e.ext b o (fun z => ?_) h nt
  rw [List.mem_singleton] at z
  rw [z, hx] at h
  exact nl xs (Option.some.inj h).symm
theorem ValO.kq (hp : PenO H pn ls n) (e : Kq TT pn H H') (h : ValO c H v L) : ValO c H' v L := by
  obtain ⟨dx, h⟩ := h
  exact ⟨dx, e.get hp h (fun xs z => by cases z) (fun xs z => by cases z)⟩
theorem RowsT.kq (hp : PenO H pn ls n) (e : Kq TT pn H H') {r : Addr} {st : List (List Nat)} (h : RowsT H r st) : RowsT H' r st := by
  obtain ⟨rs, h1, h2, h3⟩ := h
  exact ⟨rs, e.get hp h1 (fun xs z => by cases z) (fun xs z => by cases z), h2, fun i a row e1 e2 => e.get hp (h3 i a row e1 e2) (fun xs z => by cases z) (fun xs z => by cases z)⟩
theorem ClueL.kq (hp : PenO H pn ls n) (e : Kq TT pn H H') (h : ClueL c H q v L f) : ClueL c H' q v L f := by
  obtain ⟨T, h, h'⟩ := h
  obtain ⟨C, dx, fs, r, t, h1, h2, h3, h4, h5, h6, h7, h8⟩ := h.ex
  exact ⟨T, ⟨⟨C, dx, fs, r, t, e.get hp h1 (fun xs z => by cases z) (fun xs z => by cases z), h2, h3, h4, h5, h6, h7.kq hp e, e.get hp h8 (fun xs z => by cases z) (fun xs z => by cases z)⟩, h.val.kq hp e, h.can, h.sz⟩, h'⟩
/-- what stands on the law's level -/
structure Bs (c : Cs) (TT : List (Addr × Str)) (H : Hp) (pn ls : Addr) (n : Nat) (v : Addr) (L : List Nat) : Prop where
  pen : PenO H pn ls n
  val : ValO c H v L
  tab : Tabs TT H
theorem Bs.kp (e : Kp TT H H') (b : Bs c TT H pn ls n v L) : Bs c TT H' pn ls n v L := ⟨b.pen.kp e, b.val.extN e.ext, e.tab b.tab⟩
theorem Bs.same (e : Same H H') (b : Bs c TT H pn ls n v L) : Bs c TT H' pn ls n v L := b.kp (.of e)
theorem Bs.kq {m : Nat} (e : Kq TT pn H H') (p : PenO H' pn ls m) (b : Bs c TT H pn ls n v L) : Bs c TT H' pn ls m v L := ⟨p, b.val.kq b.pen e, e.tab b.tab⟩
theorem Bs.dq (e : SameX [pn] H H') (b : Bs c TT H pn ls n v L) : Kq TT pn H H' := let ⟨_, h⟩ := b.pen.lst; Kq.draw h e
theorem PenO.dq (e : SameX [pn] H H') (p : PenO H pn ls n) : Kq TT pn H H' := let ⟨_, h⟩ := p.lst; Kq.draw h e
end
section
variable {K : PySem.W.Frag} {mg : Str → Option Value} {c : Cs} {H : Hp} {v : Addr} {L : List Nat}
theorem rd_letters (Z : TC K mg c) {Q : V → Hp → Prop} (hv : ValO c H v L) (q : Q (.str (Sg L)) H) : ∃ a C dx fs u, V.ref v = .ref a ∧ H a = some (.ins C dx fs) ∧ Cls K C ∧ NoAttr K C "letters" ∧ fs.lookup ("letters" : Str) = some u ∧ Q u H := by
  obtain ⟨dv, hv⟩ := hv
  exact ⟨v, _, _, _, _, rfl, hv, Z.vl.cls, Z.vl.na _ (by simp [fieldNames]), rfl, q⟩
end
abbrev st_law_letters : Stmt := top 63
theorem sc_law_letters : FnScope ["_law_pen_here"] ["_law_pen_here"] (defScope st_law_letters) := ⟨rfl, rfl, rfl, by decide +kernel, rfl, by decide +kernel, by decide +kernel⟩
abbrev st_law_text : Stmt := top 64
theorem sc_law_text : FnScope ["_law_pen_here", "_law_letters_here", "_law_many", "_law_k"] ["_law_pen_here", "_law_letters_here", "_law_many"] (defScope st_law_text) := ⟨rfl, rfl, rfl, by decide +kernel, rfl, by decide +kernel, by decide +kernel⟩
abbrev st_law_marked : Stmt := top 68
theorem sc_law_marked : FnScope ["_law_base", "_law_mark"] ["_law_base", "_law_mark"] (defScope st_law_marked) := ⟨rfl, rfl, rfl, by decide +kernel, rfl, by decide +kernel, by decide +kernel⟩
abbrev st_law_just : Stmt := top 65
theorem sc_law_just : FnScope ["_law_base", "_law_mark", "_law_many"] ["_law_base", "_law_mark", "_law_many"] (defScope st_law_just) := ⟨rfl, rfl, rfl, by decide +kernel, rfl, by decide +kernel, by decide +kernel⟩
def spLawLet : Sp := fun vs H Q _ => ∃ (pn ls : Addr) (n : Nat), vs = [.ref pn] ∧ PenO H pn ls n ∧ n ≤ 80000 ∧ ∀ L H', Abc L → SameX [pn] H H' → PenO H' pn ls (n + 1) → Q (.str (Sg L)) H'
def spText : Sp := fun vs H Q _ => ∃ (pn ls : Addr) (n many : Nat) (L : List Nat), vs = [.ref pn, .str (Sg L), nV many] ∧ PenO H pn ls n ∧ n ≤ 80000 ∧ many ≤ 100 ∧ 1 ≤ L.length ∧ L.length ≤ 4 ∧
  ∀ u H', u.length = many → (∀ y ∈ u, y ∈ L) → SameX [pn] H H' → PenO H' pn ls (n + many) → Q (.str (Sg u)) H'
def spJust (c : Cs) : Sp := fun vs H Q _ => ∃ (v : Addr) (L : List Nat) (m n : Nat), vs = [.ref v, .str (Sg [m]), nV n] ∧ ValO c H v L ∧ L.length ≤ 4 ∧ m ∈ L ∧ n ≤ 20 ∧
  ∀ q H', Same H H' → ClueL c H' q v L (fun w => decide (cm L m w = n)) → Q (.ref q) H'
def spMarked (c : Cs) : Sp := fun vs H Q _ => ∃ (v : Addr) (L : List Nat) (m : Nat), vs = [.ref v, .str (Sg [m])] ∧ ValO c H v L ∧ L.length ≤ 4 ∧ m ∈ L ∧
  ∀ q H', Same H H' → ClueL c H' q v L (fun w => !decide (cm L m w ≤ 0)) → Q (.ref q) H'
section
variable {P : Program} {w : World} {K : PySem.W.Frag} {mg : Str → Option Value} {base : Heap} {c : Cs} {TT : List (Addr × Str)}
theorem c_law_marked (Y : TL P K mg base c TT) : Cal P w K mg base "_law_marked" 8 ["_law_base", "_law_mark"] (spMarked c) := by
  have Z := Y.Z
  have T := Z.T
  obtain ⟨fFew, kFew⟩ := Y.kFew
  have c_Few := c_Few_init (P := P) (w := w) (base := base) Z kFew
  have c_Clue_invert := c_Clue_invert (P := P) (w := w) (base := base) Z
  refine FunG.cal T.f_law_marked sc_law_marked (fun _ _ _ _ _ _ us hl => match us, hl with | [_, _], _ => rfl) (fun vs H Q E h => ?_) (fun f cdv A outer s H vs Q E hr h => ?_)
  · obtain ⟨v, L, m, rfl, _⟩ := h
    rfl
  · obtain ⟨v, L, m, rfl, hv, hL, hm, kk⟩ := h
--TERM _law_marked
    refine ⟨_, (pss_one (ps_ret (pe_un (un_ownInv c_Clue_invert (hr.mono (by decide))) (pe_mkR kFew.mak c_Few (by decide) hr rfl Y.g_Few (pa_cons (pv 0) (pa_cons (pv 1) (pa_cons pe_int pa_nil))))))), ?_⟩
--END
    refine ⟨_, rfl, _, rfl, fun x dx nx nd _ => (show spFew c c.few [V.ref x, V.ref v, V.str (Sg [m]), nV 0] _ _ _ from mk_few (n := 0) hv hL hm (by decide) nx nd fun H1 s1 hq1 => ?_)⟩
    exact rd_inv Z hq1 hL fun q2 H2 s2 hq2 => kk q2 H2 (sm_trans s1 s2) hq2
theorem c_law_just (Y : TL P K mg base c TT) : Cal P w K mg base "_law_just" 8 ["_law_base", "_law_mark", "_law_many"] (spJust c) := by
  have Z := Y.Z
  have T := Z.T
  obtain ⟨fFew, kFew⟩ := Y.kFew
  have c_Few := c_Few_init (P := P) (w := w) (base := base) Z kFew
  have c_Clue_sub := c_Clue_sub (P := P) (w := w) (base := base) Z
  refine FunG.cal T.f_law_just sc_law_just (fun _ _ _ _ _ _ us hl => match us, hl with | [_, _, _], _ => rfl) (fun vs H Q E h => ?_) (fun f cdv A outer s H vs Q E hr h => ?_)
  · obtain ⟨v, L, m, n, rfl, _⟩ := h
    rfl
  · obtain ⟨v, L, m, n, rfl, hv, hL, hm, hn, kk⟩ := h
--TERM _law_just
    refine ⟨_, (pss_one (ps_ret (pe_ifExp (pt_cmpR op_eq (pv 2) pe_int (nomark _)) (pe_mkR kFew.mak c_Few (by decide) hr rfl Y.g_Few (pa_cons (pv 0) (pa_cons (pv 1) (pa_cons (pv 2) pa_nil)))) (pe_op (op_own c_Clue_sub (hr.mono (by decide)) (by decide)) (pe_mkR kFew.mak c_Few (by decide) hr rfl Y.g_Few (pa_cons (pv 0) (pa_cons (pv 1) (pa_cons (pv 2) pa_nil)))) (pe_mkR kFew.mak c_Few (by decide) hr rfl Y.g_Few (pa_cons (pv 0) (pa_cons (pv 1) (pa_cons (pe_op op_sub (pv 2) pe_int) pa_nil)))))))), ?_⟩
--END
    refine ⟨_, rfl, rfl, _, rfl, ?_⟩
    by_cases h0 : n = 0
    · subst h0
      refine iteT ?_
      refine ⟨_, rfl, _, rfl, _, rfl, fun x dx nx nd _ => mk_few (n := 0) hv hL hm (by decide) nx nd fun H1 s1 hq1 => kk _ H1 s1 (hq1.congr fun w _ => decide_eq_decide.mpr (by omega))⟩
    · have e : decide (V.int (n : Int) = V.int 0) = false := decide_eq_false fun z => h0 (by injection z; omega)
      rw [e]
      refine iteF ?_
      refine ⟨_, rfl, _, rfl, _, rfl, fun x dx nx nd _ => mk_few hv hL hm (by omega) nx nd fun H1 s1 hq1 => ?_⟩
      have e2 : (n : Int) - 1 = ((n - 1 : Nat) : Int) := by omega
      refine ⟨_, rfl, _, rfl, _, rfl, _, _, rfl, rfl, ?_⟩
      intro x2 dx2 nx2 nd2 _
      show spFew c c.few [V.ref x2, V.ref v, V.str (Sg [m]), V.int ((n : Int) - 1)] _ _ _
      rw [e2]
      refine mk_few (n := n - 1) (hv.same s1) hL hm (by omega) nx2 nd2 fun H2 s2 hq2 => ?_
      have en : ∀ w, LS.Wd L.length w → Rule.less.f (decide (cm L m w ≤ n)) (decide (cm L m w ≤ n - 1)) = decide (cm L m w = n) := fun w _ => by
        show (decide (cm L m w ≤ n) && !decide (cm L m w ≤ n - 1)) = _
        by_cases a : cm L m w = n
        · rw [decide_eq_true a, decide_eq_true (by omega : cm L m w ≤ n), decide_eq_false (by omega : ¬ cm L m w ≤ n - 1)] <;> rfl
        · rw [decide_eq_false a]
          by_cases b : cm L m w ≤ n
          · rw [decide_eq_true (by omega : cm L m w ≤ n - 1)]; simp
          · rw [decide_eq_false b]; rfl
      refine rd_op2 Z (fun C hC => (Z.cc C hC).sub) (by decide) (hq1.same s2) hq2 hL (sm_few L m n) (sm_few L m (n - 1)) (Nat.le_trans (Nat.mul_le_mul (show n + 2 ≤ 22 by omega) (show n - 1 + 2 ≤ 21 by omega)) (by decide)) (((sm_just L m n).le (by omega)).congr fun w hw => (en w hw).symm) fun q3 H3 s3 hq3 => kk q3 H3 (sm_trans s1 (sm_trans s2 s3)) (hq3.congr en)
end
end LW
end
section
set_option Elab.async false
set_option linter.all false
set_option maxRecDepth 100000
set_option maxHeartbeats 2000000
/-! the law's letters and texts -/
namespace LW
open PySem PySem.Spec PyProof.Rows L2 LamX
theorem PenO.put {H : Hp} {pn ls : Addr} {n : Nat} {D : Addr} {o : HO} (h : PenO H pn ls n) (h1 : D ≠ pn) (h2 : D ≠ ls) : PenO (upd H D o) pn ls n := by
  obtain ⟨xs, a, g, e1, e2, e3⟩ := h
  exact ⟨xs, a, g, by rw [upd_ne (Ne.symm h1)]; exact e1, by rw [upd_ne (Ne.symm h2)]; exact e2, e3⟩
theorem PenO.ne {H : Hp} {pn ls : Addr} {n : Nat} {D : Addr} (h : PenO H pn ls n) (hD : H D = none) : D ≠ pn ∧ D ≠ ls := by
  obtain ⟨xs, a, g, e1, e2, e3⟩ := h
  exact ⟨Ne.symm (ne_of_none e1 hD), Ne.symm (ne_of_none e2 hD)⟩
theorem abc_menu : ∀ v ∈ [V.str (Str.ofString "xo"), V.str (Str.ofString "xo"), V.str (Str.ofString "ox"), V.str (Str.ofString "az"), V.str (Str.ofString "xoz"), V.str (Str.ofString "cab"), V.str (Str.ofString "dcba")], ∃ L, Abc L ∧ v = .str (Sg L) := by
  intro v hv
  simp only [List.mem_cons, List.not_mem_nil, or_false] at hv
  have a1 : Abc [120, 111] := ⟨by decide, by decide, by decide, by decide⟩
  have a2 : Abc [111, 120] := ⟨by decide, by decide, by decide, by decide⟩
  have a3 : Abc [97, 122] := ⟨by decide, by decide, by decide, by decide⟩
  have a4 : Abc [120, 111, 122] := ⟨by decide, by decide, by decide, by decide⟩
  have a5 : Abc [99, 97, 98] := ⟨by decide, by decide, by decide, by decide⟩
  have a6 : Abc [100, 99, 98, 97] := ⟨by decide, by decide, by decide, by decide⟩
  rcases hv with rfl | rfl | rfl | rfl | rfl | rfl | rfl
  · exact ⟨_, a1, by decide +kernel⟩
  · exact ⟨_, a1, by decide +kernel⟩
  · exact ⟨_, a2, by decide +kernel⟩
  · exact ⟨_, a3, by decide +kernel⟩
  · exact ⟨_, a4, by decide +kernel⟩
  · exact ⟨_, a5, by decide +kernel⟩
  · exact ⟨_, a6, by decide +kernel⟩
section
variable {P : Program} {w : World} {K : PySem.W.Frag} {mg : Str → Option Value} {base : Heap} {c : Cs} {TT : List (Addr × Str)}
theorem c_law_letters (T : Txt K mg) : Cal P w K mg base "_law_letters" 3 ["_law_pen_here"] spLawLet := by
  have c_law_pick := c_law_pick (P := P) (w := w) (base := base) T
  refine FunG.cal T.f_law_letters sc_law_letters (fun _ _ _ _ _ _ us hl => match us, hl with | [_], _ => rfl) (fun vs H Q E h => ?_) (fun f cdv A outer s H vs Q E hr h => ?_)
  · obtain ⟨pn, ls, n, rfl, _⟩ := h
    rfl
  · obtain ⟨pn, ls, n, rfl, hp, hn, kk⟩ := h
--TERM _law_letters
    refine ⟨_, (pss_one (ps_ret (pe_cal c_law_pick (by decide) hr (pa_cons (pv 0) (pa_cons (pe_lst (pa_cons pe_str (pa_cons pe_str (pa_cons pe_str (pa_cons pe_str (pa_cons pe_str (pa_cons pe_str (pa_cons pe_str pa_nil)))))))) pa_nil))))), ?_⟩
--END
    refine ⟨_, rfl, by show 7 ≤ sizeLine; decide, fun p np => ?_⟩
    have s1 : Same H (upd H p (.lst [V.str (Str.ofString "xo"), V.str (Str.ofString "xo"), V.str (Str.ofString "ox"), V.str (Str.ofString "az"), V.str (Str.ofString "xoz"), V.str (Str.ofString "cab"), V.str (Str.ofString "dcba")])) := same_new np
    refine ⟨pn, ls, n, .ref p, _, rfl, hp.kp (TT := []) (.of s1), by omega, by decide, by decide, .inl ⟨p, rfl, upd_same, (hp.ne np).1⟩, fun v H' hv sx hp' => ?_⟩
    obtain ⟨L, hL, rfl⟩ := abc_menu v hv
    exact kk L H' hL (SameX.after s1 sx) hp'
theorem c_law_text (T : Txt K mg) : Cal P w K mg base "_law_text" 3 ["_law_pen_here", "_law_letters_here", "_law_many"] spText := by
  have c_law_pick := c_law_pick (P := P) (w := w) (base := base) T
  refine FunG.cal T.f_law_text sc_law_text (fun _ _ _ _ _ _ us hl => match us, hl with | [_, _, _], _ => rfl) (fun vs H Q E h => ?_) (fun f cdv A outer s H vs Q E hr h => ?_)
  · obtain ⟨pn, ls, n, many, L, rfl, _⟩ := h
    rfl
  · obtain ⟨pn, ls, n, many, L, rfl, hp, hn, hm, hL1, hL, kk⟩ := h
--TERM _law_text
    refine ⟨_, (pss_one (ps_ret (pe_bmK K PySem.F.plainAttrs_str PySem.F.slot_str_join PySem.F.type_str_join (mt_joinK K) pe_str (pa_cons (pe_lc (own := [("_law_k", 3)]) rfl sc_law_text.nd (pi_range1 rfl T.b_range (pa_cons (pv 2) pa_nil)) (blkOk_by (own := [("_law_k", 3)]) (by kernel_rfl)) (fun _ _ _ _ _ => (pg_name (i := 3) sc_law_text.nd rfl (Or.inl rfl))) (fun _ _ _ _ _ => pts_nil) (fun _ _ _ _ _ => (pe_cal c_law_pick (by decide) hr (pa_cons (pv 0) (pa_cons (pv 1) pa_nil))))) pa_nil)))), ?_⟩
--END
    refine ⟨rfl, _, rfl, _, rfl, by omega, by omega, ?_⟩
    rw [Int.toNat_natCast]
    refine fun D nD => lc_it (walk_range (lo := 0) (n := many)) (fun i H' => ∃ us : List Nat, H' D = some (.lst (us.map fun y => V.str (Sg [y]))) ∧ us.length = i ∧ (∀ y ∈ us, y ∈ L) ∧ SameX [pn] H (hid H' D) ∧ PenO H' pn ls (n + i)) ?_ (fun _ _ _ _ => True.intro) ?_ ?_
    · obtain ⟨d1, d2⟩ := hp.ne nD
      refine ⟨[], upd_same, rfl, (fun y hy => nomatch hy), ?_, hp.put d1 d2⟩
      rw [hid_upd]
      exact fun b o nb e => by rw [hid_ne (ne_of_none e nD)]; exact e
    · rintro i y H1 H2 hi ⟨us, e1, e2, e3, sx, hp1⟩ ⟨rfl, ey⟩
      obtain ⟨d1, d2⟩ := hp.ne nD
      refine ⟨rfl, _, rfl, _, rfl, pn, ls, n + i, .str (Sg L), _, rfl, hp1, by omega, by rw [List.length_map]; exact hL1, by rw [List.length_map]; omega, .inr ⟨L, rfl, rfl⟩, fun v H3 hv sx3 hp3 => ?_⟩
      obtain ⟨y2, hy2, rfl⟩ := List.mem_map.mp hv
      have eD3 : H3 D = some (.lst (us.map fun y => V.str (Sg [y]))) := sx3 _ _ (by simpa using d1) e1
      refine ⟨_, eD3, by rw [List.length_map]; exact small5 (by omega), us ++ [y2], by rw [upd_same, List.map_append] <;> rfl, by rw [List.length_append, e2] <;> rfl, ?_, ?_, hp3.put d1 d2⟩
      · intro z hz
        rcases List.mem_append.mp hz with hz | hz
        · exact e3 z hz
        · rw [List.mem_singleton.mp hz]; exact hy2
      · rw [hid_upd]
        intro b o nb e
        rw [hid_ne (ne_of_none e nD)]
        have h1 := sx b o nb e
        rw [hid_ne (ne_of_none e nD)] at h1
        exact sx3 b o nb h1
    · rintro H1 ⟨us, e1, e2, e3, sx, hp1⟩
      refine ⟨Str.ofString "", D, us.map fun y => Sg [y], rfl, rfl, .inl (SqL.of (by rw [e1, List.map_map] <;> rfl)), ?_, ?_⟩
      · rw [sum_ones, show (Str.ofString "").length = 0 from rfl]
        omega
      · rw [join_ones]
        exact kk us H1 e2 e3 (fun b o nb e => hid_sub _ _ (sx b o nb e)) hp1
end
end LW
end
section
set_option Elab.async false
set_option linter.all false
set_option maxRecDepth 100000
set_option maxHeartbeats 2000000
/-! all pairs but one -/
namespace LW
open PySem PySem.Spec PyProof.Rows L2 LamX
theorem none_same {H H' : Hp} {p : Addr} (s : Same H H') (n : H' p = none) : H p = none := by
  cases e : H p with
  | none => rfl
  | some o => rw [s _ _ e] at n; cases n
section
variable {K : PySem.W.Frag} {c : Cs} {H : Hp} {v x dx : Addr} {L : List Nat} {TT : List (Addr × Str)}
theorem mk_neigV {vs : List V} {ps : List (List Nat)} (e : vs = [V.ref x, .ref v] ++ ps.map (fun w => V.str (Sg w))) (hv : ValO c H v L) (hL : L.length ≤ 4) (h1 : ps.length ≤ 100) (h2 : ∀ w ∈ ps, w.length = 2 ∧ ∀ y ∈ w, y ∈ L) (hT : Tabs TT H) (nx : H x = none) (nd : H dx = none)
    {R : Hp → Prop} (kk : ∀ H', Kp TT H H' → ClueL c H' x v L (nbr L ps) → R H') :
    ∃ us rest, vs = us ++ rest ∧ us.length = 2 ∧ rest.length ≤ sizeLine ∧ ∀ p, upd (upd H dx (.own x)) x (.ins c.neig dx []) p = Option.none → spNeig c c.neig TT (us ++ [V.ref p]) (upd (upd (upd H dx (.own x)) x (.ins c.neig dx [])) p (.tup rest)) (fun z H2 => z = .non ∧ R H2) E0 := by
  subst e
  exact mk_neig hv hL h1 h2 hT nx nd kk
theorem mk_listV {vs : List V} {ws : List (List Nat)} (e : vs = [V.ref x, .ref v] ++ ws.map (fun w => V.str (Sg w))) (hv : ValO c H v L) (hL : L.length ≤ 4) (h1 : ws.length ≤ 20) (h2 : ∀ w ∈ ws, w.length ≤ 30 ∧ ∀ y ∈ w, y ∈ L) (h3 : (ws.map List.length).sum + 2 ≤ 64) (hT : Tabs TT H) (nx : H x = none) (nd : H dx = none)
    {R : Hp → Prop} (kk : ∀ H', Kp TT H H' → ClueL c H' x v L (fun w => decide (spell L w ∈ ws)) → R H') :
    ∃ us rest, vs = us ++ rest ∧ us.length = 2 ∧ rest.length ≤ sizeLine ∧ ∀ p, upd (upd H dx (.own x)) x (.ins c.list dx []) p = Option.none → spListed c c.list TT (us ++ [V.ref p]) (upd (upd (upd H dx (.own x)) x (.ins c.list dx [])) p (.tup rest)) (fun z H2 => z = .non ∧ R H2) E0 := by
  subst e
  exact mk_list hv hL h1 h2 h3 hT nx nd kk
theorem mk_runsV {vs : List V} {m : Nat} {ls : List Nat} (e : vs = [V.ref x, .ref v, .str (Sg [m])] ++ ls.map nV) (hv : ValO c H v L) (hL : L.length ≤ 4) (hm : m ∈ L) (h1 : ls.length ≤ 8) (h2 : ∀ r ∈ ls, 1 ≤ r ∧ r ≤ 30) (h3 : ls.sum + ls.length + 2 ≤ 64) (hT : Tabs TT H) (nx : H x = none) (nd : H dx = none)
    {R : Hp → Prop} (kk : ∀ H', Kp TT H H' → ClueL c H' x v L (fun w => LS.rG ls (bm L m w)) → R H') :
    ∃ us rest, vs = us ++ rest ∧ us.length = 3 ∧ rest.length ≤ sizeLine ∧ ∀ p, upd (upd H dx (.own x)) x (.ins c.runs dx []) p = Option.none → spRuns c c.runs TT (us ++ [V.ref p]) (upd (upd (upd H dx (.own x)) x (.ins c.runs dx [])) p (.tup rest)) (fun z H2 => z = .non ∧ R H2) E0 := by
  subst e
  exact mk_runs hv hL hm h1 h2 h3 hT nx nd kk
end
/-- the pairs whose first letter is one of xs, but for m m -/
def prs (L : List Nat) (m : Nat) (xs : List Nat) : List (List Nat) := xs.flatMap fun x => (L.filter fun y => !decide ([x, y] = [m, m])).map fun y => [x, y]
theorem mem_prs {L xs : List Nat} {m : Nat} {z : List Nat} : z ∈ prs L m xs ↔ ∃ x ∈ xs, ∃ y ∈ L, z = [x, y] ∧ ¬ (x = m ∧ y = m) := by
  unfold prs
  rw [List.mem_flatMap]
  constructor
  · rintro ⟨x, hx, h⟩
    obtain ⟨y, hy, rfl⟩ := List.mem_map.mp h
    obtain ⟨h1, h2⟩ := List.mem_filter.mp hy
    refine ⟨x, hx, y, h1, rfl, fun ⟨e1, e2⟩ => ?_⟩
    subst e1 e2
    simp at h2
  · rintro ⟨x, hx, y, hy, rfl, h⟩
    refine ⟨x, hx, List.mem_map.mpr ⟨y, List.mem_filter.mpr ⟨hy, ?_⟩, rfl⟩⟩
    have : ¬ [x, y] = [m, m] := fun z => h ⟨(List.cons.inj z).1, (List.cons.inj (List.cons.inj z).2).1⟩
    rw [decide_eq_false this] <;> rfl
theorem prs_le (L : List Nat) (m : Nat) : ∀ xs : List Nat, (prs L m xs).length ≤ xs.length * L.length
  | [] => Nat.zero_le _
  | x :: xs => by
    have ih := prs_le L m xs
    unfold prs at ih ⊢
    rw [List.flatMap_cons, List.length_append, List.length_map, List.length_cons, Nat.add_mul, Nat.one_mul]
    have := List.length_filter_le (fun y => !decide ([x, y] = [m, m])) L
    omega
theorem prs_lt {L : List Nat} {m : Nat} (hm : m ∈ L) (hL : L.length ≤ 4) : (prs L m L).length ≤ 15 := by
  have key : ∀ xs : List Nat, m ∈ xs → (prs L m xs).length + 1 ≤ xs.length * L.length := by
    intro xs
    induction xs with
    | nil => intro h; cases h
    | cons x xs ih =>
      intro h
      have h0 := prs_le L m xs
      unfold prs at ih h0 ⊢
      rw [List.flatMap_cons, List.length_append, List.length_map, List.length_cons, Nat.add_mul, Nat.one_mul]
      rcases List.mem_cons.mp h with e | h
      · subst e
        have : (L.filter fun y => !decide ([m, y] = [m, m])).length < L.length := List.length_filter_lt_length_iff_exists.mpr ⟨m, hm, by simp⟩
        omega
      · have := ih h
        have := List.length_filter_le (fun y => !decide ([x, y] = [m, m])) L
        omega
  have := key L hm
  have := Nat.mul_le_mul hL hL
  omega
theorem prs_take {L : List Nat} {m i x : Nat} (h : L[i]? = some x) : prs L m (L.take (i + 1)) = prs L m (L.take i) ++ (L.filter fun y => !decide ([x, y] = [m, m])).map fun y => [x, y] := by
  unfold prs
  rw [take_snoc h, List.flatMap_append]
  simp
abbrev st_law_all_but : Stmt := top 66
theorem sc_law_all_but : FnScope ["_law_base", "_law_pair", "_law_letters_here", "_law_some", "_law_one", "_law_a", "_law_b", "_law_c", "_law_d", "_law_e", "_law_f", "_law_g", "_law_h", "_law_i", "_law_j", "_law_k", "_law_m", "_law_n", "_law_p", "_law_q", "_law_other"] ["_law_base", "_law_pair"] (defScope st_law_all_but) := ⟨rfl, rfl, rfl, by decide +kernel, rfl, by decide +kernel, by decide +kernel⟩
def spAllBut (c : Cs) (TT : List (Addr × Str)) : Sp := fun vs H Q _ => ∃ (v : Addr) (L : List Nat) (m : Nat), vs = [.ref v, .str (Sg [m, m])] ∧ ValO c H v L ∧ Abc L ∧ m ∈ L ∧ Tabs TT H ∧
  ∀ q H', Kp TT H H' → ClueL c H' q v L (fun w => !LS.tt (bm L m w)) → Q (.ref q) H'
section
variable {P : Program} {w : World} {K : PySem.W.Frag} {mg : Str → Option Value} {base : Heap} {c : Cs} {TT : List (Addr × Str)}
theorem c_law_all_but (Y : TL P K mg base c TT) : Cal P w K mg base "_law_all_but" 8 ["_law_base", "_law_pair"] (spAllBut c TT) := by
  have Z := Y.Z
  have T := Z.T
  obtain ⟨fN, kNeighbours⟩ := Y.kNeig
  have c_Neighbours := c_Neighbours_init (P := P) (w := w) (base := base) Z kNeighbours
  refine FunG.cal T.f_law_all_but sc_law_all_but (fun _ _ _ _ _ _ us hl => match us, hl with | [_, _], _ => rfl) (fun vs H Q E h => ?_) (fun f cdv A outer s H vs Q E hr h => ?_)
  · obtain ⟨v, L, m, rfl, _⟩ := h
    rfl
  · obtain ⟨v, L, m, rfl, hv, hA, hm, hT, kk⟩ := h
--TERM _law_all_but
    refine ⟨_, (pss_cons (ps_set (i := 2) sc_law_all_but.nd rfl (Or.inl rfl) (pe_fldK K (pv 0)))
  (pss_cons (ps_set (i := 3) sc_law_all_but.nd rfl (Or.inl rfl) (pe_lst pa_nil))
  (pss_cons (ps_for PassesOwn.never rfl (pi_str (pv 2)) (pg_name (i := 4) sc_law_all_but.nd rfl (Or.inr rfl))
  (pss_one (ps_set (i := 3) sc_law_all_but.nd rfl (Or.inl rfl) (pe_op op_cat (pv 3) (pe_lc (own := [("_law_other", 20)]) rfl sc_law_all_but.nd (pi_str (pv 2)) (blkOk_by (own := [("_law_other", 20)]) (by kernel_rfl)) (fun _ _ _ _ _ => (pg_name (i := 20) sc_law_all_but.nd rfl (Or.inl rfl))) (fun _ _ _ _ _ => (pts_one (pt_cmpR op_ne (pe_op op_add_str (pv 4) (pv 20)) (pv 1) (nomark _)))) (fun _ _ _ _ _ => (pe_op op_add_str (pv 4) (pv 20))))))))
  (pss_cons (ps_while PassesOwn.never (pt_cmpR op_lt (pe_callB (call_lenK K) (by rfl) T.b_len PySem.boot_len (pa_cons (pv 3) pa_nil)) pe_int (nomark _))
  (pss_one (ps_expr (pe_bmK K PySem.F.plainAttrs_list PySem.F.slot_list_append PySem.F.type_list_append mt_append (pv 3) (pa_cons (pe_ix (ix_listK K) (pv 3) pe_int (fun _ _ => rfl)) pa_nil)))))
  (C8.pss_cut (ps_asg (pe_slice (sl_listK K) (pv 3) po_none (po_some pe_int)) (pg_lstK K (n := 5) (pgs_cons (pg_name (i := 5) sc_law_all_but.nd rfl (Or.inl rfl)) (pgs_cons (pg_name (i := 6) sc_law_all_but.nd rfl (Or.inl rfl)) (pgs_cons (pg_name (i := 7) sc_law_all_but.nd rfl (Or.inl rfl)) (pgs_cons (pg_name (i := 8) sc_law_all_but.nd rfl (Or.inl rfl)) (pgs_cons (pg_name (i := 9) sc_law_all_but.nd rfl (Or.inl rfl)) pgs_nil)))))))
  (C8.pss_cut (ps_asg (pe_slice (sl_listK K) (pv 3) (po_some pe_int) (po_some pe_int)) (pg_lstK K (n := 5) (pgs_cons (pg_name (i := 10) sc_law_all_but.nd rfl (Or.inl rfl)) (pgs_cons (pg_name (i := 11) sc_law_all_but.nd rfl (Or.inl rfl)) (pgs_cons (pg_name (i := 12) sc_law_all_but.nd rfl (Or.inl rfl)) (pgs_cons (pg_name (i := 13) sc_law_all_but.nd rfl (Or.inl rfl)) (pgs_cons (pg_name (i := 14) sc_law_all_but.nd rfl (Or.inl rfl)) pgs_nil)))))))
  (C8.pss_cut (ps_asg (pe_slice (sl_listK K) (pv 3) (po_some pe_int) (po_some pe_int)) (pg_lstK K (n := 5) (pgs_cons (pg_name (i := 15) sc_law_all_but.nd rfl (Or.inl rfl)) (pgs_cons (pg_name (i := 16) sc_law_all_but.nd rfl (Or.inl rfl)) (pgs_cons (pg_name (i := 17) sc_law_all_but.nd rfl (Or.inl rfl)) (pgs_cons (pg_name (i := 18) sc_law_all_but.nd rfl (Or.inl rfl)) (pgs_cons (pg_name (i := 19) sc_law_all_but.nd rfl (Or.inl rfl)) pgs_nil)))))))
  (pss_one (ps_ret (pe_mkR kNeighbours.mak c_Neighbours (by decide) hr rfl Y.g_Neighbours (pa_cons (pv 0) (pa_cons (pv 5) (pa_cons (pv 6) (pa_cons (pv 7) (pa_cons (pv 8) (pa_cons (pv 9) (pa_cons (pv 10) (pa_cons (pv 11) (pa_cons (pv 12) (pa_cons (pv 13) (pa_cons (pv 14) (pa_cons (pv 15) (pa_cons (pv 16) (pa_cons (pv 17) (pa_cons (pv 18) (pa_cons (pv 19) pa_nil)))))))))))))))))))))))))), ?_⟩
--END
    have hL := hA.hi
    refine ⟨_, rfl, rd_letters Z hv ?_⟩
    refine ⟨by show 0 ≤ sizeLine; decide, fun p0 n0 => ?_⟩
    have s1 : Same H (upd H p0 (.lst [])) := same_new n0
    -- the pairs
    refine ⟨_, rfl, Sg L, rfl, for_it (walk_str (z := Sg L)) (fun i σ H' => ∃ (v4 : Option V) (p : Addr), σ = [some (.ref v), some (.str (Sg [m, m])), some (.str (Sg L)), some (.ref p), v4, none, none, none, none, none, none, none, none, none, none, none, none, none, none, none, none] ∧ Same H H' ∧
      H p = none ∧ H' p = some (.lst ((prs L m (L.take i)).map fun z => V.str (Sg z)))) ⟨none, p0, rfl, s1, n0, upd_same⟩ (fun _ _ _ _ _ => True.intro) ?_ ?_⟩
    · rintro i y σ1 H2 H1 hi ⟨v4, p, rfl, s, np, hp⟩ ⟨rfl, x, ey, rfl⟩
      have ey : L[i]? = some x := by simpa [SX.S] using ey
      have hxL : x ∈ L := List.mem_of_getElem? ey
      refine ⟨_, rfl, _, rfl, Sg L, rfl, lc_txt (fun D => LcPv (fun j acc _ => acc = ((L.take j).filter fun y => !decide ([x, y] = [m, m])).map fun y => V.str (Sg [x, y])) H1 D) (fun D nD => pv_start nD rfl) ?_ ?_⟩
      · rintro D j yy H3 nD hy ⟨acc, eD, hl, sm, r⟩
        have hj : j < L.length := (List.getElem?_eq_some_iff.mp hy).1
        refine ⟨rfl, _, rfl, _, rfl, Sg [x], Sg [yy], rfl, rfl, by rw [S_length, S_length]; show 2 ≤ sizeLine; decide, _, rfl, rfl, _, rfl, ?_⟩
        rw [sg_cat]
        have ed : (!decide (V.str (Sg ([x] ++ [yy])) = V.str (Sg [m, m]))) = !decide ([x, yy] = [m, m]) := by
          congr 1
          refine decide_eq_decide.mpr ⟨fun z => ?_, fun z => by rw [show [x] ++ [yy] = [x, yy] from rfl, z]⟩
          injection z with z
          exact SX.S_inj z
        rw [ed]
        by_cases hb : [x, yy] = [m, m]
        · rw [decide_eq_true hb]
          refine iteF ?_
          refine pv_skip eD hl sm (Same.refl _) ?_
          rw [r, take_snoc hy, List.filter_append, List.map_append, List.filter_cons_of_neg (by rw [decide_eq_true hb]; decide)]
          simp
        · rw [decide_eq_false hb]
          refine iteT ?_
          refine ⟨_, rfl, _, rfl, Sg [x], Sg [yy], rfl, rfl, by rw [S_length, S_length]; show 2 ≤ sizeLine; decide, ?_⟩
          rw [sg_cat]
          refine pv_push eD hl sm (Same.refl _) (by omega) ?_
          rw [r, take_snoc hy, List.filter_append, List.map_append]
          congr 1
          rw [List.filter_cons_of_pos (by rw [decide_eq_false hb] <;> rfl)]
          rfl
      · rintro D H3 nD ⟨acc, eD, hl, sm, r⟩
        have s13 := sm_trans sm hid_sub
        rw [List.take_length] at r
        have hz1 := prs_le L m (L.take i)
        have hz2 : (L.take i).length ≤ 4 := by rw [List.length_take]; omega
        have hz3 := Nat.mul_le_mul hz2 hL
        refine ⟨p, D, _, _, rfl, rfl, s13 _ _ hp, eD, ?_, fun p2 np2 => ?_⟩
        · rw [List.length_map]
          exact Nat.le_of_lt (small5 (by omega))
        have s03 := sm_trans s s13
        refine ⟨_, p2, rfl, sm_upd s03 (none_same s03 np2), none_same s03 np2, ?_⟩
        rw [upd_same, prs_take ey, List.map_append, r, List.map_map]
        rfl
    rintro σ1 H1 ⟨v4, p, rfl, s, np, hp⟩
    rw [show (Sg L).cps.size = L.length from by simp [SX.S], List.take_length] at hp
    -- filled up to fifteen
    refine ⟨fun k σ' H' => ∃ ps : List (List Nat), k = 15 - ps.length ∧ σ' = [some (.ref v), some (.str (Sg [m, m])), some (.str (Sg L)), some (.ref p), v4, none, none, none, none, none, none, none, none, none, none, none, none, none, none, none, none] ∧ Same H H' ∧
      H' p = some (.lst (ps.map fun z => V.str (Sg z))) ∧ (∀ z, z ∈ ps ↔ z ∈ prs L m L) ∧ ps.length ≤ 15, ⟨_, prs L m L, rfl, rfl, s, hp, fun z => Iff.rfl, prs_lt hm hL⟩, ?_⟩
    rintro k σ2 H2 ⟨ps, rfl, rfl, s2, hp2, hmem, hps⟩
    refine ⟨_, rfl, _, ps.length, rfl, .inl ⟨_, SqL.of hp2, by simp⟩, _, _, rfl, rfl, _, rfl, ?_⟩
    by_cases hlt : ps.length < 15
    · rw [decide_eq_true (show (ps.length : Int) < 15 by omega)]
      refine iteT ?_
      obtain ⟨a, ha, b, hb, hab⟩ : ∃ a ∈ L, ∃ b ∈ L, ¬ (a = m ∧ b = m) := by
        by_cases h : ∀ a ∈ L, a = m
        · have h1 := hA.nd
          have h2 := hA.lo
          match L, h, h1, h2 with
          | a :: b :: r, h, h1, h2 =>
            have e1 := h a (by simp)
            have e2 := h b (by simp)
            subst e1
            simp [e2] at h1
        · obtain ⟨a, h⟩ := Classical.not_forall.mp h
          obtain ⟨h1, h2⟩ := Classical.not_imp.mp h
          exact ⟨a, h1, m, hm, fun z => h2 z.1⟩
      have hne : [a, b] ∈ ps := (hmem _).mpr (mem_prs.mpr ⟨a, ha, b, hb, rfl, hab⟩)
      obtain ⟨z0, r0, e0⟩ : ∃ z0 r0, ps = z0 :: r0 := by
        cases ps with
        | nil => cases hne
        | cons z r => exact ⟨z, r, rfl⟩
      refine ⟨fun σ3 H3 => σ3 = [some (.ref v), some (.str (Sg [m, m])), some (.str (Sg L)), some (.ref p), v4, none, none, none, none, none, none, none, none, none, none, none, none, none, none, none, none] ∧ Same H H3 ∧
        H3 p = some (.lst ((ps ++ [z0]).map fun z => V.str (Sg z))), fun σ3 H3 ⟨e1, e2, e3⟩ => ⟨15 - (ps ++ [z0]).length, by rw [List.length_append, List.length_singleton]; omega, ps ++ [z0], rfl, e1, e2, e3, fun z => ?_, by rw [List.length_append, List.length_singleton]; omega⟩, ?_⟩
      · rw [← hmem z, e0]
        simp only [List.mem_append, List.mem_cons, List.not_mem_nil, or_false]
        constructor
        · rintro (h | h)
          · exact h
          · exact .inl h
        · exact fun h => .inl h
      · refine ⟨_, rfl, .inl ⟨rfl, _, SqL.of hp2⟩, _, rfl, p, _, _, V.str (Sg z0), rfl, rfl, SqL.of hp2, by rw [e0]; exact atI_nat (j := 0) rfl, p, _, _, rfl, rfl, hp2, by rw [List.length_map]; exact small5 (by omega), ?_⟩
        refine ⟨rfl, sm_upd s2 np, ?_⟩
        rw [upd_same, List.map_append]
        rfl
    · rw [decide_eq_false (show ¬ (ps.length : Int) < 15 by omega)]
      refine iteF ?_
      obtain ⟨z1, z2, z3, z4, z5, z6, z7, z8, z9, z10, z11, z12, z13, z14, z15, e⟩ : ∃ z1 z2 z3 z4 z5 z6 z7 z8 z9 z10 z11 z12 z13 z14 z15, ps = [z1, z2, z3, z4, z5, z6, z7, z8, z9, z10, z11, z12, z13, z14, z15] := by
        match ps, (show ps.length = 15 by omega) with
        | [z1, z2, z3, z4, z5, z6, z7, z8, z9, z10, z11, z12, z13, z14, z15], _ => exact ⟨z1, z2, z3, z4, z5, z6, z7, z8, z9, z10, z11, z12, z13, z14, z15, rfl⟩
      subst e
      have c1 : cutV (([z1, z2, z3, z4, z5, z6, z7, z8, z9, z10, z11, z12, z13, z14, z15] : List (List Nat)).map fun z => V.str (Sg z)) none (some 5) = [V.str (Sg z1), V.str (Sg z2), V.str (Sg z3), V.str (Sg z4), V.str (Sg z5)] := rfl
      have c2 : cutV (([z1, z2, z3, z4, z5, z6, z7, z8, z9, z10, z11, z12, z13, z14, z15] : List (List Nat)).map fun z => V.str (Sg z)) (some 5) (some 10) = [V.str (Sg z6), V.str (Sg z7), V.str (Sg z8), V.str (Sg z9), V.str (Sg z10)] := rfl
      have c3 : cutV (([z1, z2, z3, z4, z5, z6, z7, z8, z9, z10, z11, z12, z13, z14, z15] : List (List Nat)).map fun z => V.str (Sg z)) (some 10) (some 15) = [V.str (Sg z11), V.str (Sg z12), V.str (Sg z13), V.str (Sg z14), V.str (Sg z15)] := rfl
      refine ⟨fun σ' H' => σ' = [some (.ref v), some (.str (Sg [m, m])), some (.str (Sg L)), some (.ref p), v4, some (.str (Sg z1)), some (.str (Sg z2)), some (.str (Sg z3)), some (.str (Sg z4)), some (.str (Sg z5)), none, none, none, none, none, none, none, none, none, none, none] ∧ Same H2 H', ?_, ?_⟩
      refine ⟨_, rfl, 5, rfl, p, _, rfl, SqL.of hp2, fun q1 nq1 => ?_⟩
      have t1 : Same H2 (upd H2 q1 (.lst [V.str (Sg z1), V.str (Sg z2), V.str (Sg z3), V.str (Sg z4), V.str (Sg z5)])) := same_new nq1
      rw [c1]
      refine ⟨q1, _, rfl, SqL.of upd_same, rfl, _, _, rfl, _, _, rfl, _, _, rfl, _, _, rfl, _, _, rfl, rfl, ⟨rfl, t1⟩⟩
      rintro σ15 H3 ⟨rfl, t1⟩
      have hp3 := t1 _ _ hp2
      refine ⟨fun σ' H' => σ' = [some (.ref v), some (.str (Sg [m, m])), some (.str (Sg L)), some (.ref p), v4, some (.str (Sg z1)), some (.str (Sg z2)), some (.str (Sg z3)), some (.str (Sg z4)), some (.str (Sg z5)), some (.str (Sg z6)), some (.str (Sg z7)), some (.str (Sg z8)), some (.str (Sg z9)), some (.str (Sg z10)), none, none, none, none, none, none] ∧ Same H3 H', ?_, ?_⟩
      refine ⟨_, rfl, 5, rfl, 10, rfl, p, _, rfl, SqL.of hp3, fun q2 nq2 => ?_⟩
      have t2 : Same H3 (upd H3 q2 (.lst [V.str (Sg z6), V.str (Sg z7), V.str (Sg z8), V.str (Sg z9), V.str (Sg z10)])) := same_new nq2
      rw [c2]
      refine ⟨q2, _, rfl, SqL.of upd_same, rfl, _, _, rfl, _, _, rfl, _, _, rfl, _, _, rfl, _, _, rfl, rfl, ⟨rfl, t2⟩⟩
      rintro σ20 H4 ⟨rfl, t2⟩
      have hp4 := t2 _ _ hp3
      refine ⟨fun σ' H' => σ' = [some (.ref v), some (.str (Sg [m, m])), some (.str (Sg L)), some (.ref p), v4, some (.str (Sg z1)), some (.str (Sg z2)), some (.str (Sg z3)), some (.str (Sg z4)), some (.str (Sg z5)), some (.str (Sg z6)), some (.str (Sg z7)), some (.str (Sg z8)), some (.str (Sg z9)), some (.str (Sg z10)), some (.str (Sg z11)), some (.str (Sg z12)), some (.str (Sg z13)), some (.str (Sg z14)), some (.str (Sg z15)), none] ∧ Same H4 H', ?_, ?_⟩
      refine ⟨_, rfl, 10, rfl, 15, rfl, p, _, rfl, SqL.of hp4, fun q3 nq3 => ?_⟩
      have t3 : Same H4 (upd H4 q3 (.lst [V.str (Sg z11), V.str (Sg z12), V.str (Sg z13), V.str (Sg z14), V.str (Sg z15)])) := same_new nq3
      rw [c3]
      refine ⟨q3, _, rfl, SqL.of upd_same, rfl, _, _, rfl, _, _, rfl, _, _, rfl, _, _, rfl, _, _, rfl, rfl, ⟨rfl, t3⟩⟩
      rintro σ25 H5 ⟨rfl, t3⟩
      have s5 : Same H H5 := sm_trans s2 (sm_trans t1 (sm_trans t2 t3))
      refine ⟨_, rfl, _, rfl, _, rfl, _, rfl, _, rfl, _, rfl, _, rfl, _, rfl, _, rfl, _, rfl, _, rfl, _, rfl, _, rfl, _, rfl, _, rfl, _, rfl, fun x dx nx nd _ => ?_⟩
      refine mk_neigV (ps := [z1, z2, z3, z4, z5, z6, z7, z8, z9, z10, z11, z12, z13, z14, z15]) rfl (hv.same s5) hL (Nat.le_of_ble_eq_true rfl) (fun z hz => ?_) (hT.ext s5) nx nd fun H6 k6 hq => ?_
      · obtain ⟨a, ha, b, hb, rfl, _⟩ := mem_prs.mp ((hmem z).mp hz)
        exact ⟨rfl, fun y hy => by
          rcases List.mem_cons.mp hy with e | hy
          · rw [e]; exact ha
          · rw [List.mem_singleton.mp hy]; exact hb⟩
      · refine kk _ H6 ((Kp.of s5).trans k6) (hq.congr fun w hw => nbr_apart (fun a ha b hb => ?_) hw)
        rw [hmem, mem_prs]
        constructor
        · rintro ⟨a', _, b', _, e, h⟩
          have e1 := (List.cons.inj e).1
          have e2 := (List.cons.inj (List.cons.inj e).2).1
          subst e1 e2
          exact h
        · exact fun h => ⟨a, ha, b, hb, rfl, h⟩
end
end LW
end
section
set_option Elab.async false
set_option linter.all false
set_option maxRecDepth 100000
set_option maxHeartbeats 2000000
/-! clues of marks fit one another -/
namespace LW
open PySem PySem.Spec PyProof.Rows L2 LamX
abbrev st_law_marks_right : Stmt := top 67
theorem sc_law_marks_right : FnScope ["_law_pen_here", "_law_base", "_law_mark", "_law_many", "_law_cycle", "_law_just_here", "_law_share", "_law_rest_so", "_law_one", "_law_long_so", "_law_apart"] ["_law_pen_here", "_law_base"] (defScope st_law_marks_right) := ⟨rfl, rfl, rfl, by decide +kernel, rfl, by decide +kernel, by decide +kernel⟩
/-- True, whatever is drawn -/
def spRight (c : Cs) (TT : List (Addr × Str)) : Sp := fun vs H Q _ => ∃ (pn ls v : Addr) (n : Nat) (L : List Nat), vs = [.ref pn, .ref v] ∧ Bs c TT H pn ls n v L ∧ Abc L ∧ n ≤ 70000 ∧ ∀ H', Kq TT pn H H' → PenO H' pn ls (n + 20) → Q (.bl true) H'
theorem tNil_ok {σ : L2.St} {H : Hp} {k : List V → Hp → Prop} (h : k [] H) : tNil σ H k := h
section
variable {P : Program} {w : World} {K : PySem.W.Frag} {mg : Str → Option Value} {base : Heap} {c : Cs} {TT : List (Addr × Str)} {H : Hp} {q1 v1 : Addr} {L : List Nat} {f : List Nat → Bool}
theorem rd_wit (Z : TC K mg c) {t : TA} {σ : L2.St} {sp : Sp} {Q : VK} (ha : ClueL c H q1 v1 L f) (h : t σ H fun vs H2 => sp (.ref q1 :: vs) H2 Q E0) :
    ∃ a C dx fs, V.ref q1 = .ref a ∧ H a = some (.ins C dx fs) ∧ Cls K C ∧ Meth K C "within" c.fWit ∧ fs.lookup ("within" : Str) = none ∧ t σ H fun vs H2 => sp (V.ref q1 :: vs) H2 Q E0 := by
  obtain ⟨C, dx, fs, h1, h2, h3, h4⟩ := rd_me Z ha
  exact ⟨q1, C, dx, fs, rfl, h1, h2, h3.wit, h4 _ (by simp [clueMs]), h⟩
theorem rd_cnt (Z : TC K mg c) {t : TA} {σ : L2.St} {sp : Sp} {Q : VK} (ha : ClueL c H q1 v1 L f) (h : t σ H fun vs H2 => sp (.ref q1 :: vs) H2 Q E0) :
    ∃ a C dx fs, V.ref q1 = .ref a ∧ H a = some (.ins C dx fs) ∧ Cls K C ∧ Meth K C "count" c.fCnt ∧ fs.lookup ("count" : Str) = none ∧ t σ H fun vs H2 => sp (V.ref q1 :: vs) H2 Q E0 := by
  obtain ⟨C, dx, fs, h1, h2, h3, h4⟩ := rd_me Z ha
  exact ⟨q1, C, dx, fs, rfl, h1, h2, h3.cnt, h4 _ (by simp [clueMs]), h⟩
theorem rd_ren (Z : TC K mg c) {t : TA} {σ : L2.St} {sp : Sp} {Q : VK} (ha : ClueL c H q1 v1 L f) (h : t σ H fun vs H2 => sp (.ref q1 :: vs) H2 Q E0) :
    ∃ a C dx fs, V.ref q1 = .ref a ∧ H a = some (.ins C dx fs) ∧ Cls K C ∧ Meth K C "renamed" c.fRen ∧ fs.lookup ("renamed" : Str) = none ∧ t σ H fun vs H2 => sp (V.ref q1 :: vs) H2 Q E0 := by
  obtain ⟨C, dx, fs, h1, h2, h3, h4⟩ := rd_me Z ha
  exact ⟨q1, C, dx, fs, rfl, h1, h2, h3.ren, h4 _ (by simp [clueMs]), h⟩
theorem c_law_marks_right (Y : TL P K mg base c TT) : Cal P w K mg base "_law_marks_right" 10 ["_law_pen_here", "_law_base"] (spRight c TT) := by
  have Z := Y.Z
  have T := Z.T
  obtain ⟨fN, kNever⟩ := Y.kNevr
  obtain ⟨fE, kEvery⟩ := Y.kEvry
  obtain ⟨fF, kFew⟩ := Y.kFew
  obtain ⟨fR, kRuns⟩ := Y.kRuns
  obtain ⟨fM, T0, u0, cl0, d0, nn0, sl0, kModulo, hT0⟩ := Y.kModu
  have c_Never := c_Never_init (P := P) (w := w) (base := base) Z kNever
  have c_Every := c_Every_init (P := P) (w := w) (base := base) Z kEvery
  have c_Few := c_Few_init (P := P) (w := w) (base := base) Z kFew
  have c_Runs := c_Runs_init (P := P) (w := w) (base := base) Z kRuns
  have c_Modulo := c_Modulo_init (P := P) (w := w) (base := base) Z kModulo hT0
  have c_law_pick := c_law_pick (P := P) (w := w) (base := base) T
  have c_law_draw := c_law_draw (P := P) (w := w) (base := base) T
  have c_law_just := c_law_just (P := P) (w := w) (base := base) Y
  have c_law_marked := c_law_marked (P := P) (w := w) (base := base) Y
  have c_law_all_but := c_law_all_but (P := P) (w := w) (base := base) Y
  have c_Clue_within := c_Clue_within (P := P) (w := w) (base := base) Z
  have c_Clue_and := c_Clue_and (P := P) (w := w) (base := base) Z
  have c_Clue_or := c_Clue_or (P := P) (w := w) (base := base) Z
  have c_Clue_eq := c_Clue_eq (P := P) (w := w) (base := base) Z
  have c_Clue_bool := c_Clue_bool (P := P) (w := w) (base := base) Z
  have c_Clue_invert := c_Clue_invert (P := P) (w := w) (base := base) Z
  refine FunG.cal T.f_law_marks_right sc_law_marks_right (fun _ _ _ _ _ _ us hl => match us, hl with | [_, _], _ => rfl) (fun vs H Q E h => ?_) (fun f cdv A outer s H vs Q E hr h => ?_)
  · obtain ⟨pn, ls, v, n, L, rfl, _⟩ := h
    rfl
  · obtain ⟨pn, ls, v, n, L, rfl, B, hA, hn, kk⟩ := h
--TERM _law_marks_right
    refine ⟨_, (pss_cons (ps_set (i := 2) sc_law_marks_right.nd rfl (Or.inl rfl) (pe_cal c_law_pick (by decide) hr (pa_cons (pv 0) (pa_cons (pe_fldK K (pv 1)) pa_nil))))
  (pss_cons (ps_par (i := 3) (j := 4) rfl sc_law_marks_right.nd rfl rfl (by decide) rfl rfl (pa_cons (pe_cal c_law_draw (by decide) hr (pa_cons (pv 0) (pa_cons pe_int pa_nil))) (pa_cons (pe_op op_add pe_int (pe_cal c_law_draw (by decide) hr (pa_cons (pv 0) (pa_cons pe_int pa_nil)))) pa_nil)) (by rfl))
  (pss_cons (ps_set (i := 5) sc_law_marks_right.nd rfl (Or.inl rfl) (pe_cal c_law_just (by decide) hr (pa_cons (pv 1) (pa_cons (pv 2) (pa_cons (pv 3) pa_nil)))))
  (pss_cons (ps_if (PW.pt (pw_or (pt_not (pt_val (pe_me K c_Clue_within (by decide) hr (pv 5) (pa_cons (pe_mkR kModulo.mak c_Modulo (by decide) hr rfl Y.g_Modulo (pa_cons (pv 1) (pa_cons (pv 2) (pa_cons (pv 4) (pa_cons (pe_op op_mod (pe_callTy call_int1 (by rfl) T.b_int bt_int (pa_cons (pv 3) pa_nil)) (pv 4)) pa_nil))))) pa_nil)))) (pw_or1 (pt_not (pt_val (pe_me K c_Clue_within (by decide) hr (pv 5) (pa_cons (pe_mkR kFew.mak c_Few (by decide) hr rfl Y.g_Few (pa_cons (pv 1) (pa_cons (pv 2) (pa_cons (pv 3) pa_nil)))) pa_nil))))))) (pss_one (ps_ret pe_bl))
  pss_nil)
  (pss_cons (ps_set (i := 6) sc_law_marks_right.nd rfl (Or.inl rfl) (pe_mkR kNever.mak c_Never (by decide) hr rfl Y.g_Never (pa_cons (pv 1) pa_nil)))
  (pss_cons (ps_for PassesOwn.never rfl (pi_range1 rfl T.b_range (pa_cons (pv 4) pa_nil)) (pg_name (i := 7) sc_law_marks_right.nd rfl (Or.inl rfl))
  (pss_cons (ps_set (i := 8) sc_law_marks_right.nd rfl (Or.inl rfl) (pe_mkR kModulo.mak c_Modulo (by decide) hr rfl Y.g_Modulo (pa_cons (pv 1) (pa_cons (pv 2) (pa_cons (pv 4) (pa_cons (pv 7) pa_nil))))))
  (pss_cons (ps_if (pt_val (pe_callTy (call_boolOw c_Clue_bool (hr.mono (by decide))) (by rfl) T.b_bool bt_bool (pa_cons (pe_op (op_own c_Clue_and (hr.mono (by decide)) (by decide)) (pv 6) (pv 8)) pa_nil))) (pss_one (ps_ret pe_bl))
  pss_nil)
  (pss_one (ps_set (i := 6) sc_law_marks_right.nd rfl (Or.inl rfl) (pe_op (op_own c_Clue_or (hr.mono (by decide)) (by decide)) (pv 6) (pv 8)))))))
  (pss_cons (ps_if (PW.pt (pw_or (pt_cmpR (op_ownNe c_Clue_eq (hr.mono (by decide))) (pv 6) (pe_mkR kEvery.mak c_Every (by decide) hr rfl Y.g_Every (pa_cons (pv 1) pa_nil)) (nomark _)) (pw_or1 (pt_cmpR (op_ownNe c_Clue_eq (hr.mono (by decide))) (pe_mkR kRuns.mak c_Runs (by decide) hr rfl Y.g_Runs (pa_cons (pv 1) (pa_cons (pv 2) pa_nil))) (pe_mkR kFew.mak c_Few (by decide) hr rfl Y.g_Few (pa_cons (pv 1) (pa_cons (pv 2) (pa_cons pe_int pa_nil)))) (nomark _))))) (pss_one (ps_ret pe_bl))
  pss_nil)
  (pss_cons (ps_if (pt_cmpR op_ne (pe_cmpR op_gt (pv 3) pe_int (nomark _)) (pe_callTy (call_boolOw c_Clue_bool (hr.mono (by decide))) (by rfl) T.b_bool bt_bool (pa_cons (pe_op (op_own c_Clue_and (hr.mono (by decide)) (by decide)) (pv 5) (pe_cal c_law_marked (by decide) hr (pa_cons (pv 1) (pa_cons (pv 2) pa_nil)))) pa_nil)) (nomark _)) (pss_one (ps_ret pe_bl))
  pss_nil)
  (pss_cons (ps_set (i := 9) sc_law_marks_right.nd rfl (Or.inl rfl) (pe_op op_add pe_int (pe_cal c_law_draw (by decide) hr (pa_cons (pv 0) (pa_cons pe_int pa_nil)))))
  (pss_cons (ps_if (pt_not (pt_val (pe_me K c_Clue_within (by decide) hr (pe_mkR kRuns.mak c_Runs (by decide) hr rfl Y.g_Runs (pa_cons (pv 1) (pa_cons (pv 2) (pa_cons (pv 9) pa_nil)))) (pa_cons (pe_cal c_law_just (by decide) hr (pa_cons (pv 1) (pa_cons (pv 2) (pa_cons (pv 9) pa_nil)))) pa_nil)))) (pss_one (ps_ret pe_bl))
  pss_nil)
  (pss_cons (ps_set (i := 10) sc_law_marks_right.nd rfl (Or.inl rfl) (pe_cal c_law_all_but (by decide) hr (pa_cons (pv 1) (pa_cons (pe_op op_add_str (pv 2) (pv 2)) pa_nil))))
  (pss_cons (ps_if (PW.pt (pw_or (pt_cmpR (op_ownNe c_Clue_eq (hr.mono (by decide))) (pe_mkR kRuns.mak c_Runs (by decide) hr rfl Y.g_Runs (pa_cons (pv 1) (pa_cons (pv 2) (pa_cons pe_int (pa_cons pe_int pa_nil))))) (pe_op (op_own c_Clue_and (hr.mono (by decide)) (by decide)) (pe_cal c_law_just (by decide) hr (pa_cons (pv 1) (pa_cons (pv 2) (pa_cons pe_int pa_nil)))) (pv 10)) (nomark _)) (pw_or1 (pt_cmpR (op_ownNe c_Clue_eq (hr.mono (by decide))) (pe_mkR kRuns.mak c_Runs (by decide) hr rfl Y.g_Runs (pa_cons (pv 1) (pa_cons (pv 2) (pa_cons pe_int pa_nil)))) (pe_cal c_law_just (by decide) hr (pa_cons (pv 1) (pa_cons (pv 2) (pa_cons pe_int pa_nil)))) (nomark _))))) (pss_one (ps_ret pe_bl))
  pss_nil)
  (pss_one (ps_ret (pe_cmpR (op_ownEq c_Clue_eq (hr.mono (by decide))) (pe_mkR kRuns.mak c_Runs (by decide) hr rfl Y.g_Runs (pa_cons (pv 1) (pa_cons (pv 2) (pa_cons pe_int (pa_cons pe_int pa_nil))))) (pe_op (op_own c_Clue_and (hr.mono (by decide)) (by decide)) (pe_op (op_own c_Clue_and (hr.mono (by decide)) (by decide)) (pe_cal c_law_just (by decide) hr (pa_cons (pv 1) (pa_cons (pv 2) (pa_cons pe_int pa_nil)))) (pe_mkR kRuns.mak c_Runs (by decide) hr rfl Y.g_Runs (pa_cons (pv 1) (pa_cons (pv 2) (pa_cons pe_int (pa_cons pe_int pa_nil)))))) (pe_un (un_ownInv c_Clue_invert (hr.mono (by decide))) (pv 10))) (nomark _)))))))))))))))), ?_⟩
--END
    have hL := hA.hi
    have hL1 : 1 ≤ L.length := by have := hA.lo; omega
    -- a mark, two numbers
    refine ⟨_, rfl, _, rfl, rd_letters Z B.val ?_⟩
    refine ⟨pn, ls, n, .str (Sg L), _, rfl, B.pen, by omega, by rw [List.length_map]; omega, by rw [List.length_map]; omega, .inr ⟨L, rfl, rfl⟩, fun m0 H1 hm0 sx1 hp1 => ?_⟩
    obtain ⟨m, hm, rfl⟩ := List.mem_map.mp hm0
    have k1 := B.dq sx1
    have B1 := B.kq k1 hp1
    refine ⟨_, rfl, pn, ls, n + 1, 6, rfl, B1.pen, by omega, by decide, by decide, fun many H2 hmany sx2 hp2 => ?_⟩
    have k2 := k1.trans (B1.dq sx2)
    have B2 := B1.kq (B1.dq sx2) hp2
    refine ⟨_, rfl, pn, ls, n + 2, 6, rfl, B2.pen, by omega, by decide, by decide, fun d2 H3 hd2 sx3 hp3 => ?_⟩
    have k3 := k2.trans (B2.dq sx3)
    have B3 := B2.kq (B2.dq sx3) hp3
    obtain ⟨cyc, ec, hc1, hc2⟩ : ∃ cyc : Nat, 1 + (d2 : Int) = (cyc : Int) ∧ 1 ≤ cyc ∧ cyc ≤ 6 := ⟨1 + d2, by omega, by omega, by omega⟩
    refine ⟨_, _, rfl, rfl, ?_⟩
    dsimp only
    rw [ec]
    refine ⟨_, _, rfl, ?_⟩
    -- just so many
    refine ⟨_, rfl, _, rfl, _, rfl, v, L, m, many, rfl, B3.val, hL, hm, by omega, fun qj H4 s4 J => ?_⟩
    have k4 := k3.trans (Kq.same s4)
    have B4 := B3.same s4
    -- it stands in Modulo by its rest, and in Few
    refine ⟨_, rfl, rd_wit Z J ?_⟩
    refine ⟨_, rfl, _, rfl, _, rfl, _, rfl, .inl ⟨_, rfl, _, rfl, _, _, rfl, rfl, by omega, ?_⟩⟩
    intro x5 dx5 nx5 nd5 _
    show spMod c c.modu [.ref x5, .ref v, .str (Sg [m]), nV cyc, nV (many % cyc)] _ _ _
    refine mk_mod B4.val hL hm hc1 (by omega) (Nat.mod_lt _ hc1) nx5 nd5 fun H5 s5 M => ?_
    refine tNil_ok (rd_within Z (J.same s5) M hL fun b H6 hb s6 => ?_)
    obtain rfl : b = true := hb.mpr fun w hw h => decide_eq_true (by rw [of_decide_eq_true h])
    refine ⟨_, rfl, iteF ?_⟩
    have s46 := sm_trans s5 s6
    have B6 := B4.same s46
    have J6 := J.same s46
    refine ⟨_, rfl, rd_wit Z J6 ?_⟩
    refine ⟨_, rfl, _, rfl, _, rfl, fun x7 dx7 nx7 nd7 _ => mk_few B6.val hL hm (by omega) nx7 nd7 fun H7 s7 FW => tNil_ok (rd_within Z (J6.same s7) FW hL fun b H8 hb s8 => ?_)⟩
    obtain rfl : b = true := hb.mpr fun w hw h => decide_eq_true (by rw [of_decide_eq_true h]; exact Nat.le_refl _)
    refine ⟨_, rfl, iteF ?_⟩
    have s68 := sm_trans s7 s8
    have B8 := B6.same s68
    have J8 := J6.same s68
    -- the rests share all words
    refine ⟨_, rfl, fun x9 dx9 nx9 nd9 _ => mk_const B8.val hL nx9 nd9 fun H9 s9 SH => ?_⟩
    have B9 := B8.same s9
    have J9 := J8.same s9
    have k9 : Kq TT pn H H9 := k4.trans (.same (sm_trans s46 (sm_trans s68 s9)))
    refine ⟨_, rfl, _, rfl, by omega, by omega, ?_⟩
    rw [Int.toNat_natCast]
    refine for_it (walk_range (lo := 0) (n := cyc)) (fun i σ' H' => ∃ (v7 v8 : Option V) (qs : Addr), σ' = [some (.ref pn), some (.ref v), some (.str (Sg [m])), some (nV many), some (nV cyc), some (.ref qj), some (.ref qs), v7, v8, none, none] ∧ Same H9 H' ∧
      ClueL c H' qs v L (fun w => decide (cm L m w % cyc < i))) ⟨none, none, x9, rfl, Same.refl _, SH.congr fun w _ => (decide_eq_false (Nat.not_lt_zero _)).symm⟩ (fun _ _ _ _ _ => True.intro) ?_ ?_
    · rintro i y σ' Ha Ha' hi ⟨v7, v8, qs, rfl, sm, SHi⟩ ⟨rfl, ey⟩
      have ey2 : y = nV i := by rw [ey]; simp
      subst ey2
      refine ⟨_, rfl, _, rfl, _, rfl, _, rfl, fun x dx nx nd _ => mk_mod (B9.same sm).val hL hm hc1 (by omega) hi nx nd fun Hb sb ONE => ?_⟩
      have z1 : ∀ w, LS.Wd L.length w → (decide (cm L m w % cyc < i) && decide (cm L m w % cyc = i)) = false := fun w _ => by
        by_cases a : cm L m w % cyc = i
        · rw [decide_eq_false (by omega), Bool.false_and]
        · rw [decide_eq_false a, Bool.and_false]
      have z2 : ∀ w, LS.Wd L.length w → (decide (cm L m w % cyc < i) || decide (cm L m w % cyc = i)) = decide (cm L m w % cyc < i + 1) := fun w _ => by
        by_cases a : cm L m w % cyc = i
        · rw [decide_eq_true a, Bool.or_true, decide_eq_true (by omega)]
        · rw [decide_eq_false a, Bool.or_false]
          exact decide_eq_decide.mpr (by omega)
      have hcc : cyc * cyc ≤ 1000 := Nat.le_trans (Nat.mul_le_mul hc2 hc2) (by decide)
      refine ⟨_, rfl, _, rfl, rd_op2 (r := .and) Z (fun C hC => (Z.cc C hC).and) (by decide) (SHi.same sb) ONE hL (sm_modlt L m hc1 i) (sm_mod L m hc1 i) hcc (((sm_const L.length false).le (by decide)).congr fun w hw => (z1 w hw).symm) fun qa Hc sc AN => tNil_ok (rd_bool Z AN fun b Hd hb sd => ?_)⟩
      obtain rfl : b = false := by
        cases b with
        | false => rfl
        | true =>
          obtain ⟨w, hw, h⟩ := hb.mp rfl
          have h : (decide (cm L m w % cyc < i) && decide (cm L m w % cyc = i)) = true := h
          rw [z1 w hw] at h
          cases h
      refine ⟨_, rfl, iteF ?_⟩
      have sbd := sm_trans sc sd
      refine ⟨_, rfl, _, rfl, rd_op2 (r := .or) Z (fun C hC => (Z.cc C hC).or) (by decide) (SHi.same (sm_trans sb sbd)) (ONE.same sbd) hL (sm_modlt L m hc1 i) (sm_mod L m hc1 i) hcc (((sm_modlt L m hc1 (i + 1)).le (by omega)).congr fun w hw => (z2 w hw).symm) fun qo He se OR => ?_⟩
      exact ⟨_, _, qo, rfl, sm_trans sm (sm_trans sb (sm_trans sbd se)), OR.congr z2⟩
    rintro σ' H10 ⟨v7, v8, qs, rfl, sm9, SHc⟩
    have B10 := B9.same sm9
    have J10 := J9.same sm9
    have k10 := k9.trans (.same sm9)
    refine ⟨_, rfl, _, rfl, fun x dx nx nd _ => mk_const B10.val hL nx nd fun Ha sa EV => rd_ne Z (SHc.same sa) EV fun b H11 hb sb => ?_⟩
    obtain rfl : b = true := hb.mpr fun w hw => decide_eq_true (Nat.mod_lt _ hc1)
    refine ⟨_, rfl, iteF ?_⟩
    have s11 := sm_trans sa sb
    have B11 := B10.same s11
    have J11 := J10.same s11
    have k11 := k10.trans (.same s11)
    refine ⟨_, rfl, _, rfl, fun x dx nx nd _ => mk_runsV (ls := []) rfl B11.val hL hm (by decide) (fun r hr => nomatch hr) (by decide) B11.tab nx nd fun H12 k12 RU => ?_⟩
    have B12 := B11.kp k12
    refine ⟨_, rfl, _, rfl, fun x dx nx nd _ => mk_few (n := 0) B12.val hL hm (by decide) nx nd fun Ha sa FE => rd_ne Z (RU.same sa) FE fun b H13 hb sb => ?_⟩
    obtain rfl : b = true := hb.mpr fun w hw => runs_none L m w
    refine ⟨_, rfl, iteF ?_⟩
    have s13 := sm_trans sa sb
    have B13 := B12.same s13
    have J13 := (J11.kp k12).same s13
    have k13 := k11.trans ((Kq.of k12).trans (.same s13))
    -- some marks
    refine ⟨_, rfl, _, _, rfl, rfl, _, rfl, _, rfl, _, rfl, v, L, m, rfl, B13.val, hL, hm, fun qm Ha sa MK => ?_⟩
    refine rd_op2 (r := .and) Z (fun C hC => (Z.cc C hC).and) (by decide) (J13.same sa) MK hL (sm_just L m many) (sm_few L m 0).not (Nat.le_trans (Nat.mul_le_mul (show many + 2 ≤ 7 by omega) (Nat.le_refl 2)) (by decide)) (((sm_just L m many).op _ (sm_few L m 0).not).le (Nat.le_trans (Nat.mul_le_mul (show many + 2 ≤ 7 by omega) (Nat.le_refl 2)) (by decide))) fun qa Hb sb AN => tNil_ok (rd_bool Z AN fun b H14 hb sc => ?_)
    obtain rfl : b = decide ((0 : Int) < (many : Int)) := by
      have hb2 : b = true ↔ 0 < many := by
        rw [hb]
        constructor
        · rintro ⟨w, hw, h⟩
          have h : (decide (cm L m w = many) && !decide (cm L m w ≤ 0)) = true := h
          obtain ⟨h1, h2⟩ := Bool.and_eq_true_iff.mp h
          have e1 := of_decide_eq_true h1
          by_cases e2 : cm L m w ≤ 0
          · rw [decide_eq_true e2] at h2; cases h2
          · omega
        · intro h
          obtain ⟨w, hw, e⟩ := cm_some hm many
          refine ⟨w, hw, ?_⟩
          show (decide (cm L m w = many) && !decide (cm L m w ≤ 0)) = true
          rw [decide_eq_true e, decide_eq_false (by omega)] <;> rfl
      by_cases h : 0 < many
      · rw [decide_eq_true (show (0 : Int) < (many : Int) by omega)]
        exact hb2.mpr h
      · rw [decide_eq_false (show ¬ (0 : Int) < (many : Int) by omega)]
        cases b with
        | false => rfl
        | true => exact absurd (hb2.mp rfl) h
    refine ⟨rfl, _, rfl, ?_⟩
    rw [decide_eq_true rfl]
    refine iteF ?_
    have s14 := sm_trans sa (sm_trans sb sc)
    have B14 := B13.same s14
    have k14 := k13.trans (.same s14)
    -- one run
    refine ⟨_, rfl, pn, ls, n + 3, 4, rfl, B14.pen, by omega, by decide, by decide, fun dl H15 hdl sx15 hp15 => ⟨_, _, rfl, rfl, ?_⟩⟩
    have k15 := k14.trans (B14.dq sx15)
    have B15 := B14.kq (B14.dq sx15) hp15
    obtain ⟨long, el, hl1, hl2⟩ : ∃ long : Nat, 1 + (dl : Int) = (long : Int) ∧ 1 ≤ long ∧ long ≤ 4 := ⟨1 + dl, by omega, by omega, by omega⟩
    dsimp only
    rw [el]
    refine ⟨_, rfl, _, rfl, _, rfl, fun x dx nx nd _ => mk_runsV (ls := [long]) rfl B15.val hL hm (Nat.le_of_ble_eq_true rfl) (fun r hr => by rw [List.mem_singleton] at hr; omega) (by simp; omega) B15.tab nx nd fun H16 k16 RU2 => ?_⟩
    have B16 := B15.kp k16
    refine rd_wit Z RU2 ?_
    refine ⟨_, rfl, _, rfl, _, rfl, v, L, m, long, rfl, B16.val, hL, hm, by omega, fun q2 Ha sa JJ => tNil_ok (rd_within Z (RU2.same sa) JJ hL fun b H17 hb sb => ?_)⟩
    obtain rfl : b = true := hb.mpr fun w hw h => decide_eq_true (runs_just hl1 h)
    refine ⟨_, rfl, iteF ?_⟩
    have s17 := sm_trans sa sb
    have B17 := B16.same s17
    have k17 := k15.trans ((Kq.of k16).trans (.same s17))
    -- marks apart
    refine ⟨_, rfl, _, rfl, _, rfl, Sg [m], Sg [m], rfl, rfl, by rw [S_length]; show 2 ≤ sizeLine; decide, v, L, m, rfl, B17.val, hA, hm, B17.tab, fun qa H18 k18 AP => ?_⟩
    have B18 := B17.kp k18
    have smA : Small L.length 6 (fun w => !LS.tt (bm L m w)) := ((sm_nbr L (prs L m L)).le (by omega)).congr fun w hw => nbr_apart (fun a ha b hb => by
      rw [mem_prs]
      constructor
      · rintro ⟨a', _, b', _, e, h⟩
        have e1 := (List.cons.inj e).1
        have e2 := (List.cons.inj (List.cons.inj e).2).1
        subst e1 e2
        exact h
      · exact fun h => ⟨a, ha, b, hb, rfl, h⟩) hw
    have k18' := k17.trans (Kq.of k18)
    refine ⟨_, rfl, _, rfl, fun x dx nx nd _ => mk_runsV (ls := [1, 1]) rfl B18.val hL hm (by decide) (by decide) (by decide) B18.tab nx nd fun H19 k19 RA => ?_⟩
    have B19 := B18.kp k19
    have AP19 := AP.kp k19
    have y1 : ∀ w, LS.Wd L.length w → (decide (cm L m w = 2) && !LS.tt (bm L m w)) = LS.rG [1, 1] (bm L m w) := fun w _ => (runs_apart L m w).symm
    refine ⟨_, rfl, _, rfl, v, L, m, 2, rfl, B19.val, hL, hm, by decide, fun q3 Ha sa J2 => ?_⟩
    refine ⟨_, rfl, rd_op2 (r := .and) Z (fun C hC => (Z.cc C hC).and) (by decide) J2 (AP19.same sa) hL (sm_just L m 2) smA (by decide) (((sm_runs L m (ls := [1, 1]) (by decide)).le (by decide)).congr fun w hw => (y1 w hw).symm) fun q4 Hb sb AN => rd_ne Z (RA.same (sm_trans sa sb)) AN fun b H20 hb sc => ?_⟩
    obtain rfl : b = true := hb.mpr fun w hw => (y1 w hw).symm
    refine ⟨_, rfl, iteF ?_⟩
    have s20 := sm_trans sa (sm_trans sb sc)
    have B20 := B19.same s20
    have AP20 := AP19.same s20
    have k20 := k18'.trans ((Kq.of k19).trans (.same s20))
    refine ⟨_, rfl, _, rfl, fun x dx nx nd _ => mk_runsV (ls := [1]) rfl B20.val hL hm (by decide) (by decide) (by decide) B20.tab nx nd fun H21 k21 RB => ?_⟩
    have B21 := B20.kp k21
    refine ⟨_, rfl, _, rfl, v, L, m, 1, rfl, B21.val, hL, hm, by decide, fun q5 Ha sa J1 => rd_ne Z (RB.same sa) J1 fun b H22 hb sb => ?_⟩
    obtain rfl : b = true := hb.mpr fun w hw => runs_one L m w
    refine ⟨_, rfl, iteF ?_⟩
    have s22 := sm_trans sa sb
    have B22 := B21.same s22
    have AP22 := (AP20.kp k21).same s22
    have k22 := k20.trans ((Kq.of k21).trans (.same s22))
    -- a run of two, a run of one
    refine ⟨_, rfl, _, rfl, fun x dx nx nd _ => mk_runsV (ls := [2, 1]) rfl B22.val hL hm (by decide) (by decide) (by decide) B22.tab nx nd fun H23 k23 RC => ?_⟩
    have B23 := B22.kp k23
    refine ⟨_, rfl, _, rfl, v, L, m, 3, rfl, B23.val, hL, hm, by decide, fun q6 H24 s24 J3 => ?_⟩
    have B24 := B23.same s24
    refine ⟨_, rfl, _, rfl, fun x dx nx nd _ => mk_runsV (ls := [2, 1]) rfl B24.val hL hm (by decide) (by decide) (by decide) B24.tab nx nd fun H25 k25 RD => ?_⟩
    have y2 : ∀ w, LS.Wd L.length w → (decide (cm L m w = 3) && LS.rG [2, 1] (bm L m w)) = LS.rG [2, 1] (bm L m w) := fun w _ => by
      cases h : LS.rG [2, 1] (bm L m w) with
      | false => rw [Bool.and_false]
      | true => rw [decide_eq_true (runs_21 h).1] <;> rfl
    have y3 : ∀ w, LS.Wd L.length w → (LS.rG [2, 1] (bm L m w) && !!LS.tt (bm L m w)) = LS.rG [2, 1] (bm L m w) := fun w _ => by
      cases h : LS.rG [2, 1] (bm L m w) with
      | false => rfl
      | true => rw [(runs_21 h).2] <;> rfl
    have sm21 : Small L.length 7 (fun w => LS.rG [2, 1] (bm L m w)) := sm_runs L m (ls := [2, 1]) (by decide)
    refine rd_op2 (r := .and) Z (fun C hC => (Z.cc C hC).and) (by decide) (J3.kp k25) RD hL (sm_just L m 3) sm21 (by decide) ((sm21.le (by decide)).congr fun w hw => (y2 w hw).symm) fun q7 H26 s26 AN => ?_
    have AN' := AN.congr y2
    refine ⟨_, rfl, rd_inv Z ((((AP22.kp k23).same s24).kp k25).same s26) hL fun q8 H27 s27 NA => ?_⟩
    refine rd_op2 (r := .and) Z (fun C hC => (Z.cc C hC).and) (by decide) (AN'.same s27) NA hL sm21 smA.not (by decide) ((sm21.le (by decide)).congr fun w hw => (y3 w hw).symm) fun q9 H28 s28 AM => ?_
    refine rd_eq Z ((((RC.same s24).kp k25).same s26).same (sm_trans s27 s28)) (AM.congr y3) fun b H29 hb s29 => ?_
    obtain rfl : b = true := hb.mpr fun w hw => rfl
    have kE := k22.trans ((Kq.of k23).trans ((Kq.same s24).trans ((Kq.of k25).trans (.same (sm_trans s26 (sm_trans s27 (sm_trans s28 s29)))))))
    exact kk H29 kE (((B24.kp k25).same (sm_trans s26 (sm_trans s27 (sm_trans s28 s29)))).pen.mono (by omega))
end
end LW
end
section
set_option Elab.async false
set_option linter.all false
set_option maxRecDepth 100000
set_option maxHeartbeats 2000000
/-! Ends and Listed by their parts -/
namespace LW
open PySem PySem.Spec PyProof.Rows L2 LamX
abbrev st_law_parts_right : Stmt := top 69
theorem sc_law_parts_right : FnScope ["_law_pen_here", "_law_base", "_law_letters_here", "_law_head", "_law_tail", "_law_one", "_law_other"] ["_law_pen_here", "_law_base"] (defScope st_law_parts_right) := ⟨rfl, rfl, rfl, by decide +kernel, rfl, by decide +kernel, by decide +kernel⟩
theorem cut_one (l : List Nat) : cutS (Sg l) (some 1) none = Sg l.tail := by
  have e0 : (Sg l).length = l.length := S_length l
  have e1 : (Sg l).cps.toList = l := by simp [SX.S]
  unfold cutS
  rw [e1, e0]
  cases l with
  | nil => rfl
  | cons a r =>
    have e2 : HT.sIx (a :: r).length 0 (some 1) = 1 := (HT.sIx_nat (a :: r).length 0 1).trans (Nat.min_eq_left (by rw [List.length_cons]; omega))
    have e3 : HT.sIx (a :: r).length (a :: r).length none = (a :: r).length := rfl
    rw [e2, e3]
    show Sg (r.take (r.length + 1 - 1)) = Sg r
    rw [Nat.add_sub_cancel, List.take_length]
theorem atI_last {l : List Nat} (h : l ≠ []) : atI l (-1) = some (l.getLast h) := by
  have hl : 1 ≤ l.length := List.length_pos_iff.mpr h
  have e : ixN l.length (-1) = some (l.length - 1) := by
    unfold ixN
    rw [if_neg (by decide), if_pos (by omega)]
    congr 1
    omega
  unfold atI
  rw [e]
  show l[l.length - 1]? = _
  rw [List.getLast_eq_getElem, List.getElem?_eq_getElem (by omega)]
theorem empty_S : Str.ofString "" = Sg [] := by decide +kernel
/-- letters that may be a cell -/
structure CellL (L a : List Nat) : Prop where
  len : a.length ≤ 4
  nd : a.Nodup
  sub : ∀ y ∈ a, y ∈ L
section
variable {P : Program} {w : World} {K : PySem.W.Frag} {mg : Str → Option Value} {base : Heap} {c : Cs} {TT : List (Addr × Str)}
theorem c_law_parts_right (Y : TL P K mg base c TT) : Cal P w K mg base "_law_parts_right" 10 ["_law_pen_here", "_law_base"] (spRight c TT) := by
  have Z := Y.Z
  have T := Z.T
  obtain ⟨fN, kNever⟩ := Y.kNevr
  obtain ⟨fE, kEnds⟩ := Y.kEnds
  obtain ⟨fL, kListed⟩ := Y.kList
  have c_Never := c_Never_init (P := P) (w := w) (base := base) Z kNever
  have c_Ends := c_Ends_init (P := P) (w := w) (base := base) Z kEnds
  have c_Listed := c_Listed_init (P := P) (w := w) (base := base) Z kListed
  have c_law_pick := c_law_pick (P := P) (w := w) (base := base) T
  have c_law_draw := c_law_draw (P := P) (w := w) (base := base) T
  have c_law_text := c_law_text (P := P) (w := w) (base := base) T
  have c_Clue_and := c_Clue_and (P := P) (w := w) (base := base) Z
  have c_Clue_or := c_Clue_or (P := P) (w := w) (base := base) Z
  have c_Clue_eq := c_Clue_eq (P := P) (w := w) (base := base) Z
  have c_Clue_invert := c_Clue_invert (P := P) (w := w) (base := base) Z
  refine FunG.cal T.f_law_parts_right sc_law_parts_right (fun _ _ _ _ _ _ us hl => match us, hl with | [_, _], _ => rfl) (fun vs H Q E h => ?_) (fun f cdv A outer s H vs Q E hr h => ?_)
  · obtain ⟨pn, ls, v, n, L, rfl, _⟩ := h
    rfl
  · obtain ⟨pn, ls, v, n, L, rfl, B, hA, hn, kk⟩ := h
--TERM _law_parts_right
    refine ⟨_, (pss_cons (ps_set (i := 2) sc_law_parts_right.nd rfl (Or.inl rfl) (pe_fldK K (pv 1)))
  (pss_cons (ps_par (i := 3) (j := 4) rfl sc_law_parts_right.nd rfl rfl (by decide) rfl rfl (pa_cons (pe_cal c_law_pick (by decide) hr (pa_cons (pv 0) (pa_cons (pe_lst (pa_cons (pv 2) (pa_cons (pe_ix (ix_seqK K) (pv 2) pe_int (fun _ _ => rfl)) (pa_cons (pe_slice sl_str (pv 2) (po_some pe_int) po_none) pa_nil)))) pa_nil))) (pa_cons (pe_cal c_law_pick (by decide) hr (pa_cons (pv 0) (pa_cons (pe_lst (pa_cons pe_str (pa_cons (pe_ix (ix_seqK K) (pv 2) (pe_un un_neg pe_int) (fun _ _ => rfl)) (pa_cons (pv 2) pa_nil)))) pa_nil))) pa_nil)) (by rfl))
  (pss_cons (ps_par (i := 5) (j := 6) rfl sc_law_parts_right.nd rfl rfl (by decide) rfl rfl (pa_cons (pe_cal c_law_text (by decide) hr (pa_cons (pv 0) (pa_cons (pv 2) (pa_cons (pe_cal c_law_draw (by decide) hr (pa_cons (pv 0) (pa_cons pe_int pa_nil))) pa_nil)))) (pa_cons (pe_cal c_law_text (by decide) hr (pa_cons (pv 0) (pa_cons (pv 2) (pa_cons (pe_cal c_law_draw (by decide) hr (pa_cons (pv 0) (pa_cons pe_int pa_nil))) pa_nil)))) pa_nil)) (by rfl))
  (pss_cons (ps_if (pt_cmpR (op_ownNe c_Clue_eq (hr.mono (by decide))) (pe_mkR kEnds.mak c_Ends (by decide) hr rfl Y.g_Ends (pa_cons (pv 1) (pa_cons (pv 3) (pa_cons (pv 4) pa_nil)))) (pe_op (op_own c_Clue_and (hr.mono (by decide)) (by decide)) (pe_mkR kEnds.mak c_Ends (by decide) hr rfl Y.g_Ends (pa_cons (pv 1) (pa_cons (pv 3) (pa_cons (pv 2) pa_nil)))) (pe_mkR kEnds.mak c_Ends (by decide) hr rfl Y.g_Ends (pa_cons (pv 1) (pa_cons (pv 2) (pa_cons (pv 4) pa_nil))))) (nomark _)) (pss_one (ps_ret pe_bl))
  pss_nil)
  (pss_cons (ps_if (pt_cmpR (op_ownNe c_Clue_eq (hr.mono (by decide))) (pe_mkR kEnds.mak c_Ends (by decide) hr rfl Y.g_Ends (pa_cons (pv 1) (pa_cons (pv 2) (pa_cons (pv 2) pa_nil)))) (pe_un (un_ownInv c_Clue_invert (hr.mono (by decide))) (pe_mkR kListed.mak c_Listed (by decide) hr rfl Y.g_Listed (pa_cons (pv 1) (pa_cons pe_str pa_nil)))) (nomark _)) (pss_one (ps_ret pe_bl))
  pss_nil)
  (pss_cons (ps_if (pt_cmpR (op_ownNe c_Clue_eq (hr.mono (by decide))) (pe_mkR kListed.mak c_Listed (by decide) hr rfl Y.g_Listed (pa_cons (pv 1) (pa_cons (pv 5) (pa_cons (pv 6) pa_nil)))) (pe_op (op_own c_Clue_or (hr.mono (by decide)) (by decide)) (pe_mkR kListed.mak c_Listed (by decide) hr rfl Y.g_Listed (pa_cons (pv 1) (pa_cons (pv 5) pa_nil))) (pe_mkR kListed.mak c_Listed (by decide) hr rfl Y.g_Listed (pa_cons (pv 1) (pa_cons (pv 6) pa_nil)))) (nomark _)) (pss_one (ps_ret pe_bl))
  pss_nil)
  (pss_cons (ps_if (PW.pt (pw_or (pt_cmpR (op_ownNe c_Clue_eq (hr.mono (by decide))) (pe_mkR kListed.mak c_Listed (by decide) hr rfl Y.g_Listed (pa_cons (pv 1) (pa_cons (pv 5) (pa_cons (pv 6) pa_nil)))) (pe_mkR kListed.mak c_Listed (by decide) hr rfl Y.g_Listed (pa_cons (pv 1) (pa_cons (pv 6) (pa_cons (pv 5) (pa_cons (pv 5) pa_nil))))) (nomark _)) (pw_or1 (pt_cmpR (op_ownNe c_Clue_eq (hr.mono (by decide))) (pe_mkR kListed.mak c_Listed (by decide) hr rfl Y.g_Listed (pa_cons (pv 1) pa_nil)) (pe_mkR kNever.mak c_Never (by decide) hr rfl Y.g_Never (pa_cons (pv 1) pa_nil)) (nomark _))))) (pss_one (ps_ret pe_bl))
  pss_nil)
  (pss_one (ps_ret (pe_cmpR op_eq (pe_cmpR (op_ownEq c_Clue_eq (hr.mono (by decide))) (pe_op (op_own c_Clue_and (hr.mono (by decide)) (by decide)) (pe_mkR kListed.mak c_Listed (by decide) hr rfl Y.g_Listed (pa_cons (pv 1) (pa_cons (pv 5) pa_nil))) (pe_mkR kListed.mak c_Listed (by decide) hr rfl Y.g_Listed (pa_cons (pv 1) (pa_cons (pv 6) pa_nil)))) (pe_mkR kListed.mak c_Listed (by decide) hr rfl Y.g_Listed (pa_cons (pv 1) pa_nil)) (nomark _)) (pe_cmpR op_ne (pv 5) (pv 6) (nomark _)) (nomark _))))))))))), ?_⟩
--END
    have hL := hA.hi
    have hL1 : 1 ≤ L.length := by have := hA.lo; omega
    have hLn : L ≠ [] := fun z => by rw [z] at hL1; cases hL1
    have lz : (Sg L).length ≤ sizeLine := by rw [S_length]; exact Nat.le_of_lt (small5 (by omega))
    have hl0 : (Sg L).cps.toList = L := by simp [SX.S]
    refine ⟨_, rfl, rd_letters Z B.val ?_⟩
    -- two cells
    refine ⟨_, rfl, _, rfl, _, rfl, .inr (.inr ⟨Sg L, 0, L[0], rfl, rfl, lz, by rw [hl0]; exact atI_nat (j := 0) (List.getElem?_eq_getElem (by omega)), _, rfl, 1, rfl, Sg L, rfl, lz, ?_⟩)⟩
    rw [cut_one]
    refine ⟨by show 3 ≤ sizeLine; decide, fun p1 n1 => ?_⟩
    have s1 : Same H (upd H p1 (.lst [V.str (Sg L), V.str (Sg [L[0]]), V.str (Sg L.tail)])) := same_new n1
    have B1 := B.same s1
    refine ⟨pn, ls, n, .ref p1, _, rfl, B1.pen, by omega, by show 1 ≤ 3; decide, by show 3 ≤ 1000; decide, .inl ⟨p1, rfl, upd_same, (B.pen.ne n1).1⟩, fun v1 H2 hv1 sx2 hp2 => ?_⟩
    obtain ⟨a, rfl, ca⟩ : ∃ a, v1 = .str (Sg a) ∧ CellL L a := by
      simp only [List.mem_cons, List.not_mem_nil, or_false] at hv1
      rcases hv1 with rfl | rfl | rfl
      · exact ⟨L, rfl, hL, hA.nd, fun y hy => hy⟩
      · exact ⟨[L[0]], rfl, by simp, by simp, fun y hy => by rw [List.mem_singleton.mp hy]; exact List.getElem_mem _⟩
      · exact ⟨L.tail, rfl, by rw [List.length_tail]; omega, hA.nd.sublist (List.tail_sublist L), fun y hy => List.mem_of_mem_tail hy⟩
    have B2 := B1.kq (B1.dq sx2) hp2
    have k2 : Kq TT pn H H2 := (Kq.same s1).trans (B1.dq sx2)
    refine ⟨_, rfl, _, rfl, 1, rfl, .inr (.inr ⟨Sg L, -1, L.getLast hLn, rfl, rfl, lz, by rw [hl0]; exact atI_last hLn, _, rfl, by show 3 ≤ sizeLine; decide, fun p3 n3 => ?_⟩)⟩
    have s3 : Same H2 (upd H2 p3 (.lst [V.str (Str.ofString ""), V.str (Sg [L.getLast hLn]), V.str (Sg L)])) := same_new n3
    have B3 := B2.same s3
    refine ⟨pn, ls, n + 1, .ref p3, _, rfl, B3.pen, by omega, by show 1 ≤ 3; decide, by show 3 ≤ 1000; decide, .inl ⟨p3, rfl, upd_same, (B2.pen.ne n3).1⟩, fun v2 H4 hv2 sx4 hp4 => ?_⟩
    obtain ⟨b, rfl, cb⟩ : ∃ b, v2 = .str (Sg b) ∧ CellL L b := by
      simp only [List.mem_cons, List.not_mem_nil, or_false] at hv2
      rcases hv2 with rfl | rfl | rfl
      · exact ⟨[], by rw [empty_S], by simp, by simp, fun y hy => nomatch hy⟩
      · exact ⟨[L.getLast hLn], rfl, by simp, by simp, fun y hy => by rw [List.mem_singleton.mp hy]; exact List.getLast_mem hLn⟩
      · exact ⟨L, rfl, hL, hA.nd, fun y hy => hy⟩
    have B4 := B3.kq (B3.dq sx4) hp4
    have k4 : Kq TT pn H H4 := k2.trans ((Kq.same s3).trans (B3.dq sx4))
    refine ⟨_, _, rfl, ?_⟩
    -- two words
    refine ⟨_, rfl, _, rfl, _, rfl, pn, ls, n + 2, 5, rfl, B4.pen, by omega, by decide, by decide, fun d1 H5 hd1 sx5 hp5 => ?_⟩
    have B5 := B4.kq (B4.dq sx5) hp5
    refine ⟨pn, ls, n + 3, d1, L, rfl, B5.pen, by omega, by omega, hL1, hL, fun u1 H6 l1 m1 sx6 hp6 => ?_⟩
    have B6 := B5.kq (B5.dq sx6) (hp6.mono (show n + 3 + d1 ≤ n + 8 by omega))
    have k6 : Kq TT pn H H6 := k4.trans ((B4.dq sx5).trans (B5.dq sx6))
    refine ⟨_, rfl, _, rfl, _, rfl, pn, ls, n + 8, 5, rfl, B6.pen, by omega, by decide, by decide, fun d2 H7 hd2 sx7 hp7 => ?_⟩
    have B7 := B6.kq (B6.dq sx7) hp7
    refine ⟨pn, ls, n + 9, d2, L, rfl, B7.pen, by omega, by omega, hL1, hL, fun u2 H8 l2 m2 sx8 hp8 => ?_⟩
    have B8 := B7.kq (B7.dq sx8) (hp8.mono (show n + 9 + d2 ≤ n + 20 by omega))
    have k8 : Kq TT pn H H8 := k6.trans ((B6.dq sx7).trans (B7.dq sx8))
    refine ⟨_, _, rfl, ?_⟩
    have cL : CellL L L := ⟨hL, hA.nd, fun y hy => hy⟩
    -- ends
    refine ⟨_, rfl, _, rfl, _, rfl, fun x dx nx nd _ => mk_ends B8.val hL hA.nd ca.len ca.nd ca.sub cb.len cb.nd cb.sub nx nd fun Ha sa E1 => ?_⟩
    have Ba := B8.same sa
    refine ⟨_, rfl, _, rfl, _, rfl, fun x dx nx nd _ => mk_ends Ba.val hL hA.nd ca.len ca.nd ca.sub cL.len cL.nd cL.sub nx nd fun Hb sb E2 => ?_⟩
    have Bb := Ba.same sb
    refine ⟨_, rfl, _, rfl, _, rfl, fun x dx nx nd _ => mk_ends Bb.val hL hA.nd cL.len cL.nd cL.sub cb.len cb.nd cb.sub nx nd fun Hc sc E3 => ?_⟩
    refine rd_op2 (r := .and) Z (fun C hC => (Z.cc C hC).and) (by decide) (E2.same sc) E3 hL (sm_ends L a L) (sm_ends L L b) (by decide) (((sm_ends L a b).le (by decide)).congr fun w hw => (ends_two a b hw).symm) fun q1 Hd sd AN => rd_ne Z (((E1.same sb).same sc).same sd) AN fun r1 H9 hr1 se => ?_
    obtain rfl : r1 = true := hr1.mpr fun w hw => (ends_two a b hw).symm
    refine ⟨_, rfl, iteF ?_⟩
    have s9 := sm_trans sa (sm_trans sb (sm_trans sc (sm_trans sd se)))
    have B9 := B8.same s9
    have k9 := k8.trans (.same s9)
    refine ⟨_, rfl, _, rfl, _, rfl, fun x dx nx nd _ => mk_ends B9.val hL hA.nd cL.len cL.nd cL.sub cL.len cL.nd cL.sub nx nd fun Ha sa E1 => ?_⟩
    have Ba := B9.same sa
    refine ⟨_, rfl, fun x dx nx nd _ => mk_listV (ws := [[]]) (by rw [empty_S] <;> rfl) Ba.val hL (by decide) (fun z hz => by rw [List.mem_singleton] at hz; subst hz; exact ⟨by decide, fun y hy => nomatch hy⟩) (by decide) Ba.tab nx nd fun Hb kb LI => ?_⟩
    refine rd_inv Z LI hL fun q2 Hc sc NL => rd_ne Z ((E1.kp kb).same sc) NL fun r2 H10 hr2 sd => ?_
    obtain rfl : r2 = true := hr2.mpr fun w hw => ends_any hw
    refine ⟨_, rfl, iteF ?_⟩
    have B10 := (Ba.kp kb).same (sm_trans sc sd)
    have k10 : Kq TT pn H H10 := k9.trans ((Kq.same sa).trans ((Kq.of kb).trans (.same (sm_trans sc sd))))
    -- listed words
    have g1 : ∀ z ∈ [u1], z.length ≤ 30 ∧ ∀ y ∈ z, y ∈ L := fun z hz => by rw [List.mem_singleton] at hz; subst hz; exact ⟨by omega, m1⟩
    have g2 : ∀ z ∈ [u2], z.length ≤ 30 ∧ ∀ y ∈ z, y ∈ L := fun z hz => by rw [List.mem_singleton] at hz; subst hz; exact ⟨by omega, m2⟩
    have g12 : ∀ z ∈ [u1, u2], z.length ≤ 30 ∧ ∀ y ∈ z, y ∈ L := fun z hz => by
      rcases List.mem_cons.mp hz with rfl | hz
      · exact ⟨by omega, m1⟩
      · exact g2 z hz
    have g211 : ∀ z ∈ [u2, u1, u1], z.length ≤ 30 ∧ ∀ y ∈ z, y ∈ L := fun z hz => by
      simp only [List.mem_cons, List.not_mem_nil, or_false] at hz
      rcases hz with rfl | rfl | rfl
      · exact ⟨by omega, m2⟩
      · exact ⟨by omega, m1⟩
      · exact ⟨by omega, m1⟩
    have b1 : ([u1].map List.length).sum + 2 ≤ 6 := by simp; omega
    have b2 : ([u2].map List.length).sum + 2 ≤ 6 := by simp; omega
    have b12 : ([u1, u2].map List.length).sum + 2 ≤ 10 := by simp; omega
    have b211 : ([u2, u1, u1].map List.length).sum + 2 ≤ 14 := by simp; omega
    refine ⟨_, rfl, _, rfl, _, rfl, fun x dx nx nd _ => mk_listV (ws := [u1, u2]) rfl B10.val hL (Nat.le_of_ble_eq_true rfl) g12 (by omega) B10.tab nx nd fun Ha ka LA => ?_⟩
    have Ba := B10.kp ka
    refine ⟨_, rfl, _, rfl, fun x dx nx nd _ => mk_listV (ws := [u1]) rfl Ba.val hL (Nat.le_of_ble_eq_true rfl) g1 (by omega) Ba.tab nx nd fun Hb kb LB => ?_⟩
    have Bb := Ba.kp kb
    refine ⟨_, rfl, _, rfl, fun x dx nx nd _ => mk_listV (ws := [u2]) rfl Bb.val hL (Nat.le_of_ble_eq_true rfl) g2 (by omega) Bb.tab nx nd fun Hc kc LC => ?_⟩
    refine rd_op2 (r := .or) Z (fun C hC => (Z.cc C hC).or) (by decide) (LB.kp kc) LC hL ((sm_list L [u1]).le b1) ((sm_list L [u2]).le b2) (by decide) (((sm_list L [u1, u2]).le (by omega)).congr fun w hw => (list_or L u1 u2 w).symm) fun q3 Hd sd OR => rd_ne Z (((LA.kp kb).kp kc).same sd) OR fun r3 H11 hr3 se => ?_
    obtain rfl : r3 = true := hr3.mpr fun w hw => (list_or L u1 u2 w).symm
    refine ⟨_, rfl, iteF ?_⟩
    have B11 := (Bb.kp kc).same (sm_trans sd se)
    have k11 : Kq TT pn H H11 := k10.trans ((Kq.of ka).trans ((Kq.of kb).trans ((Kq.of kc).trans (.same (sm_trans sd se)))))
    refine ⟨_, rfl, _, rfl, _, rfl, fun x dx nx nd _ => mk_listV (ws := [u1, u2]) rfl B11.val hL (Nat.le_of_ble_eq_true rfl) g12 (by omega) B11.tab nx nd fun Ha ka LA => ?_⟩
    have Ba := B11.kp ka
    refine ⟨_, rfl, _, rfl, _, rfl, _, rfl, fun x dx nx nd _ => mk_listV (ws := [u2, u1, u1]) rfl Ba.val hL (Nat.le_of_ble_eq_true rfl) g211 (by omega) Ba.tab nx nd fun Hb kb LB => rd_ne Z (LA.kp kb) LB fun r4 H12 hr4 sc => ?_⟩
    obtain rfl : r4 = true := hr4.mpr fun w hw => (list_again L u1 u2 w).symm
    refine ⟨_, rfl, iteF ?_⟩
    have B12 := (Ba.kp kb).same sc
    have k12 : Kq TT pn H H12 := k11.trans ((Kq.of ka).trans ((Kq.of kb).trans (.same sc)))
    refine ⟨_, rfl, fun x dx nx nd _ => mk_listV (ws := []) rfl B12.val hL (by decide) (fun z hz => nomatch hz) (by decide) B12.tab nx nd fun Ha ka LN => ?_⟩
    have Ba := B12.kp ka
    refine ⟨_, rfl, fun x dx nx nd _ => mk_const Ba.val hL nx nd fun Hb sb NV => rd_ne Z (LN.same sb) NV fun r5 H13 hr5 sc => ?_⟩
    obtain rfl : r5 = true := hr5.mpr fun w hw => by simp
    refine ⟨_, rfl, iteF ?_⟩
    have B13 := Ba.same (sm_trans sb sc)
    have k13 : Kq TT pn H H13 := k12.trans ((Kq.of ka).trans (.same (sm_trans sb sc)))
    -- two words share none, but if they are one
    refine ⟨_, rfl, _, rfl, fun x dx nx nd _ => mk_listV (ws := [u1]) rfl B13.val hL (Nat.le_of_ble_eq_true rfl) g1 (by omega) B13.tab nx nd fun Ha ka LA => ?_⟩
    have Ba := B13.kp ka
    refine ⟨_, rfl, _, rfl, fun x dx nx nd _ => mk_listV (ws := [u2]) rfl Ba.val hL (Nat.le_of_ble_eq_true rfl) g2 (by omega) Ba.tab nx nd fun Hb kb LB => ?_⟩
    have Bb := Ba.kp kb
    refine rd_op2 (r := .and) Z (fun C hC => (Z.cc C hC).and) (by decide) (LA.kp kb) LB hL ((sm_list L [u1]).le b1) ((sm_list L [u2]).le b2) (by decide) (((sm_list L [u1]).le b1).op _ ((sm_list L [u2]).le b2) |>.le (by decide)) fun q4 Hc sc AN => ?_
    have Bc := Bb.same sc
    refine ⟨_, rfl, fun x dx nx nd _ => mk_listV (ws := []) rfl Bc.val hL (by decide) (fun z hz => nomatch hz) (by decide) Bc.tab nx nd fun Hd kd LN => rd_eq Z (AN.kp kd) LN fun r6 He hr6 se => ?_⟩
    have Be := (Bc.kp kd).same se
    have kE : Kq TT pn H He := k13.trans ((Kq.of ka).trans ((Kq.of kb).trans ((Kq.same sc).trans ((Kq.of kd).trans (.same se)))))
    refine ⟨_, rfl, _, rfl, rfl, rfl, ?_⟩
    have hr6' : r6 = true ↔ u1 ≠ u2 := hr6.trans (list_both m1)
    have e6 : r6 = !decide (V.str (Sg u1) = V.str (Sg u2)) := by
      by_cases h : u1 = u2
      · rw [decide_eq_true (by rw [h])]
        cases r6 with
        | false => rfl
        | true => exact absurd h (hr6'.mp rfl)
      · rw [hr6'.mpr h, decide_eq_false fun z => h (by injection z with z; exact SX.S_inj z)] <;> rfl
    rw [← e6, decide_eq_true rfl]
    exact kk He kE (Be.pen.mono (by omega))
end
end LW
end
section
set_option Elab.async false
set_option linter.all false
set_option maxRecDepth 100000
set_option maxHeartbeats 2000000
/-! drawn kinds: what is promised -/
namespace LW
open PySem PySem.Spec PyProof.Rows L2 LamX
/-! ### the letters from behind -/
def rvN (L : List Nat) (y : Nat) : Nat := L.reverse.getD (L.idxOf y) 0
theorem nodup_rev {L : List Nat} (h : L.Nodup) : L.reverse.Nodup := List.pairwise_reverse.mpr (h.imp fun z => Ne.symm z)
theorem rv_map {L : List Nat} (hn : L.Nodup) : L.map (rvN L) = L.reverse := by
  refine List.ext_getElem (by simp) fun i h1 h2 => ?_
  rw [List.length_map] at h1
  rw [List.getElem_map]
  unfold rvN
  rw [LS.idxOf_of hn (List.getElem?_eq_getElem h1), LS.getD_at h2]
theorem rv_inj {L : List Nat} (hn : L.Nodup) : ∀ x ∈ L, ∀ y ∈ L, rvN L x = rvN L y → x = y := by
  intro x hx y hy e
  have h1 := List.idxOf_lt_length_iff.mpr hx
  have h2 := List.idxOf_lt_length_iff.mpr hy
  unfold rvN at e
  rw [LS.getD_at (by rw [List.length_reverse]; exact h1), LS.getD_at (by rw [List.length_reverse]; exact h2)] at e
  have hr : L.reverse.Nodup := nodup_rev hn
  have e2 := (List.getElem_inj hr).mp e
  have a := LS.idxOf_at hx
  have b := LS.idxOf_at hy
  rw [e2, b] at a
  exact (Option.some.inj a).symm
theorem rv_mem {L : List Nat} (hn : L.Nodup) {x : Nat} (hx : x ∈ L) : rvN L x ∈ L.reverse := by
  rw [← rv_map hn]
  exact List.mem_map.mpr ⟨x, hx, rfl⟩
theorem abc_rev {L : List Nat} (h : Abc L) : Abc L.reverse := ⟨by rw [List.length_reverse]; exact h.lo, by rw [List.length_reverse]; exact h.hi, nodup_rev h.nd, fun x hx => h.az x (List.mem_reverse.mp hx)⟩
theorem merge_nms (g : Nat → Nat) : ∀ (B A : List Nat), (A ++ B).Nodup → mergeK (nmsOf g A) (nmsOf g B) = nmsOf g (A ++ B)
  | [], A, _ => by rw [List.append_nil]; rfl
  | b :: B, A, h => by
    have hb : b ∉ A := fun z => (List.nodup_append.mp h).2.2 b z b List.mem_cons_self rfl
    have e : putK (nmsOf g A) (sK b) (.str (Sg [g b])) = nmsOf g (A ++ [b]) := by
      unfold putK
      rw [if_neg]
      · unfold nmsOf
        rw [List.map_append] <;> rfl
      · intro z
        obtain ⟨kv, hkv, ek⟩ := List.any_eq_true.mp z
        obtain ⟨y, hy, rfl⟩ := List.mem_map.mp hkv
        have ek : sK y = sK b := of_decide_eq_true ek
        exact hb (by rw [← sK_inj _ _ ek]; exact hy)
    have ih := merge_nms g B (A ++ [b]) (by rw [List.append_assoc]; exact h)
    have e2 : A ++ [b] ++ B = A ++ b :: B := by rw [List.append_assoc] <;> rfl
    rw [e2] at ih
    rw [← ih, ← e]
    rfl
theorem merge_nms0 (g : Nat → Nat) {L : List Nat} (h : L.Nodup) : mergeK [] (nmsOf g L) = nmsOf g L := merge_nms g L [] h
theorem valV_nms (g : Nat → Nat) {L : List Nat} {y : Nat} (hy : y ∈ L) : valV (nmsOf g L) (sK y) = some (V.str (Sg [g y])) := by
  unfold nmsOf
  rw [valV_map sK sK_inj (fun y => V.str (Sg [g y])) y L, if_pos hy]
/-! ### a drawn clue: small, or of few words -/
def KindL (L : List Nat) (f : List Nat → Bool) : Prop := (Small L.length 8 f ∧ Small L.length 8 (fun w => f w.reverse)) ∨ ∃ ws : List (List Nat), (ws.map List.length).sum ≤ 10 ∧ ∀ w, LS.Wd L.length w → f w = decide (spell L w ∈ ws)
theorem sum_rev (ws : List (List Nat)) : ((ws.map List.reverse).map List.length).sum = (ws.map List.length).sum := by
  rw [List.map_map]
  congr 1
  exact List.map_congr_left fun z _ => List.length_reverse
theorem KindL.rev {L : List Nat} {f : List Nat → Bool} (h : KindL L f) : KindL L (fun w => f w.reverse) := by
  rcases h with ⟨h1, h2⟩ | ⟨ws, h1, h2⟩
  · exact .inl ⟨h2, h1.congr fun w _ => by show f w = f w.reverse.reverse; rw [List.reverse_reverse]⟩
  · exact .inr ⟨ws.map List.reverse, by rw [sum_rev]; exact h1, fun w hw => (h2 _ hw.rev).trans (list_rev L ws w)⟩
theorem KindL.le {L : List Nat} {f : List Nat → Bool} (h : KindL L f) : Small L.length 12 f := by
  rcases h with ⟨h1, _⟩ | ⟨ws, h1, h2⟩
  · exact h1.le (by decide)
  · exact ((sm_list L ws).le (by omega)).congr fun w hw => (h2 w hw).symm
theorem KindL.join {L : List Nat} {f g : List Nat → Bool} (hn : L.Nodup) (hf : KindL L f) (hg : KindL L g) (r : Bool → Bool → Bool) : Small L.length 64 (fun w => r (f w) (g w)) := by
  rcases id hf with ⟨h1, _⟩ | ⟨ws, h1, h2⟩
  · rcases id hg with ⟨g1, _⟩ | ⟨vs, g1, g2⟩
    · exact Small.op r h1 g1
    · exact ((sm_opL (ws := vs) hn (fun a b => r b a) hf.le).le (by omega)).congr fun w hw => by rw [g2 w hw]
  · exact ((sm_opL (ws := ws) hn r hg.le).le (by omega)).congr fun w hw => by rw [h2 w hw]
end LW
end
section
set_option Elab.async false
set_option linter.all false
set_option maxRecDepth 100000
set_option maxHeartbeats 2000000
/-! drawn kinds -/
namespace LW
open PySem PySem.Spec PyProof.Rows L2 LamX
abbrev st_law_kinds : Stmt := top 70
theorem sc_law_kinds : FnScope ["_law_pen_here", "_law_base", "_law_letters_here", "_law_turned", "_law_sent_so", "_law_mark", "_law_way", "_law_fresh", "_law_a", "_law_b", "_law_one", "_law_other", "_law_found", "_law_text_here", "_law_letter"] ["_law_pen_here", "_law_base"] (defScope st_law_kinds) := ⟨rfl, rfl, rfl, by decide +kernel, rfl, by decide +kernel, by decide +kernel⟩
def spKinds (c : Cs) (TT : List (Addr × Str)) : Sp := fun vs H Q _ => ∃ (pn ls v : Addr) (n : Nat) (L : List Nat), vs = [.ref pn, .ref v] ∧ Bs c TT H pn ls n v L ∧ Abc L ∧ n ≤ 70000 ∧
  ∀ (p q1 q2 q3 v' : Addr) (f : List Nat → Bool) H', Kq TT pn H H' → PenO H' pn ls (n + 20) → H' p = some (.lst [.ref q1, .ref q2, .ref q3]) → ClueL c H' q1 v L f → ClueL c H' q2 v L (fun w => f w.reverse) → ClueL c H' q3 v' L.reverse f → KindL L f → Q (.ref p) H'
theorem paired_at {α β : Type} {F : α → β → Prop} : ∀ {xs : List α} {ys : List β}, xs.length = ys.length → (∀ (j : Nat) (x : α) (y : β), xs[j]? = some x → ys[j]? = some y → F x y) → Paired F xs ys
  | [], [], _, _ => .nil
  | [], _ :: _, h, _ => by cases h
  | _ :: _, [], h, _ => by cases h
  | x :: xs, y :: ys, h, f => .cons (f 0 x y rfl rfl) (paired_at (Nat.succ.inj h) fun j a b e1 e2 => f (j + 1) a b e1 e2)
section
variable {L : List Nat} {m : Nat} {w : List Nat}
theorem bm_rv (hn : L.Nodup) (hm : m ∈ L) (hw : LS.Wd L.reverse.length w) : bm L.reverse (rvN L m) w = bm L m w := by
  rw [List.length_reverse] at hw
  rw [← rv_map hn]
  exact bm_h (rv_inj hn) hm hw
theorem cm_rv (hn : L.Nodup) (hm : m ∈ L) (hw : LS.Wd L.reverse.length w) : cm L.reverse (rvN L m) w = cm L m w := by
  rw [List.length_reverse] at hw
  rw [← rv_map hn]
  exact cm_h (rv_inj hn) hm hw
theorem list_rv {ws : List (List Nat)} (hn : L.Nodup) (h : ∀ z ∈ ws, ∀ y ∈ z, y ∈ L) (hw : LS.Wd L.reverse.length w) : decide (spell L.reverse w ∈ ws.map (List.map (rvN L))) = decide (spell L w ∈ ws) := by
  rw [List.length_reverse] at hw
  rw [← rv_map hn]
  exact list_h (rv_inj hn) h hw
theorem nbr_rv {ws : List (List Nat)} (hn : L.Nodup) (h : ∀ z ∈ ws, ∀ y ∈ z, y ∈ L) (hw : LS.Wd L.reverse.length w) : nbr L.reverse (ws.map (List.map (rvN L))) w = nbr L ws w := by
  rw [List.length_reverse] at hw
  rw [← rv_map hn]
  exact nbr_h (rv_inj hn) h hw
theorem dg_nms {H : Hp} {d y : Addr} (h : H d = some (.dK (nmsOf (rvN L) L))) (hy : y ∈ L) : DGet H d (V.str (Sg [y])) (some (V.str (Sg [rvN L y]))) := by
  have := DGet.k (k := sK y) h
  rw [valV_nms _ hy] at this
  exact this
theorem pairs_nms {K : PySem.W.Frag} {H : Hp} {ts : List Addr} (hn : L.Nodup) (hl : ts.length = L.length)
    (h : ∀ (j : Nat) (t : Addr) (x y : V), ts[j]? = some t → (chars (Sg L))[j]? = some x → (chars (Sg L.reverse))[j]? = some y → H t = some (.tup [x, y])) : Paired (fun p kv => SqT K H p [kV kv.1, kv.2]) ts (nmsOf (rvN L) L) := by
  refine paired_at (by rw [hl]; exact (List.length_map _).symm) fun j t kv e1 e2 => ?_
  obtain ⟨y, hy, rfl⟩ := of_map_at e2
  have e3 : (chars (Sg L))[j]? = some (V.str (Sg [y])) := by rw [chars_S]; exact map_at _ hy
  have e4 : (chars (Sg L.reverse))[j]? = some (V.str (Sg [rvN L y])) := by
    rw [chars_S, ← rv_map hn]
    exact map_at _ (map_at _ hy)
  exact SqT.of (h j t _ _ e1 e3 e4)
end
/-- the two words with other letters -/
theorem kinds_comp {K : PySem.W.Frag} {H : Hp} {d : Addr} {L u1 u2 : List Nat} {Q : VK} {s0 s1 s2 s3 s5 s6 s7 : Option V} (hd : H d = some (.dK (nmsOf (rvN L) L))) (m1 : ∀ y ∈ u1, y ∈ L) (m2 : ∀ y ∈ u2, y ∈ L) (l1 : u1.length ≤ 100) (l2 : u2.length ≤ 100)
    (kk : ∀ D H', Same H H' → H' D = some (.lst [V.str (Sg (u1.map (rvN L))), V.str (Sg (u2.map (rvN L)))]) → Q (.ref D) H') :
    tLc (iList K (tLst (tCons (tVar 10) (tCons (tVar 11) tNil)))) (gName 13) tYes
      (tBM K "str" (fun x xs H Q => ∃ a p, ∃ ys : List Str, x = .str a ∧ xs = [.ref p] ∧ (SqL K H p (ys.map V.str) ∨ SqT K H p (ys.map V.str)) ∧ (ys.map (·.length)).sum + ys.length * a.length ≤ 16777216 ∧ Q (.str (Txt.join a ys)) H)
        (tC (V.str (Str.ofString ""))) (tCons (tLc (iStr (tVar 13)) (gName 14) tYes (tDGet (tVar 4) (tVar 14)) (List.map (fun x => x.snd) [(Str.ofString "_law_letter", 14)])) tNil))
      (List.map (fun x => x.snd) [(Str.ofString "_law_text_here", 13)]) [s0, s1, s2, s3, some (.ref d), s5, s6, s7, none, none, some (.str (Sg u1)), some (.str (Sg u2)), none, none, none] H Q := by
  refine ⟨_, rfl, _, rfl, by show 2 ≤ sizeLine; decide, fun lp np => ?_⟩
  have s1 : Same H (upd H lp (.lst [V.str (Sg u1), V.str (Sg u2)])) := same_new np
  have hlp : upd H lp (.lst [V.str (Sg u1), V.str (Sg u2)]) lp = some (.lst [V.str (Sg u1), V.str (Sg u2)]) := upd_same
  generalize upd H lp _ = H1 at s1 hlp ⊢
  refine ⟨lp, rfl, ⟨_, SqL.of hlp⟩, fun D nD => lc_it (walk_list (K := K) (a := lp) (xs := [V.str (Sg u1), V.str (Sg u2)])) (LcPv (RMap fun i => V.str (Sg (([u1, u2].getD i []).map (rvN L)))) H1 D) (pv_start nD rfl) (fun i H' _ p => SqL.of (pv_same p _ _ hlp)) ?_ ?_⟩
  · rintro i x H2 H2' hi ⟨acc, eD, hl, sm, r⟩ ⟨rfl, hx⟩
    obtain ⟨u, hu, rfl, lu, mu⟩ : ∃ u, [u1, u2].getD i [] = u ∧ x = V.str (Sg u) ∧ u.length ≤ 100 ∧ ∀ y ∈ u, y ∈ L := by
      match i, hx with
      | 0, hx => exact ⟨u1, rfl, (Option.some.inj hx).symm, l1, m1⟩
      | 1, hx => exact ⟨u2, rfl, (Option.some.inj hx).symm, l2, m2⟩
      | i + 2, hx => simp at hx
    refine ⟨rfl, rfl, _, rfl, Sg u, rfl, lc_txt (fun D2 => LcPv (RMap fun j => V.str (Sg [rvN L (u.getD j 0)])) H2' D2) (fun D2 nD2 => pv_start nD2 rfl) ?_ ?_⟩
    · rintro D2 j y H3 nD2 hy ⟨acc2, eD2, hl2, sm2, r2⟩
      have hj : j < u.length := (List.getElem?_eq_some_iff.mp hy).1
      have hym : y ∈ L := mu y (List.mem_of_getElem? hy)
      have hd3 : H3 d = some (.dK (nmsOf (rvN L) L)) := (sm_trans s1 (sm_trans (sm_trans sm hid_sub) (sm_trans sm2 hid_sub))) _ _ hd
      have ey : u.getD j 0 = y := by rw [List.getD_eq_getElem?_getD, hy] <;> rfl
      exact ⟨rfl, _, rfl, _, rfl, d, _, rfl, dg_nms hd3 hym, pv_push eD2 hl2 sm2 (Same.refl _) (by omega) (rmap_push r2 (by rw [ey]))⟩
    · rintro D2 H3 nD2 ⟨acc2, eD2, hl2, sm2, r2⟩
      have e2 : acc2 = (u.map (rvN L)).map fun y => V.str (Sg [y]) := by
        rw [show acc2 = _ from r2, map_range_getD u 0 fun y => V.str (Sg [rvN L y]), List.map_map] <;> rfl
      have e3 : ((u.map (rvN L)).map fun y => V.str (Sg [y])) = ((u.map (rvN L)).map fun y => Sg [y]).map V.str := by
        rw [List.map_map (g := V.str)]
        rfl
      refine ⟨Str.ofString "", D2, (u.map (rvN L)).map fun y => Sg [y], rfl, rfl, .inl (SqL.of (by rw [eD2, e2, e3])), ?_, ?_⟩
      · rw [sum_ones, show (Str.ofString "").length = 0 from rfl, List.length_map]
        omega
      · rw [join_ones]
        exact pv_push eD hl sm (sm_trans sm2 hid_sub) (by simp at hi; omega) (rmap_push r (by rw [hu]))
  · rintro H2 ⟨acc, eD, hl, sm, r⟩
    exact kk D H2 (sm_trans s1 (sm_trans sm hid_sub)) (by rw [eD, show acc = _ from r] <;> rfl)
section
variable {P : Program} {w : World} {K : PySem.W.Frag} {mg : Str → Option Value} {base : Heap} {c : Cs} {TT : List (Addr × Str)}
theorem c_law_kinds (Y : TL P K mg base c TT) : Cal P w K mg base "_law_kinds" 10 ["_law_pen_here", "_law_base"] (spKinds c TT) := by
  have Z := Y.Z
  have T := Z.T
  obtain ⟨fL, kListed⟩ := Y.kList
  obtain ⟨fN, kNeighbours⟩ := Y.kNeig
  obtain ⟨fF, kFew⟩ := Y.kFew
  obtain ⟨fR, kRuns⟩ := Y.kRuns
  obtain ⟨fM, T0, u0, cl0, d0, nn0, sl0, kModulo, hT0⟩ := Y.kModu
  have c_Values_init := c_Values_init (P := P) (w := w) (base := base) Z
  have c_Listed := c_Listed_init (P := P) (w := w) (base := base) Z kListed
  have c_Neighbours := c_Neighbours_init (P := P) (w := w) (base := base) Z kNeighbours
  have c_Few := c_Few_init (P := P) (w := w) (base := base) Z kFew
  have c_Runs := c_Runs_init (P := P) (w := w) (base := base) Z kRuns
  have c_Modulo := c_Modulo_init (P := P) (w := w) (base := base) Z kModulo hT0
  have c_law_pick := c_law_pick (P := P) (w := w) (base := base) T
  have c_law_draw := c_law_draw (P := P) (w := w) (base := base) T
  have c_law_text := c_law_text (P := P) (w := w) (base := base) T
  refine FunG.cal T.f_law_kinds sc_law_kinds (fun _ _ _ _ _ _ us hl => match us, hl with | [_, _], _ => rfl) (fun vs H Q E h => ?_) (fun f cdv A outer s H vs Q E hr h => ?_)
  · obtain ⟨pn, ls, v, n, L, rfl, _⟩ := h
    rfl
  · obtain ⟨pn, ls, v, n, L, rfl, B, hA, hn, kk⟩ := h
    have hu : (A.deeper (envOfC "_law_kinds" (defScope st_law_kinds) s.heap.objs.size f cdv)).units + 1 < cLine := Nat.lt_of_le_of_lt (Nat.add_le_add_left (by decide) _) hr.units
--TERM _law_kinds
    refine ⟨_, (pss_cons (ps_set (i := 2) sc_law_kinds.nd rfl (Or.inl rfl) (pe_fldK K (pv 1)))
  (pss_cons (ps_set (i := 3) sc_law_kinds.nd rfl (Or.inl rfl) (pe_mkR Z.mk_vals c_Values_init (by decide) hr rfl Z.g_Values (pa_cons (pe_revS (pv 2)) pa_nil)))
  (pss_cons (ps_set (i := 4) sc_law_kinds.nd rfl (Or.inr rfl) (pe_callTy (call_dictP rfl) (by rfl) T.b_dict bt_dict (pa_cons (pe_listZip K rfl T.b_list T.b_zip (pa_cons (pv 2) (pa_cons (pe_revS (pv 2)) pa_nil))) pa_nil)))
  (pss_cons (ps_par (i := 5) (j := 6) rfl sc_law_kinds.nd rfl rfl (by decide) rfl rfl (pa_cons (pe_cal c_law_pick (by decide) hr (pa_cons (pv 0) (pa_cons (pv 2) pa_nil))) (pa_cons (pe_cal c_law_draw (by decide) hr (pa_cons (pv 0) (pa_cons pe_int pa_nil))) pa_nil)) (by rfl))
  (C8.pss_cut (ps_set (i := 7) sc_law_kinds.nd rfl (Or.inl rfl) (pe_dget hu (pv 4) (pv 5) (fun _ _ => rfl)))
  (pss_cons (ps_if (pt_cmpR op_eq (pv 6) pe_int (nomark _)) (pss_cons (ps_par (i := 8) (j := 9) rfl sc_law_kinds.nd rfl rfl (by decide) rfl rfl (pa_cons (pe_op op_add pe_int (pe_cal c_law_draw (by decide) hr (pa_cons (pv 0) (pa_cons pe_int pa_nil)))) (pa_cons (pe_op op_add pe_int (pe_cal c_law_draw (by decide) hr (pa_cons (pv 0) (pa_cons pe_int pa_nil)))) pa_nil)) (by rfl))
  (pss_one (ps_ret (pe_lst (pa_cons (pe_mkR kRuns.mak c_Runs (by decide) hr rfl Y.g_Runs (pa_cons (pv 1) (pa_cons (pv 5) (pa_cons (pv 8) (pa_cons (pv 9) pa_nil))))) (pa_cons (pe_mkR kRuns.mak c_Runs (by decide) hr rfl Y.g_Runs (pa_cons (pv 1) (pa_cons (pv 5) (pa_cons (pv 9) (pa_cons (pv 8) pa_nil))))) (pa_cons (pe_mkR kRuns.mak c_Runs (by decide) hr rfl Y.g_Runs (pa_cons (pv 3) (pa_cons (pv 7) (pa_cons (pv 8) (pa_cons (pv 9) pa_nil))))) pa_nil)))))))
  pss_nil)
  (pss_cons (ps_if (pt_cmpR op_eq (pv 6) pe_int (nomark _)) (pss_cons (ps_set (i := 8) sc_law_kinds.nd rfl (Or.inl rfl) (pe_cal c_law_draw (by decide) hr (pa_cons (pv 0) (pa_cons pe_int pa_nil))))
  (pss_one (ps_ret (pe_lst (pa_cons (pe_mkR kFew.mak c_Few (by decide) hr rfl Y.g_Few (pa_cons (pv 1) (pa_cons (pv 5) (pa_cons (pv 8) pa_nil)))) (pa_cons (pe_mkR kFew.mak c_Few (by decide) hr rfl Y.g_Few (pa_cons (pv 1) (pa_cons (pv 5) (pa_cons (pv 8) pa_nil)))) (pa_cons (pe_mkR kFew.mak c_Few (by decide) hr rfl Y.g_Few (pa_cons (pv 3) (pa_cons (pv 7) (pa_cons (pv 8) pa_nil)))) pa_nil)))))))
  pss_nil)
  (pss_cons (ps_if (pt_cmpR op_eq (pv 6) pe_int (nomark _)) (pss_cons (ps_set (i := 8) sc_law_kinds.nd rfl (Or.inl rfl) (pe_op op_add pe_int (pe_cal c_law_draw (by decide) hr (pa_cons (pv 0) (pa_cons pe_int pa_nil)))))
  (pss_cons (ps_set (i := 9) sc_law_kinds.nd rfl (Or.inl rfl) (pe_cal c_law_draw (by decide) hr (pa_cons (pv 0) (pa_cons (pv 8) pa_nil))))
  (pss_one (ps_ret (pe_lst (pa_cons (pe_mkR kModulo.mak c_Modulo (by decide) hr rfl Y.g_Modulo (pa_cons (pv 1) (pa_cons (pv 5) (pa_cons (pv 8) (pa_cons (pv 9) pa_nil))))) (pa_cons (pe_mkR kModulo.mak c_Modulo (by decide) hr rfl Y.g_Modulo (pa_cons (pv 1) (pa_cons (pv 5) (pa_cons (pv 8) (pa_cons (pv 9) pa_nil))))) (pa_cons (pe_mkR kModulo.mak c_Modulo (by decide) hr rfl Y.g_Modulo (pa_cons (pv 3) (pa_cons (pv 7) (pa_cons (pv 8) (pa_cons (pv 9) pa_nil))))) pa_nil))))))))
  pss_nil)
  (pss_cons (ps_if (pt_cmpR op_eq (pv 6) pe_int (nomark _)) (pss_cons (ps_par (i := 10) (j := 11) rfl sc_law_kinds.nd rfl rfl (by decide) rfl rfl (pa_cons (pe_cal c_law_text (by decide) hr (pa_cons (pv 0) (pa_cons (pv 2) (pa_cons pe_int pa_nil)))) (pa_cons (pe_cal c_law_text (by decide) hr (pa_cons (pv 0) (pa_cons (pv 2) (pa_cons pe_int pa_nil)))) pa_nil)) (by rfl))
  (C8.pss_cut (ps_asg (pe_lc (own := [("_law_text_here", 13)]) rfl sc_law_kinds.nd (pi_listK K (pe_lst (pa_cons (pv 10) (pa_cons (pv 11) pa_nil)))) (blkOk_by (own := [("_law_text_here", 13)]) (by kernel_rfl)) (fun _ _ _ _ _ => (pg_name (i := 13) sc_law_kinds.nd rfl (Or.inl rfl))) (fun _ _ _ _ _ => pts_nil) (fun _ _ _ _ _ => (pe_bmK K PySem.F.plainAttrs_str PySem.F.slot_str_join PySem.F.type_str_join (mt_joinK K) pe_str (pa_cons (pe_lc (own := [("_law_letter", 14)]) rfl sc_law_kinds.nd (pi_str (pv 13)) (blkOk_by (own := [("_law_letter", 14)]) (by kernel_rfl)) (fun _ _ _ _ _ => (pg_name (i := 14) sc_law_kinds.nd rfl (Or.inl rfl))) (fun _ _ _ _ _ => pts_nil) (fun _ _ _ _ _ => (pe_dget hu (pv 4) (pv 14) (fun _ _ => rfl)))) pa_nil)))) (pg_lstK K (n := 2) (pgs_cons (pg_name (i := 8) sc_law_kinds.nd rfl (Or.inl rfl)) (pgs_cons (pg_name (i := 9) sc_law_kinds.nd rfl (Or.inl rfl)) pgs_nil))))
  (pss_cons (ps_set (i := 12) sc_law_kinds.nd rfl (Or.inl rfl) (pe_lst (pa_cons (pe_mkR kNeighbours.mak c_Neighbours (by decide) hr rfl Y.g_Neighbours (pa_cons (pv 1) (pa_cons (pv 10) (pa_cons (pv 11) pa_nil)))) (pa_cons (pe_mkR kNeighbours.mak c_Neighbours (by decide) hr rfl Y.g_Neighbours (pa_cons (pv 1) (pa_cons (pe_revS (pv 10)) (pa_cons (pe_revS (pv 11)) pa_nil)))) pa_nil))))
  (pss_one (ps_ret (pe_op op_cat (pv 12) (pe_lst (pa_cons (pe_mkR kNeighbours.mak c_Neighbours (by decide) hr rfl Y.g_Neighbours (pa_cons (pv 3) (pa_cons (pv 8) (pa_cons (pv 9) pa_nil)))) pa_nil))))))))
  pss_nil)
  (pss_cons (ps_par (i := 10) (j := 11) rfl sc_law_kinds.nd rfl rfl (by decide) rfl rfl (pa_cons (pe_cal c_law_text (by decide) hr (pa_cons (pv 0) (pa_cons (pv 2) (pa_cons (pe_cal c_law_draw (by decide) hr (pa_cons (pv 0) (pa_cons pe_int pa_nil))) pa_nil)))) (pa_cons (pe_cal c_law_text (by decide) hr (pa_cons (pv 0) (pa_cons (pv 2) (pa_cons (pe_cal c_law_draw (by decide) hr (pa_cons (pv 0) (pa_cons pe_int pa_nil))) pa_nil)))) pa_nil)) (by rfl))
  (C8.pss_cut (ps_asg (pe_lc (own := [("_law_text_here", 13)]) rfl sc_law_kinds.nd (pi_listK K (pe_lst (pa_cons (pv 10) (pa_cons (pv 11) pa_nil)))) (blkOk_by (own := [("_law_text_here", 13)]) (by kernel_rfl)) (fun _ _ _ _ _ => (pg_name (i := 13) sc_law_kinds.nd rfl (Or.inl rfl))) (fun _ _ _ _ _ => pts_nil) (fun _ _ _ _ _ => (pe_bmK K PySem.F.plainAttrs_str PySem.F.slot_str_join PySem.F.type_str_join (mt_joinK K) pe_str (pa_cons (pe_lc (own := [("_law_letter", 14)]) rfl sc_law_kinds.nd (pi_str (pv 13)) (blkOk_by (own := [("_law_letter", 14)]) (by kernel_rfl)) (fun _ _ _ _ _ => (pg_name (i := 14) sc_law_kinds.nd rfl (Or.inl rfl))) (fun _ _ _ _ _ => pts_nil) (fun _ _ _ _ _ => (pe_dget hu (pv 4) (pv 14) (fun _ _ => rfl)))) pa_nil)))) (pg_lstK K (n := 2) (pgs_cons (pg_name (i := 8) sc_law_kinds.nd rfl (Or.inl rfl)) (pgs_cons (pg_name (i := 9) sc_law_kinds.nd rfl (Or.inl rfl)) pgs_nil))))
  (pss_cons (ps_set (i := 12) sc_law_kinds.nd rfl (Or.inl rfl) (pe_lst (pa_cons (pe_mkR kListed.mak c_Listed (by decide) hr rfl Y.g_Listed (pa_cons (pv 1) (pa_cons (pv 10) (pa_cons (pv 11) pa_nil)))) (pa_cons (pe_mkR kListed.mak c_Listed (by decide) hr rfl Y.g_Listed (pa_cons (pv 1) (pa_cons (pe_revS (pv 10)) (pa_cons (pe_revS (pv 11)) pa_nil)))) pa_nil))))
  (pss_one (ps_ret (pe_op op_cat (pv 12) (pe_lst (pa_cons (pe_mkR kListed.mak c_Listed (by decide) hr rfl Y.g_Listed (pa_cons (pv 3) (pa_cons (pv 8) (pa_cons (pv 9) pa_nil)))) pa_nil))))))))))))))))), ?_⟩
--END
    have hL := hA.hi
    have hL1 : 1 ≤ L.length := by have := hA.lo; omega
    have hR := abc_rev hA
    refine ⟨_, rfl, rd_letters Z B.val ?_⟩
    -- the letters from behind
    refine ⟨_, rfl, L, rfl, by omega, ?_⟩
    intro v' dx n1 n2 hne
    refine ⟨v', dx, L.reverse, rfl, upd_same, hR, fun H1 sx hx' => ⟨rfl, ?_⟩⟩
    have s1 : Same H H1 := made_same (Same.refl H) n1 n2 sx
    have V1 : ValO c H1 v' L.reverse := ⟨dx, hx'⟩
    have B1 := B.same s1
    -- the dict of names
    refine ⟨_, rfl, _, rfl, L, rfl, by omega, .txt (Sg L), .txt (Sg L.reverse), chars (Sg L), chars (Sg L.reverse), rfl, rfl, rfl, ?_⟩
    refine ⟨by rw [chars_S, chars_S, List.length_map, List.length_map, List.length_reverse], by rw [chars_S, List.length_map]; exact Nat.le_of_lt (small5 (by omega)), fun H2 lp ts s2 _ hlp htl hts => ?_⟩
    have htl2 : ts.length = L.length := by rw [htl, chars_S, List.length_map]
    refine ⟨lp, ts, nmsOf (rvN L) L, rfl, SqL.of hlp, ?_, fun d nd => ?_⟩
    · exact pairs_nms hA.nd htl2 hts
    rw [merge_nms0 (rvN L) hA.nd]
    have s3 : Same H2 (upd H2 d (.dK (nmsOf (rvN L) L))) := same_new nd
    have hd3 : upd H2 d (.dK (nmsOf (rvN L) L)) d = some (.dK (nmsOf (rvN L) L)) := upd_same
    generalize upd H2 d _ = H3 at s3 hd3 ⊢
    have s13 := sm_trans s2 s3
    have B3 := B1.same s13
    have V3 := V1.same s13
    -- a mark, a way
    refine ⟨_, rfl, _, rfl, pn, ls, n, .str (Sg L), _, rfl, B3.pen, by omega, by rw [List.length_map]; omega, by rw [List.length_map]; omega, .inr ⟨L, rfl, rfl⟩, fun m0 H4 hm0 sx4 hp4 => ?_⟩
    obtain ⟨m, hm, rfl⟩ := List.mem_map.mp hm0
    have q4 := B3.dq sx4
    have B4 := B3.kq q4 hp4
    refine ⟨_, rfl, pn, ls, n + 1, 5, rfl, B4.pen, by omega, by decide, by decide, fun way H5 hway sx5 hp5 => ⟨_, _, rfl, ?_⟩⟩
    have q5 := B4.dq sx5
    have B5 := B4.kq q5 hp5
    have k5 : Kq TT pn H3 H5 := q4.trans q5
    have V5 := V3.kq B3.pen k5
    have d5 : H5 d = some (.dK (nmsOf (rvN L) L)) := k5.get B3.pen hd3 (fun xs z => by cases z) (fun xs z => by cases z)
    have k05 : Kq TT pn H H5 := (Kq.same (sm_trans s1 s13)).trans k5
    -- its name
    refine ⟨fun σ' H' => σ' = [some (.ref pn), some (.ref v), some (.str (Sg L)), some (.ref v'), some (.ref d), some (.str (Sg [m])), some (nV way), some (.str (Sg [rvN L m])), none, none, none, none, none, none, none] ∧ H' = H5, ?_, ?_⟩
    · exact ⟨_, rfl, _, rfl, d, _, rfl, dg_nms d5 hm, rfl, rfl⟩
    rintro σ6 H6 ⟨rfl, e6⟩
    subst e6
    have hfm : rvN L m ∈ L.reverse := rv_mem hA.nd hm
    have hwe : ∀ i : Nat, way ≠ i → decide (V.int (way : Int) = V.int (i : Int)) = false := fun i h => decide_eq_false fun z => h (by injection z; omega)
    refine ⟨_, rfl, rfl, _, rfl, ?_⟩
    by_cases w0 : way = 0
    · subst w0
      refine iteT ?_
      refine ⟨_, rfl, pn, ls, n + 2, 2, rfl, B5.pen, by omega, by decide, by decide, fun da H7 hda sx7 hp7 => ⟨_, _, rfl, rfl, ?_⟩⟩
      have q7 := B5.dq sx7
      have B7 := B5.kq q7 hp7
      refine ⟨_, rfl, pn, ls, n + 3, 2, rfl, B7.pen, by omega, by decide, by decide, fun db H8 hdb sx8 hp8 => ⟨_, _, rfl, rfl, ?_⟩⟩
      have q8 := B7.dq sx8
      have B8 := B7.kq q8 hp8
      have V8 := (V5.kq B5.pen q7).kq B7.pen q8
      have ea : 1 + (da : Int) = ((da + 1 : Nat) : Int) := by omega
      have eb : 1 + (db : Int) = ((db + 1 : Nat) : Int) := by omega
      dsimp only
      rw [ea, eb]
      refine ⟨_, _, rfl, ?_⟩
      have g1 : ∀ r ∈ [da + 1, db + 1], 1 ≤ r ∧ r ≤ 30 := fun r hr => by simp at hr; omega
      have g2 : ∀ r ∈ [db + 1, da + 1], 1 ≤ r ∧ r ≤ 30 := fun r hr => by simp at hr; omega
      have z1 : [da + 1, db + 1].sum + [da + 1, db + 1].length + 2 ≤ 8 := by simp; omega
      have z2 : [db + 1, da + 1].sum + [db + 1, da + 1].length + 2 ≤ 8 := by simp; omega
      refine ⟨_, rfl, _, rfl, _, rfl, _, rfl, fun x1 dx1 nx1 nd1 _ => mk_runsV (ls := [da + 1, db + 1]) rfl B8.val hL hm (Nat.le_of_ble_eq_true rfl) g1 (by omega) B8.tab nx1 nd1 fun H9 k9 R1 => ?_⟩
      have B9 := B8.kp k9
      refine ⟨_, rfl, _, rfl, _, rfl, _, rfl, fun x2 dx2 nx2 nd2 _ => mk_runsV (ls := [db + 1, da + 1]) rfl B9.val hL hm (Nat.le_of_ble_eq_true rfl) g2 (by omega) B9.tab nx2 nd2 fun H10 k10 R2 => ?_⟩
      have B10 := B9.kp k10
      refine ⟨_, rfl, _, rfl, _, rfl, _, rfl, fun x3 dx3 nx3 nd3 _ => mk_runsV (ls := [da + 1, db + 1]) rfl ((V8.extN k9.ext).extN k10.ext) hR.hi hfm (Nat.le_of_ble_eq_true rfl) g1 (by omega) B10.tab nx3 nd3 fun H11 k11 R3 => ?_⟩
      have B11 := B10.kp k11
      refine ⟨by show 3 ≤ sizeLine; decide, fun p np => ?_⟩
      have s12 := same_new (o := .lst [V.ref x1, V.ref x2, V.ref x3]) np
      have rr : ∀ w, LS.rG [db + 1, da + 1] (bm L m w) = LS.rG [da + 1, db + 1] (bm L m w.reverse) := fun w => by rw [bm_rev, LS.rG_rev]
      refine kk p x1 x2 x3 v' (fun w => LS.rG [da + 1, db + 1] (bm L m w)) _ (k05.trans (q7.trans (q8.trans ((Kq.of k9).trans ((Kq.of k10).trans ((Kq.of k11).trans (.same s12))))))) ((B11.same s12).pen.mono (by omega)) upd_same (((R1.kp k10).kp k11).same s12) (((R2.kp k11).same s12).congr fun w _ => rr w) ((R3.same s12).congr fun w hw => by rw [bm_rv hA.nd hm hw]) (.inl ⟨(sm_runs L m fun r hr => (g1 r hr).1).le z1, ((sm_runs L m fun r hr => (g2 r hr).1).le z2).congr fun w _ => rr w⟩)
    rw [show decide (V.int (way : Int) = V.int 0) = false from hwe 0 w0]
    refine iteF ?_
    refine ⟨_, rfl, rfl, _, rfl, ?_⟩
    by_cases w1 : way = 1
    · subst w1
      refine iteT ?_
      refine ⟨_, rfl, pn, ls, n + 2, 4, rfl, B5.pen, by omega, by decide, by decide, fun a H7 ha sx7 hp7 => ?_⟩
      have q7 := B5.dq sx7
      have B7 := B5.kq q7 hp7
      have V7 := V5.kq B5.pen q7
      refine ⟨_, rfl, _, rfl, _, rfl, fun x1 dx1 nx1 nd1 _ => mk_few B7.val hL hm (by omega) nx1 nd1 fun H8 s8 F1 => ?_⟩
      refine ⟨_, rfl, _, rfl, _, rfl, fun x2 dx2 nx2 nd2 _ => mk_few (B7.same s8).val hL hm (by omega) nx2 nd2 fun H9 s9 F2 => ?_⟩
      refine ⟨_, rfl, _, rfl, _, rfl, fun x3 dx3 nx3 nd3 _ => mk_few ((V7.same s8).same s9) hR.hi hfm (by omega) nx3 nd3 fun H10 s10 F3 => ?_⟩
      refine ⟨by show 3 ≤ sizeLine; decide, fun p np => ?_⟩
      have s11 := same_new (o := .lst [V.ref x1, V.ref x2, V.ref x3]) np
      have sE := sm_trans s8 (sm_trans s9 (sm_trans s10 s11))
      refine kk p x1 x2 x3 v' (fun w => decide (cm L m w ≤ a)) _ (k05.trans (q7.trans (.same sE))) ((B7.same sE).pen.mono (by omega)) upd_same (F1.same (sm_trans s9 (sm_trans s10 s11))) ((F2.same (sm_trans s10 s11)).congr fun w _ => by rw [cm_rev]) ((F3.same s11).congr fun w hw => by rw [cm_rv hA.nd hm hw]) (.inl ⟨(sm_few L m a).le (by omega), ((sm_few L m a).le (by omega)).congr fun w _ => by show decide (cm L m w ≤ a) = decide (cm L m w.reverse ≤ a); rw [cm_rev]⟩)
    rw [show decide (V.int (way : Int) = V.int 1) = false from hwe 1 w1]
    refine iteF ?_
    refine ⟨_, rfl, rfl, _, rfl, ?_⟩
    by_cases w2 : way = 2
    · subst w2
      refine iteT ?_
      refine ⟨_, rfl, pn, ls, n + 2, 6, rfl, B5.pen, by omega, by decide, by decide, fun da H7 hda sx7 hp7 => ⟨_, _, rfl, rfl, ?_⟩⟩
      have q7 := B5.dq sx7
      have B7 := B5.kq q7 hp7
      have V7 := V5.kq B5.pen q7
      have ea : 1 + (da : Int) = ((da + 1 : Nat) : Int) := by omega
      dsimp only
      rw [ea]
      refine ⟨_, rfl, _, rfl, pn, ls, n + 3, da + 1, rfl, B7.pen, by omega, by omega, by omega, fun b H8 hb sx8 hp8 => ?_⟩
      have q8 := B7.dq sx8
      have B8 := B7.kq q8 hp8
      have V8 := V7.kq B7.pen q8
      refine ⟨_, rfl, _, rfl, _, rfl, _, rfl, fun x1 dx1 nx1 nd1 _ => mk_mod B8.val hL hm (by omega) (by omega) hb nx1 nd1 fun H9 s9 F1 => ?_⟩
      refine ⟨_, rfl, _, rfl, _, rfl, _, rfl, fun x2 dx2 nx2 nd2 _ => mk_mod (B8.same s9).val hL hm (by omega) (by omega) hb nx2 nd2 fun H10 s10 F2 => ?_⟩
      refine ⟨_, rfl, _, rfl, _, rfl, _, rfl, fun x3 dx3 nx3 nd3 _ => mk_mod ((V8.same s9).same s10) hR.hi hfm (by omega) (by omega) hb nx3 nd3 fun H11 s11 F3 => ?_⟩
      refine ⟨by show 3 ≤ sizeLine; decide, fun p np => ?_⟩
      have s12 := same_new (o := .lst [V.ref x1, V.ref x2, V.ref x3]) np
      have sE := sm_trans s9 (sm_trans s10 (sm_trans s11 s12))
      refine kk p x1 x2 x3 v' (fun w => decide (cm L m w % (da + 1) = b)) _ (k05.trans (q7.trans (q8.trans (.same sE)))) ((B8.same sE).pen.mono (by omega)) upd_same (F1.same (sm_trans s10 (sm_trans s11 s12))) ((F2.same (sm_trans s11 s12)).congr fun w _ => by rw [cm_rev]) ((F3.same s12).congr fun w hw => by rw [cm_rv hA.nd hm hw]) (.inl ⟨(sm_mod L m (by omega) b).le (by omega), ((sm_mod L m (md := da + 1) (by omega) b).le (by omega)).congr fun w _ => by show decide (cm L m w % (da + 1) = b) = decide (cm L m w.reverse % (da + 1) = b); rw [cm_rev]⟩)
    rw [show decide (V.int (way : Int) = V.int 2) = false from hwe 2 w2]
    refine iteF ?_
    refine ⟨_, rfl, rfl, _, rfl, ?_⟩
    by_cases w3 : way = 3
    · subst w3
      refine iteT ?_
      refine ⟨_, rfl, _, rfl, pn, ls, n + 2, 2, L, rfl, B5.pen, by omega, by decide, hL1, hL, fun u1 H7 l1 m1 sx7 hp7 => ?_⟩
      have q7 := B5.dq sx7
      have B7 := B5.kq q7 hp7
      refine ⟨_, rfl, _, rfl, pn, ls, n + 4, 2, L, rfl, B7.pen, by omega, by decide, hL1, hL, fun u2 H8 l2 m2 sx8 hp8 => ⟨_, _, rfl, ?_⟩⟩
      have q8 := B7.dq sx8
      have B8 := B7.kq q8 hp8
      have k8 : Kq TT pn H6 H8 := q7.trans q8
      have V8 := V5.kq B5.pen k8
      have d8 : H8 d = some (.dK (nmsOf (rvN L) L)) := k8.get B5.pen d5 (fun xs z => by cases z) (fun xs z => by cases z)
      refine ⟨fun σ' H' => σ' = [some (.ref pn), some (.ref v), some (.str (Sg L)), some (.ref v'), some (.ref d), some (.str (Sg [m])), some (nV 3), some (.str (Sg [rvN L m])), some (.str (Sg (u1.map (rvN L)))), some (.str (Sg (u2.map (rvN L)))), some (.str (Sg u1)), some (.str (Sg u2)), none, none, none] ∧ Same H8 H', kinds_comp d8 m1 m2 (by omega) (by omega) fun D H9 s9 hD => ⟨D, _, rfl, SqL.of hD, rfl, _, _, rfl, _, _, rfl, rfl, rfl, s9⟩, ?_⟩
      rintro σ9 H9 ⟨rfl, s9⟩
      have B9 := B8.same s9
      have V9 := V8.same s9
      have g1 : ∀ z ∈ [u1, u2], z.length = 2 ∧ ∀ y ∈ z, y ∈ L := fun z hz => by
        rcases List.mem_cons.mp hz with rfl | hz
        · exact ⟨l1, m1⟩
        · rw [List.mem_singleton.mp hz]; exact ⟨l2, m2⟩
      have g2 : ∀ z ∈ [u1.reverse, u2.reverse], z.length = 2 ∧ ∀ y ∈ z, y ∈ L := fun z hz => by
        rcases List.mem_cons.mp hz with rfl | hz
        · exact ⟨by rw [List.length_reverse]; exact l1, fun y hy => m1 y (List.mem_reverse.mp hy)⟩
        · rw [List.mem_singleton.mp hz]; exact ⟨by rw [List.length_reverse]; exact l2, fun y hy => m2 y (List.mem_reverse.mp hy)⟩
      have rvm : ∀ {u : List Nat}, (∀ y ∈ u, y ∈ L) → ∀ y ∈ u.map (rvN L), y ∈ L.reverse := fun hu y hy => by
        obtain ⟨z, hz, rfl⟩ := List.mem_map.mp hy
        exact rv_mem hA.nd (hu z hz)
      have g3 : ∀ z ∈ [u1.map (rvN L), u2.map (rvN L)], z.length = 2 ∧ ∀ y ∈ z, y ∈ L.reverse := fun z hz => by
        rcases List.mem_cons.mp hz with rfl | hz
        · exact ⟨by rw [List.length_map]; exact l1, rvm m1⟩
        · rw [List.mem_singleton.mp hz]; exact ⟨by rw [List.length_map]; exact l2, rvm m2⟩
      have gg : ∀ z ∈ [u1, u2], ∀ y ∈ z, y ∈ L := fun z hz => (g1 z hz).2
      refine ⟨_, rfl, _, rfl, _, rfl, fun x1 dx1 nx1 nd1 _ => mk_neigV (ps := [u1, u2]) rfl B9.val hL (Nat.le_of_ble_eq_true rfl) g1 B9.tab nx1 nd1 fun H10 k10 F1 => ?_⟩
      have B10 := B9.kp k10
      refine ⟨_, rfl, _, rfl, u1, rfl, by omega, _, rfl, u2, rfl, by omega, fun x2 dx2 nx2 nd2 _ => mk_neigV (ps := [u1.reverse, u2.reverse]) rfl B10.val hL (Nat.le_of_ble_eq_true rfl) g2 B10.tab nx2 nd2 fun H11 k11 F2 => ?_⟩
      have B11 := B10.kp k11
      refine ⟨by show 2 ≤ sizeLine; decide, fun fp nfp => ?_⟩
      have s12 := same_new (o := .lst [V.ref x1, V.ref x2]) nfp
      have hfp : upd H11 fp (.lst [V.ref x1, V.ref x2]) fp = some (.lst [V.ref x1, V.ref x2]) := upd_same
      have B12 := B11.same s12
      have V12 := (V9.extN k10.ext).extN (k11.ext.trans (ExtN.of s12))
      have k12 : Kq TT pn H H11 := k05.trans (k8.trans ((Kq.same s9).trans ((Kq.of k10).trans (Kq.of k11))))
      have k12 := k12.trans (.same s12)
      have F1' := ((F1.kp k11).same s12)
      have F2' := F2.same s12
      generalize upd H11 fp _ = H12 at s12 hfp B12 V12 k12 F1' F2' ⊢
      refine ⟨_, rfl, _, rfl, _, rfl, _, rfl, fun x3 dx3 nx3 nd3 _ => mk_neigV (ps := [u1.map (rvN L), u2.map (rvN L)]) rfl V12 hR.hi (Nat.le_of_ble_eq_true rfl) g3 B12.tab nx3 nd3 fun H13 k13 F3 => ?_⟩
      have hfp2 := k13.ext _ _ hfp (fun xs z => by cases z)
      refine ⟨by show 1 ≤ sizeLine; decide, fun gp ngp => ?_⟩
      have s14 := same_new (o := .lst [V.ref x3]) ngp
      have hgp : upd H13 gp (.lst [V.ref x3]) gp = some (.lst [V.ref x3]) := upd_same
      refine ⟨fp, gp, _, _, rfl, rfl, s14 _ _ hfp2, hgp, by show 2 + 1 ≤ sizeLine; decide, fun p np => ?_⟩
      have s15 := sm_trans s14 (same_new (o := .lst [V.ref x1, V.ref x2, V.ref x3]) np)
      refine kk p x1 x2 x3 v' (nbr L [u1, u2]) _ (k12.trans ((Kq.of k13).trans (.same s15))) (((B12.kp k13).same s15).pen.mono (by omega)) upd_same ((F1'.kp k13).same s15) (((F2'.kp k13).same s15).congr fun w _ => (nbr_rev L [u1, u2] w).symm) ((F3.same s15).congr fun w hw => nbr_rv (ws := [u1, u2]) hA.nd gg hw) (.inl ⟨(sm_nbr L [u1, u2]).le (by omega), ((sm_nbr L [u1.reverse, u2.reverse]).le (by omega)).congr fun w _ => (nbr_rev L [u1, u2] w).symm⟩)
    · rw [show decide (V.int (way : Int) = V.int 3) = false from hwe 3 w3]
      refine iteF ?_
      refine ⟨_, rfl, _, rfl, _, rfl, pn, ls, n + 2, 6, rfl, B5.pen, by omega, by decide, by decide, fun d1 Ha hd1 sxa hpa => ?_⟩
      have qa := B5.dq sxa
      have Ba := B5.kq qa hpa
      refine ⟨pn, ls, n + 3, d1, L, rfl, Ba.pen, by omega, by omega, hL1, hL, fun u1 H7 l1 m1 sx7 hp7 => ?_⟩
      have q7 := qa.trans (Ba.dq sx7)
      have B7 := Ba.kq (Ba.dq sx7) (hp7.mono (show n + 3 + d1 ≤ n + 8 by omega))
      refine ⟨_, rfl, _, rfl, _, rfl, pn, ls, n + 8, 6, rfl, B7.pen, by omega, by decide, by decide, fun d2 Hb hd2 sxb hpb => ?_⟩
      have qb := B7.dq sxb
      have Bb := B7.kq qb hpb
      refine ⟨pn, ls, n + 9, d2, L, rfl, Bb.pen, by omega, by omega, hL1, hL, fun u2 H8 l2 m2 sx8 hp8 => ⟨_, _, rfl, ?_⟩⟩
      have q8 := qb.trans (Bb.dq sx8)
      have B8 := B7.kq q8 (hp8.mono (show n + 9 + d2 ≤ n + 14 by omega))
      have k8 : Kq TT pn H6 H8 := q7.trans q8
      have V8 := V5.kq B5.pen k8
      have d8 : H8 d = some (.dK (nmsOf (rvN L) L)) := k8.get B5.pen d5 (fun xs z => by cases z) (fun xs z => by cases z)
      refine ⟨fun σ' H' => σ' = [some (.ref pn), some (.ref v), some (.str (Sg L)), some (.ref v'), some (.ref d), some (.str (Sg [m])), some (nV way), some (.str (Sg [rvN L m])), some (.str (Sg (u1.map (rvN L)))), some (.str (Sg (u2.map (rvN L)))), some (.str (Sg u1)), some (.str (Sg u2)), none, none, none] ∧ Same H8 H', kinds_comp d8 m1 m2 (by omega) (by omega) fun D H9 s9 hD => ⟨D, _, rfl, SqL.of hD, rfl, _, _, rfl, _, _, rfl, rfl, rfl, s9⟩, ?_⟩
      rintro σ9 H9 ⟨rfl, s9⟩
      have B9 := B8.same s9
      have V9 := V8.same s9
      have g1 : ∀ z ∈ [u1, u2], z.length ≤ 30 ∧ ∀ y ∈ z, y ∈ L := fun z hz => by
        rcases List.mem_cons.mp hz with rfl | hz
        · exact ⟨by omega, m1⟩
        · rw [List.mem_singleton.mp hz]; exact ⟨by omega, m2⟩
      have g2 : ∀ z ∈ [u1.reverse, u2.reverse], z.length ≤ 30 ∧ ∀ y ∈ z, y ∈ L := fun z hz => by
        rcases List.mem_cons.mp hz with rfl | hz
        · exact ⟨by rw [List.length_reverse]; omega, fun y hy => m1 y (List.mem_reverse.mp hy)⟩
        · rw [List.mem_singleton.mp hz]; exact ⟨by rw [List.length_reverse]; omega, fun y hy => m2 y (List.mem_reverse.mp hy)⟩
      have rvm : ∀ {u : List Nat}, (∀ y ∈ u, y ∈ L) → ∀ y ∈ u.map (rvN L), y ∈ L.reverse := fun hu y hy => by
        obtain ⟨z, hz, rfl⟩ := List.mem_map.mp hy
        exact rv_mem hA.nd (hu z hz)
      have g3 : ∀ z ∈ [u1.map (rvN L), u2.map (rvN L)], z.length ≤ 30 ∧ ∀ y ∈ z, y ∈ L.reverse := fun z hz => by
        rcases List.mem_cons.mp hz with rfl | hz
        · exact ⟨by rw [List.length_map]; omega, rvm m1⟩
        · rw [List.mem_singleton.mp hz]; exact ⟨by rw [List.length_map]; omega, rvm m2⟩
      have gg : ∀ z ∈ [u1, u2], ∀ y ∈ z, y ∈ L := fun z hz => (g1 z hz).2
      have b0 : ([u1, u2].map List.length).sum ≤ 10 := by simp; omega
      have b1 : ([u1, u2].map List.length).sum + 2 ≤ 64 := by omega
      have b2 : ([u1.reverse, u2.reverse].map List.length).sum + 2 ≤ 64 := by simp; omega
      have b3 : ([u1.map (rvN L), u2.map (rvN L)].map List.length).sum + 2 ≤ 64 := by simp; omega
      refine ⟨_, rfl, _, rfl, _, rfl, fun x1 dx1 nx1 nd1 _ => mk_listV (ws := [u1, u2]) rfl B9.val hL (Nat.le_of_ble_eq_true rfl) g1 b1 B9.tab nx1 nd1 fun H10 k10 F1 => ?_⟩
      have B10 := B9.kp k10
      refine ⟨_, rfl, _, rfl, u1, rfl, by omega, _, rfl, u2, rfl, by omega, fun x2 dx2 nx2 nd2 _ => mk_listV (ws := [u1.reverse, u2.reverse]) rfl B10.val hL (Nat.le_of_ble_eq_true rfl) g2 b2 B10.tab nx2 nd2 fun H11 k11 F2 => ?_⟩
      have B11 := B10.kp k11
      refine ⟨by show 2 ≤ sizeLine; decide, fun fp nfp => ?_⟩
      have s12 := same_new (o := .lst [V.ref x1, V.ref x2]) nfp
      have hfp : upd H11 fp (.lst [V.ref x1, V.ref x2]) fp = some (.lst [V.ref x1, V.ref x2]) := upd_same
      have B12 := B11.same s12
      have V12 := (V9.extN k10.ext).extN (k11.ext.trans (ExtN.of s12))
      have k12 : Kq TT pn H H11 := k05.trans (k8.trans ((Kq.same s9).trans ((Kq.of k10).trans (Kq.of k11))))
      have k12 := k12.trans (.same s12)
      have F1' := ((F1.kp k11).same s12)
      have F2' := F2.same s12
      generalize upd H11 fp _ = H12 at s12 hfp B12 V12 k12 F1' F2' ⊢
      refine ⟨_, rfl, _, rfl, _, rfl, _, rfl, fun x3 dx3 nx3 nd3 _ => mk_listV (ws := [u1.map (rvN L), u2.map (rvN L)]) rfl V12 hR.hi (Nat.le_of_ble_eq_true rfl) g3 b3 B12.tab nx3 nd3 fun H13 k13 F3 => ?_⟩
      have hfp2 := k13.ext _ _ hfp (fun xs z => by cases z)
      refine ⟨by show 1 ≤ sizeLine; decide, fun gp ngp => ?_⟩
      have s14 := same_new (o := .lst [V.ref x3]) ngp
      have hgp : upd H13 gp (.lst [V.ref x3]) gp = some (.lst [V.ref x3]) := upd_same
      refine ⟨fp, gp, _, _, rfl, rfl, s14 _ _ hfp2, hgp, by show 2 + 1 ≤ sizeLine; decide, fun p np => ?_⟩
      have s15 := sm_trans s14 (same_new (o := .lst [V.ref x1, V.ref x2, V.ref x3]) np)
      refine kk p x1 x2 x3 v' (fun w => decide (spell L w ∈ [u1, u2])) _ (k12.trans ((Kq.of k13).trans (.same s15))) (((B12.kp k13).same s15).pen.mono (by omega)) upd_same ((F1'.kp k13).same s15) (((F2'.kp k13).same s15).congr fun w _ => (list_rev L [u1, u2] w).symm) ((F3.same s15).congr fun w hw => list_rv (ws := [u1, u2]) hA.nd gg hw) (.inr ⟨[u1, u2], b0, fun w _ => rfl⟩)
end
end LW
end
section
set_option Elab.async false
set_option linter.all false
set_option maxRecDepth 100000
set_option maxHeartbeats 2000000
/-! mirrored, renamed, joined -/
namespace LW
open PySem PySem.Spec PyProof.Rows L2 LamX
abbrev st_law_seen_right : Stmt := top 71
theorem sc_law_seen_right : FnScope ["_law_base", "_law_one", "_law_mirrored_so", "_law_sent", "_law_letters_here"] ["_law_base", "_law_one", "_law_mirrored_so", "_law_sent"] (defScope st_law_seen_right) := ⟨rfl, rfl, rfl, by decide +kernel, rfl, by decide +kernel, by decide +kernel⟩
abbrev st_law_joined_right : Stmt := top 72
theorem sc_law_joined_right : FnScope ["_law_one", "_law_other", "_law_both", "_law_some", "_law_many", "_law_due"] ["_law_one", "_law_other"] (defScope st_law_joined_right) := ⟨rfl, rfl, rfl, by decide +kernel, rfl, by decide +kernel, by decide +kernel⟩
def spSeen (c : Cs) : Sp := fun vs H Q _ => ∃ (v q1 q2 q3 v' : Addr) (L : List Nat) (f : List Nat → Bool), vs = [.ref v, .ref q1, .ref q2, .ref q3] ∧ ValO c H v L ∧ Abc L ∧ ClueL c H q1 v L f ∧ ClueL c H q2 v L (fun w => f w.reverse) ∧ ClueL c H q3 v' L.reverse f ∧ KindL L f ∧
  ∀ H', Same H H' → Q (.bl true) H'
def spJoined (c : Cs) : Sp := fun vs H Q _ => ∃ (v q1 q2 : Addr) (L : List Nat) (f g : List Nat → Bool), vs = [.ref q1, .ref q2] ∧ Abc L ∧ ClueL c H q1 v L f ∧ ClueL c H q2 v L g ∧ KindL L f ∧ KindL L g ∧ ∀ H', Same H H' → Q (.bl true) H'
theorem tC1_ok {σ : L2.St} {H : Hp} {v : V} {k : List V → Hp → Prop} (h : k [v] H) : tCons (tC v) tNil σ H k := h
section
variable {P : Program} {w : World} {K : PySem.W.Frag} {mg : Str → Option Value} {base : Heap} {c : Cs} {TT : List (Addr × Str)}
theorem c_law_seen_right (Y : TL P K mg base c TT) : Cal P w K mg base "_law_seen_right" 10 ["_law_base", "_law_one", "_law_mirrored_so", "_law_sent"] (spSeen c) := by
  have Z := Y.Z
  have T := Z.T
  have c_Clue_eq := c_Clue_eq (P := P) (w := w) (base := base) Z
  have c_Clue_neg := c_Clue_neg (P := P) (w := w) (base := base) Z
  have c_Clue_renamed := c_Clue_renamed (P := P) (w := w) (base := base) Z
  have c_Clue_count := c_Clue_count (P := P) (w := w) (base := base) Z
  refine FunG.cal T.f_law_seen_right sc_law_seen_right (fun _ _ _ _ _ _ us hl => match us, hl with | [_, _, _, _], _ => rfl) (fun vs H Q E h => ?_) (fun f cdv A outer s H vs Q E hr h => ?_)
  · obtain ⟨v, q1, q2, q3, v', L, f, rfl, _⟩ := h
    rfl
  · obtain ⟨v, q1, q2, q3, v', L, g, rfl, hv, hA, F1, F2, F3, hk, kk⟩ := h
--TERM _law_seen_right
    refine ⟨_, (pss_cons (ps_set (i := 4) sc_law_seen_right.nd rfl (Or.inl rfl) (pe_fldK K (pv 0)))
  (pss_cons (ps_if (PW.pt (pw_or (pt_cmpR (op_ownNe c_Clue_eq (hr.mono (by decide))) (pe_un (un_ownNeg c_Clue_neg (hr.mono (by decide))) (pv 1)) (pv 2) (nomark _)) (pw_or1 (pt_cmpR (op_ownNe c_Clue_eq (hr.mono (by decide))) (pe_me K c_Clue_renamed (by decide) hr (pv 1) (pa_cons (pe_callTy (call_dictP rfl) (by rfl) T.b_dict bt_dict (pa_cons (pe_listZip K rfl T.b_list T.b_zip (pa_cons (pv 4) (pa_cons (pe_revS (pv 4)) pa_nil))) pa_nil)) pa_nil)) (pv 3) (nomark _))))) (pss_one (ps_ret pe_bl))
  pss_nil)
  (pss_one (ps_ret (pe_and (pe_cmpR op_eq (pe_me K c_Clue_count (by decide) hr (pv 1) (pa_cons pe_int pa_nil)) (pe_me K c_Clue_count (by decide) hr (pv 2) (pa_cons pe_int pa_nil)) (nomark _)) (pe_one (pe_cmpR op_eq (pe_me K c_Clue_count (by decide) hr (pv 1) (pa_cons pe_int pa_nil)) (pe_me K c_Clue_count (by decide) hr (pv 3) (pa_cons pe_int pa_nil)) (nomark _)))))))), ?_⟩
--END
    have hL := hA.hi
    refine ⟨_, rfl, rd_letters Z hv ?_⟩
    refine ⟨_, rfl, rd_neg Z F1 hL (hk.rev.le.le (by decide)) fun qa Ha sa NA => ⟨_, rfl, rd_ne Z NA (F2.same sa) fun b H1 hb sb => ?_⟩⟩
    obtain rfl : b = true := hb.mpr fun w hw => rfl
    refine ⟨_, rfl, iteF ?_⟩
    have s1 := sm_trans sa sb
    refine ⟨_, rfl, rd_ren Z (F1.same s1) ?_⟩
    refine ⟨_, rfl, _, rfl, L, rfl, by omega, .txt (Sg L), .txt (Sg L.reverse), chars (Sg L), chars (Sg L.reverse), rfl, rfl, rfl, ?_⟩
    refine ⟨by rw [chars_S, chars_S, List.length_map, List.length_map, List.length_reverse], by rw [chars_S, List.length_map]; exact Nat.le_of_lt (small5 (by omega)), fun H2 lp ts s2 _ hlp htl hts => ?_⟩
    have htl2 : ts.length = L.length := by rw [htl, chars_S, List.length_map]
    refine ⟨lp, ts, nmsOf (rvN L) L, rfl, SqL.of hlp, pairs_nms hA.nd htl2 hts, fun d nd => ?_⟩
    rw [merge_nms0 (rvN L) hA.nd]
    have s3 : Same H2 (upd H2 d (.dK (nmsOf (rvN L) L))) := same_new nd
    have hd3 : upd H2 d (.dK (nmsOf (rvN L) L)) d = some (.dK (nmsOf (rvN L) L)) := upd_same
    generalize upd H2 d _ = H3 at s3 hd3 ⊢
    have s13 := sm_trans s1 (sm_trans s2 s3)
    refine tNil_ok (rd_renamed Z (F1.same s13) hL hd3 (by rw [rv_map hA.nd]; exact abc_rev hA) fun qr vr H4 s4 RN => ?_)
    rw [rv_map hA.nd] at RN
    have s14 := sm_trans s13 s4
    refine ⟨_, rfl, rd_ne Z RN (F3.same s14) fun b H5 hb s5 => ?_⟩
    obtain rfl : b = true := hb.mpr fun w hw => rfl
    refine ⟨_, rfl, iteF ?_⟩
    have s15 := sm_trans s14 s5
    refine ⟨_, rfl, rd_cnt Z (F1.same s15) ?_⟩
    refine tC1_ok (rd_count (n := 7) Z (F1.same s15) hL (by decide) fun H6 s6 => ?_)
    have s16 := sm_trans s15 s6
    refine ⟨_, rfl, rd_cnt Z (F2.same s16) ?_⟩
    refine tC1_ok (rd_count (n := 7) Z (F2.same s16) hL (by decide) fun H7 s7 => ?_)
    rw [LS.cnt_rev]
    refine ⟨rfl, _, rfl, ?_⟩
    rw [decide_eq_true rfl]
    refine iteT ?_
    have s17 := sm_trans s16 s7
    refine ⟨_, rfl, rd_cnt Z (F1.same s17) ?_⟩
    refine tC1_ok (rd_count (n := 7) Z (F1.same s17) hL (by decide) fun H8 s8 => ?_)
    have s18 := sm_trans s17 s8
    refine ⟨_, rfl, rd_cnt Z (F3.same s18) ?_⟩
    refine tC1_ok (rd_count (n := 7) Z (F3.same s18) (abc_rev hA).hi (by decide) fun H9 s9 => ?_)
    rw [List.length_reverse]
    refine ⟨rfl, ?_⟩
    rw [decide_eq_true rfl]
    exact kk H9 (sm_trans s18 s9)
theorem c_law_joined_right (Y : TL P K mg base c TT) : Cal P w K mg base "_law_joined_right" 10 ["_law_one", "_law_other"] (spJoined c) := by
  have Z := Y.Z
  have T := Z.T
  have c_Clue_eq := c_Clue_eq (P := P) (w := w) (base := base) Z
  have c_Clue_neg := c_Clue_neg (P := P) (w := w) (base := base) Z
  have c_Clue_invert := c_Clue_invert (P := P) (w := w) (base := base) Z
  have c_Clue_and := c_Clue_and (P := P) (w := w) (base := base) Z
  have c_Clue_or := c_Clue_or (P := P) (w := w) (base := base) Z
  have c_Clue_sub := c_Clue_sub (P := P) (w := w) (base := base) Z
  have c_Clue_xor := c_Clue_xor (P := P) (w := w) (base := base) Z
  have c_Clue_within := c_Clue_within (P := P) (w := w) (base := base) Z
  have c_Clue_count := c_Clue_count (P := P) (w := w) (base := base) Z
  refine FunG.cal T.f_law_joined_right sc_law_joined_right (fun _ _ _ _ _ _ us hl => match us, hl with | [_, _], _ => rfl) (fun vs H Q E h => ?_) (fun fa cdv A outer s H vs Q E hr h => ?_)
  · obtain ⟨v, q1, q2, L, f, g, rfl, _⟩ := h
    rfl
  · obtain ⟨v, q1, q2, L, f, g, rfl, hA, F, G, hf, hg, kk⟩ := h
--TERM _law_joined_right
    refine ⟨_, (pss_cons (ps_par (i := 2) (j := 3) rfl sc_law_joined_right.nd rfl rfl (by decide) rfl rfl (pa_cons (pe_op (op_own c_Clue_and (hr.mono (by decide)) (by decide)) (pv 0) (pv 1)) (pa_cons (pe_op (op_own c_Clue_or (hr.mono (by decide)) (by decide)) (pv 0) (pv 1)) pa_nil)) (by rfl))
  (pss_cons (ps_for PassesOwn.never rfl (pi_tupK K (pe_tup (pa_cons pe_int (pa_cons pe_int (pa_cons pe_int (pa_cons pe_int (pa_cons pe_int pa_nil))))))) (pg_name (i := 4) sc_law_joined_right.nd rfl (Or.inl rfl))
  (pss_cons (ps_set (i := 5) sc_law_joined_right.nd rfl (Or.inl rfl) (pe_op op_add (pe_me K c_Clue_count (by decide) hr (pv 0) (pa_cons (pv 4) pa_nil)) (pe_me K c_Clue_count (by decide) hr (pv 1) (pa_cons (pv 4) pa_nil))))
  (pss_cons (ps_if (pt_cmpR op_ne (pe_op op_add (pe_me K c_Clue_count (by decide) hr (pv 3) (pa_cons (pv 4) pa_nil)) (pe_me K c_Clue_count (by decide) hr (pv 2) (pa_cons (pv 4) pa_nil))) (pv 5) (nomark _)) (pss_one (ps_ret pe_bl))
  pss_nil)
  (pss_one (ps_if (pt_cmpR op_ne (pe_me K c_Clue_count (by decide) hr (pe_op (op_own c_Clue_xor (hr.mono (by decide)) (by decide)) (pv 0) (pv 1)) (pa_cons (pv 4) pa_nil)) (pe_op op_sub (pe_me K c_Clue_count (by decide) hr (pv 3) (pa_cons (pv 4) pa_nil)) (pe_me K c_Clue_count (by decide) hr (pv 2) (pa_cons (pv 4) pa_nil))) (nomark _)) (pss_one (ps_ret pe_bl))
  pss_nil)))))
  (pss_cons (ps_if (PW.pt (pw_or (pt_cmpR (op_ownNe c_Clue_eq (hr.mono (by decide))) (pe_un (un_ownInv c_Clue_invert (hr.mono (by decide))) (pv 2)) (pe_op (op_own c_Clue_or (hr.mono (by decide)) (by decide)) (pe_un (un_ownInv c_Clue_invert (hr.mono (by decide))) (pv 0)) (pe_un (un_ownInv c_Clue_invert (hr.mono (by decide))) (pv 1))) (nomark _)) (pw_or (pt_cmpR (op_ownNe c_Clue_eq (hr.mono (by decide))) (pe_un (un_ownNeg c_Clue_neg (hr.mono (by decide))) (pv 2)) (pe_op (op_own c_Clue_and (hr.mono (by decide)) (by decide)) (pe_un (un_ownNeg c_Clue_neg (hr.mono (by decide))) (pv 0)) (pe_un (un_ownNeg c_Clue_neg (hr.mono (by decide))) (pv 1))) (nomark _)) (pw_or1 (pt_cmpR (op_ownNe c_Clue_eq (hr.mono (by decide))) (pe_op (op_own c_Clue_sub (hr.mono (by decide)) (by decide)) (pv 0) (pv 1)) (pe_op (op_own c_Clue_xor (hr.mono (by decide)) (by decide)) (pv 2) (pv 0)) (nomark _)))))) (pss_one (ps_ret pe_bl))
  pss_nil)
  (pss_one (ps_ret (pe_and (pe_me K c_Clue_within (by decide) hr (pv 2) (pa_cons (pv 0) pa_nil)) (pe_and (pe_me K c_Clue_within (by decide) hr (pv 0) (pa_cons (pv 3) pa_nil)) (pe_and (pe_cmpR (op_ownEq c_Clue_eq (hr.mono (by decide))) (pv 2) (pe_op (op_own c_Clue_and (hr.mono (by decide)) (by decide)) (pv 1) (pv 0)) (nomark _)) (pe_one (pe_cmpR (op_ownEq c_Clue_eq (hr.mono (by decide))) (pe_un (un_ownNeg c_Clue_neg (hr.mono (by decide))) (pe_un (un_ownNeg c_Clue_neg (hr.mono (by decide))) (pv 0))) (pv 0) (nomark _))))))))))), ?_⟩
--END
    have hL := hA.hi
    have hn := hA.nd
    have h144 : 12 * 12 ≤ 1000 := by decide
    refine ⟨_, rfl, _, rfl, rd_op2 (r := .and) Z (fun C hC => (Z.cc C hC).and) (by decide) F G hL hf.le hg.le h144 (hf.join hn hg _) fun qb H1 s1 BO => ?_⟩
    refine ⟨_, rfl, _, rfl, rd_op2 (r := .or) Z (fun C hC => (Z.cc C hC).or) (by decide) (F.same s1) (G.same s1) hL hf.le hg.le h144 (hf.join hn hg _) fun qs H2 s2 SO => ⟨_, _, rfl, ?_⟩⟩
    have s02 := sm_trans s1 s2
    have BO2 := BO.same s2
    -- numbers of words
    refine ⟨by show 5 ≤ sizeLine; decide, fun tp ntp => ?_⟩
    have s3 : Same H2 (upd H2 tp (.tup [nV 0, nV 1, nV 2, nV 5, nV 40])) := same_new ntp
    have htp : upd H2 tp (.tup [nV 0, nV 1, nV 2, nV 5, nV 40]) tp = some (.tup [nV 0, nV 1, nV 2, nV 5, nV 40]) := upd_same
    refine ⟨tp, rfl, ⟨_, SqT.of htp⟩, for_tup (K := K) (xs := [nV 0, nV 1, nV 2, nV 5, nV 40]) (fun i σ' H' => ∃ v4 v5 : Option V, σ' = [some (.ref q1), some (.ref q2), some (.ref qb), some (.ref qs), v4, v5] ∧ Same (upd H2 tp (.tup [nV 0, nV 1, nV 2, nV 5, nV 40])) H') ⟨none, none, rfl, Same.refl _⟩ (fun i σ' H' _ ⟨_, _, _, z⟩ => SqT.of (z _ _ htp)) ?_ ?_⟩
    · rintro i x σ' Ha hx ⟨v4, v5, rfl, sm⟩
      obtain ⟨many, rfl, hm⟩ : ∃ many : Nat, x = nV many ∧ many ≤ 1000 := by
        have := List.mem_of_getElem? hx
        simp only [List.mem_cons, List.not_mem_nil, or_false] at this
        rcases this with rfl | rfl | rfl | rfl | rfl
        · exact ⟨0, rfl, by decide⟩
        · exact ⟨1, rfl, by decide⟩
        · exact ⟨2, rfl, by decide⟩
        · exact ⟨5, rfl, by decide⟩
        · exact ⟨40, rfl, by decide⟩
      have s2a := sm_trans s3 sm
      have s0a := sm_trans s02 s2a
      have e1 : LS.cnt L.length many (fun w => Rule.or.f (f w) (g w)) + LS.cnt L.length many (fun w => Rule.and.f (f w) (g w)) = LS.cnt L.length many f + LS.cnt L.length many g := LS.cnt_or L.length many f g
      have e2 : LS.cnt L.length many (fun w => Rule.one.f (f w) (g w)) + LS.cnt L.length many (fun w => Rule.and.f (f w) (g w)) = LS.cnt L.length many (fun w => Rule.or.f (f w) (g w)) := LS.cnt_xor L.length many f g
      refine ⟨_, rfl, rd_cnt Z (F.same s0a) ⟨_, rfl, tNil_ok (rd_count Z (F.same s0a) hL hm fun Hb sb => ?_)⟩⟩
      have s0b := sm_trans s0a sb
      refine ⟨_, rfl, rd_cnt Z (G.same s0b) ⟨_, rfl, tNil_ok (rd_count Z (G.same s0b) hL hm fun Hc sc => ⟨_, _, rfl, rfl, ?_⟩)⟩⟩
      have s2c := sm_trans s2a (sm_trans sb sc)
      refine ⟨_, rfl, rd_cnt Z (SO.same s2c) ⟨_, rfl, tNil_ok (rd_count Z (SO.same s2c) hL hm fun Hd sd => ?_)⟩⟩
      have s2d := sm_trans s2c sd
      refine ⟨_, rfl, rd_cnt Z (BO2.same s2d) ⟨_, rfl, tNil_ok (rd_count Z (BO2.same s2d) hL hm fun He se => ⟨_, _, rfl, rfl, _, rfl, rfl, _, rfl, ?_⟩)⟩⟩
      have s2e := sm_trans s2d se
      have d1 : ∀ a b a' b' : Nat, a + b = a' + b' → decide (V.int ((a : Int) + (b : Int)) = V.int ((a' : Int) + (b' : Int))) = true := fun a b a' b' h => decide_eq_true (by congr 1; omega)
      rw [d1 _ _ _ _ e1]
      refine iteF ?_
      have s0e := sm_trans s02 s2e
      refine ⟨_, rfl, _, rfl, rd_op2 (r := .one) Z (fun C hC => (Z.cc C hC).xor) (by decide) (F.same s0e) (G.same s0e) hL hf.le hg.le h144 (hf.join hn hg _) fun qx Hf sf XO => ?_⟩
      refine rd_cnt Z XO ⟨_, rfl, tNil_ok (rd_count Z XO hL hm fun Hg sg => ?_)⟩
      have s2g := sm_trans s2e (sm_trans sf sg)
      refine ⟨_, rfl, rd_cnt Z (SO.same s2g) ⟨_, rfl, tNil_ok (rd_count Z (SO.same s2g) hL hm fun Hh sh => ?_)⟩⟩
      have s2h := sm_trans s2g sh
      refine ⟨_, rfl, rd_cnt Z (BO2.same s2h) ⟨_, rfl, tNil_ok (rd_count Z (BO2.same s2h) hL hm fun Hi si => ⟨_, _, rfl, rfl, rfl, _, rfl, ?_⟩)⟩⟩
      have d2 : ∀ a b d : Nat, a + b = d → decide (V.int (a : Int) = V.int ((d : Int) - (b : Int))) = true := fun a b d h => decide_eq_true (by congr 1; omega)
      rw [d2 _ _ _ e2]
      refine iteF ?_
      exact ⟨_, _, rfl, sm_trans sm (sm_trans sb (sm_trans sc (sm_trans sd (sm_trans se (sm_trans sf (sm_trans sg (sm_trans sh si)))))))⟩
    rintro σ' H4 ⟨v4, v5, rfl, s4⟩
    have s24 := sm_trans s3 s4
    have F4 := F.same (sm_trans s02 s24)
    have G4 := G.same (sm_trans s02 s24)
    have BO4 := BO2.same s24
    have SO4 := SO.same s24
    have s04 := sm_trans s02 s24
    clear s3 htp s4 s24
    -- joining keeps its rules
    refine ⟨_, rfl, rd_inv Z BO4 hL fun qa Ha sa N1 => ⟨_, rfl, rd_inv Z (F4.same sa) hL fun q3 Hb sb N2 => ⟨_, rfl, rd_inv Z (G4.same (sm_trans sa sb)) hL fun q4 Hc sc N3 => ?_⟩⟩⟩
    have z1 : ∀ w, LS.Wd L.length w → Rule.or.f (!f w) (!g w) = !Rule.and.f (f w) (g w) := fun w _ => by
      cases f w <;> cases g w <;> rfl
    refine rd_op2 (r := .or) Z (fun C hC => (Z.cc C hC).or) (by decide) (N2.same sc) N3 hL hf.le.not hg.le.not h144 ((hf.join hn hg Rule.and.f).not.congr fun w hw => (z1 w hw).symm) fun q5 Hd sd OR => rd_ne Z (N1.same (sm_trans sb (sm_trans sc sd))) OR fun b H5 hb se => ?_
    obtain rfl : b = true := hb.mpr fun w hw => (z1 w hw).symm
    refine ⟨_, rfl, iteF ?_⟩
    have s5 := sm_trans sa (sm_trans sb (sm_trans sc (sm_trans sd se)))
    refine ⟨_, rfl, rd_neg Z (BO4.same s5) hL (hf.rev.join hn hg.rev Rule.and.f) fun qa Ha sa N1 => ⟨_, rfl, rd_neg Z (F4.same (sm_trans s5 sa)) hL (hf.rev.le.le (by decide)) fun q3 Hb sb N2 => ⟨_, rfl, rd_neg Z (G4.same (sm_trans s5 (sm_trans sa sb))) hL (hg.rev.le.le (by decide)) fun q4 Hc sc N3 => ?_⟩⟩⟩
    refine rd_op2 (r := .and) Z (fun C hC => (Z.cc C hC).and) (by decide) (N2.same sc) N3 hL hf.rev.le hg.rev.le h144 (hf.rev.join hn hg.rev _) fun q5 Hd sd OR => rd_ne Z (N1.same (sm_trans sb (sm_trans sc sd))) OR fun b H6 hb se => ?_
    obtain rfl : b = true := hb.mpr fun w hw => rfl
    refine ⟨_, rfl, iteF ?_⟩
    have s6 := sm_trans s5 (sm_trans sa (sm_trans sb (sm_trans sc (sm_trans sd se))))
    have z2 : ∀ w, LS.Wd L.length w → Rule.one.f (Rule.and.f (f w) (g w)) (f w) = Rule.less.f (f w) (g w) := fun w _ => by
      cases f w <;> cases g w <;> rfl
    refine ⟨_, rfl, _, rfl, rd_op2 (r := .less) Z (fun C hC => (Z.cc C hC).sub) (by decide) (F4.same s6) (G4.same s6) hL hf.le hg.le h144 (hf.join hn hg _) fun qa Ha sa LE => ?_⟩
    refine ⟨_, rfl, _, rfl, rd_op2 (r := .one) Z (fun C hC => (Z.cc C hC).xor) (by decide) (BO4.same (sm_trans s6 sa)) (F4.same (sm_trans s6 sa)) hL (hf.join hn hg Rule.and.f) hf.le (by decide) ((hf.join hn hg Rule.less.f).congr fun w hw => (z2 w hw).symm) fun q5 Hb sb XO => rd_ne Z (LE.same sb) XO fun b H7 hb sc => ?_⟩
    obtain rfl : b = true := hb.mpr fun w hw => (z2 w hw).symm
    refine ⟨_, rfl, iteF ?_⟩
    have s7 := sm_trans s6 (sm_trans sa (sm_trans sb sc))
    refine ⟨_, rfl, rd_wit Z (BO4.same s7) ⟨_, rfl, tNil_ok (rd_within Z (BO4.same s7) (F4.same s7) hL fun b H8 hb sa => ?_)⟩⟩
    obtain rfl : b = true := hb.mpr fun w hw h => (Bool.and_eq_true_iff.mp h).1
    refine ⟨_, rfl, iteT ?_⟩
    have s8 := sm_trans s7 sa
    refine ⟨_, rfl, rd_wit Z (F4.same s8) ⟨_, rfl, tNil_ok (rd_within Z (F4.same s8) (SO4.same s8) hL fun b H9 hb sa => ?_)⟩⟩
    obtain rfl : b = true := hb.mpr fun w hw h => by
      show (f w || g w) = true
      rw [h] <;> rfl
    refine ⟨_, rfl, iteT ?_⟩
    have s9 := sm_trans s8 sa
    refine ⟨_, rfl, _, rfl, _, rfl, rd_op2 (r := .and) Z (fun C hC => (Z.cc C hC).and) (by decide) (G4.same s9) (F4.same s9) hL hg.le hf.le h144 (hg.join hn hf _) fun qa Ha sa AN => rd_eq Z (BO4.same (sm_trans s9 sa)) AN fun b H10 hb sb => ?_⟩
    obtain rfl : b = true := hb.mpr fun w hw => Bool.and_comm _ _
    refine ⟨_, rfl, iteT ?_⟩
    have s10 := sm_trans s9 (sm_trans sa sb)
    refine ⟨_, rfl, rd_neg Z (F4.same s10) hL (hf.rev.le.le (by decide)) fun qa Ha sa N1 => rd_neg Z N1 hL ((hf.le.le (by decide)).congr fun w _ => by show f w = f w.reverse.reverse; rw [List.reverse_reverse]) fun q3 Hb sb N2 => ⟨_, rfl, rd_eq Z N2 (F4.same (sm_trans s10 (sm_trans sa sb))) fun b H11 hb sc => ?_⟩⟩
    obtain rfl : b = true := hb.mpr fun w _ => by show f w.reverse.reverse = f w; rw [List.reverse_reverse]
    exact kk H11 (sm_trans s04 (sm_trans s10 (sm_trans sa (sm_trans sb sc))))
end
end LW
end
section
set_option Elab.async false
set_option linter.all false
set_option maxRecDepth 100000
set_option maxHeartbeats 2000000
/-! the law -/
namespace LW
open PySem PySem.Spec PyProof.Rows L2 LamX
abbrev st_law : Stmt := top 73
theorem sc_law : FnScope ["_law_script", "_law_pen_here", "_law_turn", "_law_base", "_law_one", "_law_mirrored_so", "_law_sent"] ["_law_script"] (defScope st_law) := ⟨rfl, rfl, rfl, by decide +kernel, rfl, by decide +kernel, by decide +kernel⟩
def spLaw (K : PySem.W.Frag) (TT : List (Addr × Str)) : Sp := fun vs H Q _ => ∃ (sc : Addr) (xs : List Int), vs = [.ref sc] ∧ SqL K H sc (xs.map V.int) ∧ xs.length ≤ 63 ∧ Tabs TT H ∧ ∀ H', Q (.bl true) H'
section
variable {P : Program} {w : World} {K : PySem.W.Frag} {mg : Str → Option Value} {base : Heap} {c : Cs} {TT : List (Addr × Str)}
theorem c_law {f0 : Addr} {fd : FuncData} (Y : TL P K mg base c TT) (F0 : Fun K "law" "law" (top 73) f0 fd) : FnOk P w K mg base CX0 11 f0 fd ["_law_script"] (spLaw K TT) := by
  have Z := Y.Z
  have T := Z.T
  have c_Values_init := c_Values_init (P := P) (w := w) (base := base) Z
  have c_law_pen := c_law_pen (P := P) (w := w) (base := base) T
  have c_law_letters := c_law_letters (P := P) (w := w) (base := base) T
  have c_law_marks_right := c_law_marks_right (P := P) (w := w) (base := base) Y
  have c_law_parts_right := c_law_parts_right (P := P) (w := w) (base := base) Y
  have c_law_kinds := c_law_kinds (P := P) (w := w) (base := base) Y
  have c_law_seen_right := c_law_seen_right (P := P) (w := w) (base := base) Y
  have c_law_joined_right := c_law_joined_right (P := P) (w := w) (base := base) Y
  refine F0.ok sc_law (fun vs H Q E h => ?_) (fun cdv A outer s H vs Q E hr h => ?_)
  · obtain ⟨sc, xs, rfl, _⟩ := h
    rfl
  · obtain ⟨sc, xs, rfl, hs, hx, hT, kk⟩ := h
--TERM law
    refine ⟨_, (pss_cons (ps_set (i := 1) sc_law.nd rfl (Or.inl rfl) (pe_cal c_law_pen (by decide) hr (pa_cons (pv 0) pa_nil)))
  (pss_cons (ps_for PassesOwn.never rfl (pi_range1 rfl T.b_range (pa_cons pe_int pa_nil)) (pg_name (i := 2) sc_law.nd rfl (Or.inl rfl))
  (pss_cons (ps_set (i := 3) sc_law.nd rfl (Or.inl rfl) (pe_mkR Z.mk_vals c_Values_init (by decide) hr rfl Z.g_Values (pa_cons (pe_cal c_law_letters (by decide) hr (pa_cons (pv 1) pa_nil)) pa_nil)))
  (pss_cons (ps_if (PW.pt (pw_or (pt_not (pt_val (pe_cal c_law_marks_right (by decide) hr (pa_cons (pv 1) (pa_cons (pv 3) pa_nil))))) (pw_or1 (pt_not (pt_val (pe_cal c_law_parts_right (by decide) hr (pa_cons (pv 1) (pa_cons (pv 3) pa_nil)))))))) (pss_one (ps_ret pe_bl))
  pss_nil)
  (C8.pss_cut (ps_asg (pe_cal c_law_kinds (by decide) hr (pa_cons (pv 1) (pa_cons (pv 3) pa_nil))) (pg_lstK K (n := 3) (pgs_cons (pg_name (i := 4) sc_law.nd rfl (Or.inl rfl)) (pgs_cons (pg_name (i := 5) sc_law.nd rfl (Or.inl rfl)) (pgs_cons (pg_name (i := 6) sc_law.nd rfl (Or.inl rfl)) pgs_nil)))))
  (pss_cons (ps_if (pt_not (pt_val (pe_cal c_law_seen_right (by decide) hr (pa_cons (pv 3) (pa_cons (pv 4) (pa_cons (pv 5) (pa_cons (pv 6) pa_nil))))))) (pss_one (ps_ret pe_bl))
  pss_nil)
  (pss_one (ps_if (pt_not (pt_val (pe_cal c_law_joined_right (by decide) hr (pa_cons (pv 4) (pa_cons (pe_ix (ix_listK K) (pe_cal c_law_kinds (by decide) hr (pa_cons (pv 1) (pa_cons (pv 3) pa_nil))) pe_int (fun _ _ => rfl)) pa_nil))))) (pss_one (ps_ret pe_bl))
  pss_nil)))))))
  (pss_one (ps_ret pe_bl)))), ?_⟩
--END
    refine ⟨_, rfl, sc, xs, rfl, hs, hx, fun pn ls H0 s0 _ _ hp0 => ?_⟩
    have T0 := hT.ext s0
    refine ⟨3, rfl, by decide, by decide, ?_⟩
    refine for_it (walk_range (lo := 0) (n := 3)) (fun i σ' H' => ∃ v2 v3 v4 v5 v6 : Option V, σ' = [some (.ref sc), some (.ref pn), v2, v3, v4, v5, v6] ∧ PenO H' pn ls (100 * i) ∧ Tabs TT H') ⟨none, none, none, none, none, rfl, hp0, T0⟩ (fun _ _ _ _ _ => True.intro) ?_ ?_
    · rintro i y σ' Ha Ha' hi ⟨v2, v3, v4, v5, v6, rfl, hp, hTa⟩ ⟨rfl, ey⟩
      have hi3 : 100 * i ≤ 200 := by omega
      -- two to four letters
      refine ⟨_, rfl, pn, ls, 100 * i, rfl, hp, by omega, fun L H1 hA sx1 hp1 => ?_⟩
      have T1 := (hp.dq (TT := TT) sx1).tab hTa
      intro v dx n1 n2 hne
      refine ⟨v, dx, L, rfl, upd_same, hA, fun H2 sx hx' => ⟨rfl, ?_⟩⟩
      have s2 : Same H1 H2 := made_same (Same.refl H1) n1 n2 sx
      have B2 : Bs c TT H2 pn ls (100 * i + 1) v L := ⟨hp1.kp (TT := TT) (.of s2), ⟨dx, hx'⟩, T1.ext s2⟩
      refine ⟨_, rfl, _, rfl, pn, ls, v, 100 * i + 1, L, rfl, B2, hA, by omega, fun H3 k3 hp3 => ⟨_, rfl, iteF ?_⟩⟩
      have B3 := B2.kq k3 hp3
      refine ⟨_, rfl, _, rfl, pn, ls, v, 100 * i + 1 + 20, L, rfl, B3, hA, by omega, fun H4 k4 hp4 => ⟨_, rfl, iteF ?_⟩⟩
      have B4 := B3.kq k4 hp4
      -- a kind of clue
      refine ⟨fun σ5 H5 => ∃ (q1 q2 q3 v' : Addr) (f : List Nat → Bool), σ5 = [some (.ref sc), some (.ref pn), some y, some (.ref v), some (.ref q1), some (.ref q2), some (.ref q3)] ∧ Bs c TT H5 pn ls (100 * i + 61) v L ∧ ClueL c H5 q1 v L f ∧ ClueL c H5 q2 v L (fun w => f w.reverse) ∧ ClueL c H5 q3 v' L.reverse f ∧ KindL L f, ?_, ?_⟩
      · refine ⟨_, rfl, _, rfl, pn, ls, v, 100 * i + 1 + 20 + 20, L, rfl, B4, hA, by omega, fun p q1 q2 q3 v' f H5 k5 hp5 hl F1 F2 F3 hf => ⟨p, _, rfl, SqL.of hl, rfl, _, _, rfl, _, _, rfl, _, _, rfl, rfl, ?_⟩⟩
        exact ⟨q1, q2, q3, v', f, rfl, B4.kq k5 (hp5.mono (by omega)), F1, F2, F3, hf⟩
      rintro σ5 H5 ⟨q1, q2, q3, v', f, rfl, B5, F1, F2, F3, hf⟩
      refine ⟨_, rfl, _, rfl, _, rfl, _, rfl, v, q1, q2, q3, v', L, f, rfl, B5.val, hA, F1, F2, F3, hf, fun H6 s6 => ⟨_, rfl, iteF ?_⟩⟩
      have B6 := B5.same s6
      -- another one
      refine ⟨_, rfl, _, rfl, _, rfl, pn, ls, v, 100 * i + 61, L, rfl, B6, hA, by omega, fun p g1 g2 g3 v2' g H7 k7 hp7 hl G1 _ _ hg => ?_⟩
      refine ⟨p, _, _, V.ref g1, rfl, rfl, SqL.of hl, atI_nat (j := 0) rfl, ?_⟩
      have B7 := B6.kq k7 hp7
      refine ⟨v, q1, g1, L, f, g, rfl, hA, (F1.same s6).kq B6.pen k7, G1, hf, hg, fun H8 s8 => ⟨_, rfl, iteF ?_⟩⟩
      have B8 := B7.same s8
      exact ⟨_, _, _, _, _, rfl, B8.pen.mono (by omega), B8.tab⟩
    rintro σ' H9 ⟨v2, v3, v4, v5, v6, rfl, _, _⟩
    exact kk H9
end
end LW
end
section
set_option Elab.async false
set_option linter.all false
set_option maxRecDepth 100000
set_option maxHeartbeats 2000000
/-! the head: the law's facts from what is told -/
namespace LW
open PySem PySem.Spec PyProof.Rows L2 LamX He
section
variable {K : PySem.W.Frag} {h : Heap} {mg : Str → Option Value}
structure OkAll (K : PySem.W.Frag) : Prop where
  glo : okGlo K = true
  free : okFree K = true
  int : okInt K = true
  fns : okFns K = true
  cls : okCls K = true
  clu : okClu K = true
  bin : okBin K = true
  misc : okMisc K = true
  knd : okKnd K = true
  tab : okTab K = true
theorem SaysL.all (c : SaysL h K) : OkAll K := by
  obtain ⟨h1, e⟩ := ba c.ok
  obtain ⟨h2, e⟩ := ba e
  obtain ⟨h3, e⟩ := ba e
  obtain ⟨h4, e⟩ := ba e
  obtain ⟨h5, e⟩ := ba e
  obtain ⟨h6, e⟩ := ba e
  obtain ⟨h7, e⟩ := ba e
  obtain ⟨h8, e⟩ := ba e
  obtain ⟨h9, h10⟩ := ba e
  exact ⟨h1, h2, h3, h4, h5, h6, h7, h8, h9, h10⟩
theorem OkAll.gf (c : OkAll K) (X : K.In h) (G : h.Ns mainGlobals mg) (i : Nat) {x : Str} {j : Nat} (hi : fnNames[i]? = some (x, j) := by rfl) : mg x = some (.ref (ga K x)) :=
  glo_ok X G (List.all_eq_true.mp (ba c.glo).1 (x, j) (List.mem_of_getElem? hi))
theorem OkAll.gc (c : OkAll K) (X : K.In h) (G : h.Ns mainGlobals mg) (i : Nat) {x : Str} (hi : clsNames[i]? = some x := by rfl) : mg x = some (.ref (ga K x)) :=
  glo_ok X G (List.all_eq_true.mp (ba c.glo).2 x (List.mem_of_getElem? hi))
theorem OkAll.fr (c : OkAll K) (X : K.In h) (G : h.Ns mainGlobals mg) (i : Nat) {x : Str} (hi : freeNames[i]? = some x := by rfl) : mg x = none :=
  free_ok X G (List.all_eq_true.mp c.free x (List.mem_of_getElem? hi))
theorem OkAll.it (c : OkAll K) (X : K.In h) (G : h.Ns mainGlobals mg) (i : Nat) {x : Str} {n : Int} (hi : intNames[i]? = some (x, n) := by rfl) : ∃ t, mg x = some (.int n t) :=
  int_ok X G (List.all_eq_true.mp (ba c.int).1 (x, n) (List.mem_of_getElem? hi))
theorem SaysL.fun_at (c : SaysL h K) (c2 : OkAll K) {at_ : Str × Option Str} {x qual : Str} {st : Stmt} (hd : (⟨at_, x, qual, defArgs st, defBody st, defScope st⟩ : FnD) ∈ fnd) : ∃ fd, Fun K x qual st (fAd K at_) fd := by
  have e := List.map_inj_left.mp c.fns _ hd
  obtain ⟨k1, k2⟩ := ba (List.all_eq_true.mp c2.fns _ hd)
  obtain ⟨oc, od, osl, kV, doc, pm, an, cdv, ct, lk, hc⟩ := fn_ok e k1
  exact ⟨_, fun_mk lk hc k2⟩
theorem SaysL.funG (c : SaysL h K) (c2 : OkAll K) (X : K.In h) (G : h.Ns mainGlobals mg) (i : Nat) {x : Str} {j : Nat} (hi : fnNames[i]? = some (x, j) := by rfl) : FunG K mg x (top j) := by
  obtain ⟨fd, F⟩ := c.fun_at c2 (at_ := (x, none)) (x := x) (qual := x) (st := top j) (List.mem_append_left _ (List.mem_map.mpr ⟨(x, j), List.mem_of_getElem? hi, rfl⟩))
  exact ⟨ga K x, fd, c2.gf X G i hi, F⟩
theorem SaysL.funM (c : SaysL h K) (c2 : OkAll K) (i : Nat) {C m q : Str} {a b : Nat} (hi : metNames[i]? = some (C, m, a, b) := by rfl) (hq : C ++ "." ++ m = q := by decide +kernel) : FunM K m q (meth a b) (ma K (ga K C) m) := by
  subst hq
  exact c.fun_at c2 (at_ := (C, some m)) (x := m) (qual := C ++ "." ++ m) (st := meth a b) (List.mem_append_right _ (List.mem_map.mpr ⟨(C, m, a, b), List.mem_of_getElem? hi, rfl⟩))
/-! ### the looks read -/
theorem meth_of {C f : Addr} {m : Str} (e : methB K C m f = true) : Meth K C m f := by
  obtain ⟨h1, e⟩ := ba e
  obtain ⟨h2, h3⟩ := ba e
  exact ⟨eqO_ok h1, h2, h3⟩
theorem sp1_of {C f : Addr} {m : Str} (e : sp1B K C m f = true) : Sp1 K C f m := by
  obtain ⟨h1, h2⟩ := ba e
  exact ⟨eqO_ok h1, h2⟩
theorem mk_of {C f : Addr} (e : mkB K C f = true) : Mk K C f := by
  obtain ⟨h1, e⟩ := ba e
  obtain ⟨h2, e⟩ := ba e
  obtain ⟨h3, h4⟩ := ba e
  exact ⟨h1, eqO_ok h2, h3, h4⟩
theorem cl1_of {C : Addr} (e : clsB K C = true) : Cl1 K C := by
  obtain ⟨h1, e⟩ := ba e
  obtain ⟨h2, e⟩ := ba e
  obtain ⟨h3, e⟩ := ba e
  obtain ⟨h4, e⟩ := ba e
  obtain ⟨h5, e⟩ := ba e
  obtain ⟨h6, h7⟩ := ba e
  exact ⟨⟨h1, h2, h3, eqO_ok h4⟩, eqO_ok h5, of_decide_eq_true h6, fun f hf => eqO_ok (List.all_eq_true.mp h7 f hf)⟩
theorem clc_of {c : Cs} {C : Addr} (q : Cl1 K C) (e : clueB K c C = true) : ClC K c C := by
  obtain ⟨h1, e⟩ := ba e
  obtain ⟨h2, e⟩ := ba e
  obtain ⟨h3, e⟩ := ba e
  obtain ⟨h4, e⟩ := ba e
  obtain ⟨h5, e⟩ := ba e
  obtain ⟨h6, e⟩ := ba e
  obtain ⟨h7, e⟩ := ba e
  obtain ⟨h8, e⟩ := ba e
  obtain ⟨h9, e⟩ := ba e
  obtain ⟨h10, e⟩ := ba e
  obtain ⟨h11, e⟩ := ba e
  obtain ⟨h12, e⟩ := ba e
  obtain ⟨h13, h14⟩ := ba e
  exact ⟨meth_of h1, meth_of h2, meth_of h3, meth_of h4, sp1_of h5, sp1_of h6, sp1_of h7, sp1_of h8, sp1_of h9, sp1_of h10, sp1_of h11, sp1_of h12, ⟨eqO_ok h13, q.hm⟩, of_decide_eq_true h14⟩
theorem most_of {C : Addr} (e : mostB K C = true) : ∃ mc u, ClX.CRead K C mc ∧ ClX.CVal K C mc "MOST" (.int 4) u := by
  obtain ⟨h1, e⟩ := ba e
  obtain ⟨h2, h3⟩ := ba e
  cases q : PySem.W.findCls K (.ref C) (.type "type") "MOST" with
  | none =>
    rw [q] at h3
    cases h3
  | some r =>
    rw [q] at h3
    cases r with
    | val u => exact ⟨.type "type", u, ⟨h1, eqO_ok h2⟩, ⟨q, relB_ok h3⟩⟩
    | _ => cases h3
/-! ### a kind's __init__ -/
/-- what super() finds there, and the def -/
structure KndI (K : PySem.W.Frag) (x : Str) (st : Stmt) (C f f2 : Addr) (dV : Value) : Prop where
  ex : ∃ (cda cc : Addr) (oc : Value) (od : Option Addr) (osl : Array (Option Value)) (kV doc pm : Value) (an : Option Addr) (ct : Value),
    K.lookup f = some ⟨oc, od, .func (fnS "__init__" (x ++ "." ++ "__init__") (defArgs st) (defBody st) (defScope st) dV kV doc pm an (.ref cda) ct cc), osl⟩ ∧ PySem.W.codeIn K (.ref cda) (x ++ "." ++ "__init__") = true ∧
      (∃ ccl cdd vs ccs file tf, K.lookup cda = some ⟨ccl, cdd, .fields vs, ccs⟩ ∧ vs[2]? = some (.str file tf) ∧ (mainFile == file) = true) ∧ ∃ cl cld csl, K.lookup cc = some ⟨cl, cld, .cell (some (.ref C)), csl⟩
  mak : Mk K C f
  cls : ∃ cd, PySem.W.clsIn K C = some cd ∧ PySem.W.alongIn K "__init__" ((cd.mro.dropWhile (· != .ref C)).drop 1) = some (some (.ref f2))
  sub : PySem.W.mroIn K C (.ref C) = some true
theorem knd_of {x : Str} {i : Nat} {C f2 : Addr} (e : kObs K x = kVal x i) (b : kindB K C (ma K (ga K x) "__init__") f2 (x ++ "." ++ "__init__") = true) : ∃ dV, KndI K x (meth i 0) C (ma K (ga K x) "__init__") f2 dV ∧ ∃ o, K.lookup (ma K (ga K x) "__init__") = some o ∧ ∃ fd, o.data = .func fd ∧ fd.defaults = dV := by
  obtain ⟨b1, b⟩ := ba b
  obtain ⟨b2, b⟩ := ba b
  obtain ⟨b3, b4⟩ := ba b
  unfold kObs at e
  cases q : K.lookup (ma K (ga K x) "__init__") with
  | none =>
    rw [q] at b2
    cases b2
  | some o =>
    obtain ⟨oc, od, dt, osl⟩ := o
    rw [q] at b2 e
    cases dt with
    | func fd =>
      obtain ⟨n1, n2, n3, n4, n5, n6, n7, n8, n9, n10, n11, n12, n13, n14, n15⟩ := fd
      have e2 : (some (n1, n2, n3, n4, n5, n6, n7.map (·.1), n15) : KnV) = some (("__init__" : Str), x ++ "." ++ "__init__", defArgs (meth i 0), FuncBody.stmts (defBody (meth i 0)), defScope (meth i 0), mainGlobals, (["__class__"] : List Str), builtinsNs) := e
      simp only [Option.some.injEq, Prod.mk.injEq] at e2
      obtain ⟨h1, h2, h3, h4, h5, h6, h7, h8⟩ := e2
      subst h1 h2 h3 h4 h5 h6 h8
      obtain ⟨g1, g⟩ := ba b2
      obtain ⟨g2, g3⟩ := ba g
      match n7, g2, h7 with
      | [], g2, _ => cases g2
      | _ :: _ :: _, g2, _ => cases g2
      | [(nm, cc)], g2, h7 =>
        have hn : nm = "__class__" := (List.cons.inj h7).1
        subst hn
        have g2' : (match K.lookup cc with
          | some ⟨_, _, .cell (some (.ref D)), _⟩ => decide (D = C)
          | _ => false) = true := g2
        cases q2 : K.lookup cc with
        | none =>
          rw [q2] at g2'
          cases g2'
        | some o2 =>
          obtain ⟨oc2, od2, dt2, osl2⟩ := o2
          rw [q2] at g2'
          cases dt2 with
          | cell v =>
            cases v with
            | none => cases g2'
            | some v =>
              cases v with
              | ref D =>
                have eD : D = C := of_decide_eq_true g2'
                subst eD
                have g1' : PySem.W.codeIn K n13 (x ++ "." ++ "__init__") = true := g1
                obtain ⟨cda, rfl⟩ := codeIn_ref g1'
                have g3' : (match K.lookup cda with
                  | some ⟨_, _, .fields vs, _⟩ => (match (vs[2]? : Option Value) with
                    | some (.str file _) => mainFile == file
                    | _ => false)
                  | _ => false) = true := g3
                cases q3 : K.lookup cda with
                | none =>
                  rw [q3] at g3'
                  cases g3'
                | some o3 =>
                  obtain ⟨oc3, od3, dt3, osl3⟩ := o3
                  rw [q3] at g3'
                  cases dt3 with
                  | fields vs =>
                    have g4 : (match (vs[2]? : Option Value) with
                      | some (.str file _) => mainFile == file
                      | _ => false) = true := g3'
                    cases q4 : (vs[2]? : Option Value) with
                    | none =>
                      rw [q4] at g4
                      cases g4
                    | some v4 =>
                      rw [q4] at g4
                      cases v4 with
                      | str file tf =>
                        refine ⟨n8, ⟨⟨cda, cc, oc, od, osl, n9, n10, n11, n12, n14, q, g1', ⟨oc3, od3, vs, osl3, file, tf, q3, q4, g4⟩, ⟨oc2, od2, osl2, q2⟩⟩, mk_of b1, ?_, of_decide_eq_true b4⟩, ⟨_, rfl, _, rfl, rfl⟩⟩
                        cases q5 : PySem.W.clsIn K D with
                        | none =>
                          rw [q5] at b3
                          cases b3
                        | some cd =>
                          rw [q5] at b3
                          exact ⟨cd, rfl, eqO_ok b3⟩
                      | _ => cases g4
                  | _ => cases g3'
              | _ => cases g2'
          | _ => cases g2'
    | _ => cases b2
theorem dfl0_of {f : Addr} {o : Obj} {fd : FuncData} (e : dfl0 K f = true) (l : K.lookup f = some o) (d : o.data = .func fd) : fd.defaults = .none := by
  unfold dfl0 at e
  obtain ⟨oc, od, dt, osl⟩ := o
  have d' : dt = .func fd := d
  subst d'
  rw [l] at e
  have e2 : (match fd.defaults with
    | .none => true
    | _ => false) = true := e
  cases q : fd.defaults with
  | none => rfl
  | _ =>
    rw [q] at e2
    cases e2
theorem dfl1_of {f : Addr} {o : Obj} {fd : FuncData} (e : dfl1 K f = true) (l : K.lookup f = some o) (d : o.data = .func fd) : ∃ T0 u cl dd nn sl, fd.defaults = .ref T0 ∧ K.lookup T0 = some ⟨cl, dd, .seq #[u] nn, sl⟩ := by
  unfold dfl1 at e
  obtain ⟨oc, od, dt, osl⟩ := o
  have d' : dt = .func fd := d
  subst d'
  rw [l] at e
  have e2 : (match fd.defaults with
    | .ref T => (match K.lookup T with
      | some ⟨_, _, .seq its _, _⟩ => its.size == 1
      | _ => false)
    | _ => false) = true := e
  cases q : fd.defaults with
  | ref T =>
    rw [q] at e2
    have e3 : (match K.lookup T with
      | some ⟨_, _, .seq its _, _⟩ => its.size == 1
      | _ => false) = true := e2
    cases q2 : K.lookup T with
    | none =>
      rw [q2] at e3
      cases e3
    | some o2 =>
      obtain ⟨oc2, od2, dt2, osl2⟩ := o2
      rw [q2] at e3
      cases dt2 with
      | seq its nn =>
        have e4 : (its.size == 1) = true := e3
        obtain ⟨u, rfl⟩ := Array.size_eq_one_iff.mp (beq_iff_eq.mp e4)
        exact ⟨T, u, oc2, od2, nn, osl2, rfl, q2⟩
      | _ => cases e3
  | _ =>
    rw [q] at e2
    cases e2
/-! ### the text -/
abbrev PR : Program := PySem.Challenge.pw_linestrikes_k23_whole_kinds_by_one_anoth
theorem top_super : (PR.main.scope.names.lookup ("super" : Str)).isSome = false := by decide +kernel
theorem txt_of (c : SaysL h K) (X : K.In h) (G : h.Ns mainGlobals mg) : Txt K mg :=
  have c2 := c.all
  {
    b_len := c2.fr X G 0
    b_set := c2.fr X G 1
    b_tuple := c2.fr X G 2
    b_list := c2.fr X G 3
    b_int := c2.fr X G 4
    b_str := c2.fr X G 5
    b_dict := c2.fr X G 6
    b_isinstance := c2.fr X G 7
    b_range := c2.fr X G 8
    b_enumerate := c2.fr X G 9
    b_zip := c2.fr X G 10
    b_any := c2.fr X G 11
    b_all := c2.fr X G 12
    b_sum := c2.fr X G 13
    b_abs := c2.fr X G 14
    b_bool := c2.fr X G 15
    f_reached := c.funG c2 X G 0
    f_numbered := c.funG c2 X G 1
    f_parts := c.funG c2 X G 2
    f_least_table := c.funG c2 X G 3
    f_both_told := c.funG c2 X G 4
    f_paired := c.funG c2 X G 5
    f_mirrored := c.funG c2 X G 6
    g_ALPHABET := str_ok X G (ba c2.int).2
    f_is_whole := c.funG c2 X G 7
    f_is_letters := c.funG c2 X G 8
    f_is_cell_string := c.funG c2 X G 9
    f_cell_told := c.funG c2 X G 10
    g_MOST_STATES := c2.it X G 0
    g_MOST_LENGTH := c2.it X G 1
    f_need_values := c.funG c2 X G 11
    f_is_word := c.funG c2 X G 12
    f_need_room := c.funG c2 X G 13
    g_MOST_RUNS := c2.it X G 2
    g_LONGEST_RUN := c2.it X G 3
    g_MOST_MARKS := c2.it X G 4
    g_MOST_WORDS := c2.it X G 5
    g_LONGEST_WORD := c2.it X G 6
    f_need_mark := c.funG c2 X G 14
    f_need_items := c.funG c2 X G 15
    f_by_mark := c.funG c2 X G 16
    f_needed_cell := c.funG c2 X G 17
    f_table_of_runs := c.funG c2 X G 18
    f_table_of_words := c.funG c2 X G 19
    f_law_pen := c.funG c2 X G 20
    f_law_draw := c.funG c2 X G 21
    f_law_pick := c.funG c2 X G 22
    f_law_letters := c.funG c2 X G 23
    f_law_text := c.funG c2 X G 24
    f_law_just := c.funG c2 X G 25
    f_law_all_but := c.funG c2 X G 26
    f_law_marks_right := c.funG c2 X G 27
    f_law_marked := c.funG c2 X G 28
    f_law_parts_right := c.funG c2 X G 29
    f_law_kinds := c.funG c2 X G 30
    f_law_seen_right := c.funG c2 X G 31
    f_law_joined_right := c.funG c2 X G 32
    f_law := c.funG c2 X G 33
  }
theorem tc_of (c : SaysL h K) (X : K.In h) (G : h.Ns mainGlobals mg) : TC K mg (cs K) := by
  have c2 := c.all
  have e := c2.misc
  obtain ⟨m_0, e⟩ := ba e
  obtain ⟨m_1, e⟩ := ba e
  obtain ⟨m_2, e⟩ := ba e
  obtain ⟨m_3, e⟩ := ba e
  obtain ⟨m_4, e⟩ := ba e
  obtain ⟨m_5, e⟩ := ba e
  obtain ⟨m_6, e⟩ := ba e
  obtain ⟨m_7, e⟩ := ba e
  obtain ⟨m_8, e⟩ := ba e
  obtain ⟨m_9, e⟩ := ba e
  obtain ⟨m_10, e⟩ := ba e
  obtain ⟨m_11, e⟩ := ba e
  obtain ⟨m_12, e⟩ := ba e
  obtain ⟨m_13, e⟩ := ba e
  obtain ⟨m_14, m_15⟩ := ba e
  have h1 : ∀ C ∈ (cs K).all, Cl1 K C := fun C hC => cl1_of (List.all_eq_true.mp c2.cls C hC)
  have h2 : ∀ C ∈ (cs K).clues, ClC K (cs K) C := fun C hC => clc_of (h1 C (List.mem_cons_of_mem _ (List.mem_cons_of_mem _ hC))) (List.all_eq_true.mp c2.clu C hC)
  have h3 : ∀ C ∈ (cs K).clues, ∀ D ∈ (cs K).clues, pairB K C D = true := fun C hC D hD => List.all_eq_true.mp (List.all_eq_true.mp c2.bin C hC) D hD
  exact {
    T := txt_of c X G
    g_Cell := c2.gc X G 0
    g_Values := c2.gc X G 1
    g_Clue := c2.gc X G 2
    cn := eqO_ok m_0
    ct := of_decide_eq_true m_1
    cl := h1
    cc := h2
    bin := fun C hC D hD nm hn => List.all_eq_true.mp (ba (h3 C hC D hD)).1 nm hn
    ord := fun C hC D hD => (ba (h3 C hC D hD)).2
    kit_str := of_decide_eq_true m_2
    mk_cell := mk_of m_3
    mk_vals := mk_of m_4
    mk_clue := mk_of m_5
    s_cin := sp1_of m_6
    s_vin := sp1_of m_7
    s_veq := sp1_of m_8
    m_vcell := meth_of m_9
    m_vren := meth_of m_10
    mostR := most_of m_11
    f_Cell := c.funM c2 0
    f_CellIn := c.funM c2 1
    f_Val := c.funM c2 2
    f_ValCell := c.funM c2 3
    f_ValRen := c.funM c2 4
    f_ValIn := c.funM c2 5
    f_ValEq := c.funM c2 6
    f_Clue := c.funM c2 7
    f_Cnt := c.funM c2 8
    f_Wit := c.funM c2 9
    f_Ren := c.funM c2 10
    f_Bes := c.funM c2 11
    f_Bool := c.funM c2 12
    f_Eq := c.funM c2 13
    f_And := c.funM c2 14
    f_Or := c.funM c2 15
    f_Sub := c.funM c2 16
    f_Xor := c.funM c2 17
    f_Inv := c.funM c2 18
    f_Neg := c.funM c2 19
    o_vals := m_12
  }
/-- what is the same for every kind -/
theorem sup_of {x : Str} {st : Stmt} {C f : Addr} {dV : Value} (c : SaysL h K) (q : KndI K x st C f (cs K).fClue dV) (hp : ∃ ar, ((defArgs st).posonlyargs ++ (defArgs st).args).head? = some ar ∧ ar.arg = "self") :
    ∃ (cda cc : Addr) (oc : Value) (od : Option Addr) (osl : Array (Option Value)) (kV doc pm : Value) (an : Option Addr) (ct : Value),
    K.lookup f = some ⟨oc, od, .func (fnS "__init__" (x ++ "." ++ "__init__") (defArgs st) (defBody st) (defScope st) dV kV doc pm an (.ref cda) ct cc), osl⟩ ∧ PySem.W.codeIn K (.ref cda) (x ++ "." ++ "__init__") = true ∧ SupF PR K f cda cc C (cs K).fClue "self" := by
  have e := c.all.misc
  obtain ⟨m_0, e⟩ := ba e
  obtain ⟨m_1, e⟩ := ba e
  obtain ⟨m_2, e⟩ := ba e
  obtain ⟨m_3, e⟩ := ba e
  obtain ⟨m_4, e⟩ := ba e
  obtain ⟨m_5, e⟩ := ba e
  obtain ⟨m_6, e⟩ := ba e
  obtain ⟨m_7, e⟩ := ba e
  obtain ⟨m_8, e⟩ := ba e
  obtain ⟨m_9, e⟩ := ba e
  obtain ⟨m_10, e⟩ := ba e
  obtain ⟨m_11, e⟩ := ba e
  obtain ⟨m_12, e⟩ := ba e
  obtain ⟨m_13, e⟩ := ba e
  obtain ⟨m_14, m_15⟩ := ba e
  obtain ⟨cda, cc, oc, od, osl, kV, doc, pm, an, ct, lk, hc, hf, hcc⟩ := q.ex
  obtain ⟨ar, a1, a2⟩ := hp
  exact ⟨cda, cc, oc, od, osl, kV, doc, pm, an, ct, lk, hc, ⟨⟨_, _, _, _, ar, lk, a1, a2⟩, hf, hcc, q.cls, q.sub, eqO_ok m_13, m_14, of_decide_eq_true m_15, top_super⟩⟩
/-- the tables of the defs that make lambdas -/
def tT (K : PySem.W.Frag) : List (Addr × Str) := [((cT K ("Runs", some "__init__")).2, lamQ "Runs.__init__"), ((cT K ("Listed", some "__init__")).2, lamQ "Listed.__init__"), ((cT K ("Neighbours", some "__init__")).2, lamQ "Neighbours.__init__")]
theorem tT_nd (c : SaysL h K) : ((cT K ("Runs", some "__init__")).2 ≠ (cT K ("Listed", some "__init__")).2 ∧ (cT K ("Runs", some "__init__")).2 ≠ (cT K ("Neighbours", some "__init__")).2) ∧ (cT K ("Listed", some "__init__")).2 ≠ (cT K ("Neighbours", some "__init__")).2 := by
  have e : [(cT K ("Runs", some "__init__")).2, (cT K ("Listed", some "__init__")).2, (cT K ("Neighbours", some "__init__")).2].Nodup := of_decide_eq_true c.all.tab
  simpa using e
theorem knd_at (c : SaysL h K) (i : Nat) {x : Str} {j : Nat} (hi : kndNames[i]? = some (x, j) := by rfl) : ∃ dV, KndI K x (meth j 0) (ga K x) (ma K (ga K x) "__init__") (cs K).fClue dV ∧ ∃ o, K.lookup (ma K (ga K x) "__init__") = some o ∧ ∃ fd, o.data = .func fd ∧ fd.defaults = dV := by
  have m := List.mem_of_getElem? hi
  exact knd_of (List.map_inj_left.mp c.kns _ m) (List.all_eq_true.mp (ba c.all.knd).1 _ m)
theorem kndF (c : SaysL h K) (X : K.In h) (G : h.Ns mainGlobals mg) (i : Nat) {x : String} {q : Str} {j : Nat} (hx : x ∈ (["Runs", "Few", "Neighbours", "Ends", "Listed", "Every", "Never"] : List String)) (hm : ga K (x : Str) ∈ (cs K).clues) (hi : kndNames[i]? = some ((x : Str), j) := by rfl)
    (hp : ∃ ar, ((defArgs (meth j 0)).posonlyargs ++ (defArgs (meth j 0)).args).head? = some ar ∧ ar.arg = "self" := by exact ⟨_, rfl, rfl⟩) (hq : x ++ "." ++ "__init__" = q := by decide +kernel) : KindF PR K mg (cs K) q (meth j 0) .none (ga K x) (ma K (ga K x) "__init__") := by
  subst hq
  obtain ⟨dV, Q, o, l, fd, d1, d2⟩ := knd_at c i hi
  have e := dfl0_of (List.all_eq_true.mp (ba (ba c.all.knd).2).1 x hx) l d1
  rw [d2] at e
  subst e
  exact ⟨sup_of c Q hp, c.all.fr X G 16, Q.mak, hm⟩
theorem kndM (c : SaysL h K) (X : K.In h) (G : h.Ns mainGlobals mg) {base : Heap} (i : Nat) {x : String} {q : Str} {j : Nat} (hx : x ∈ (["Runs", "Few", "Neighbours", "Ends", "Listed", "Every", "Never"] : List String)) (hm : ga K (x : Str) ∈ (cs K).clues) (tb : TabB base mg (cT K ((x : Str), some "__init__")).1 (cT K ((x : Str), some "__init__")).2)
    (t1 : ((cT K ((x : Str), some "__init__")).2, lamQ q) ∈ tT K) (t2 : ∀ p ∈ tT K, p.1 = (cT K ((x : Str), some "__init__")).2 → p.2 = lamQ q) (hi : kndNames[i]? = some ((x : Str), j) := by rfl)
    (hp : ∃ ar, ((defArgs (meth j 0)).posonlyargs ++ (defArgs (meth j 0)).args).head? = some ar ∧ ar.arg = "self" := by exact ⟨_, rfl, rfl⟩) (hq : x ++ "." ++ "__init__" = q := by decide +kernel) : KindM PR K mg base (cs K) (tT K) q (meth j 0) (ga K x) (ma K (ga K x) "__init__") := by
  have F := kndF c X G i hx hm hi hp hq
  obtain ⟨cda, cc, oc, od, osl, kV, doc, pm, an, ct, lk, hc, sf⟩ := F.ex
  have e1 : (cT K (x, some "__init__")).1 = cda := codeOf_eq (p := ((x : Str), some "__init__")) lk rfl
  rw [e1] at tb
  exact ⟨⟨cda, cc, _, oc, od, osl, kV, doc, pm, an, ct, lk, hc, sf, tb, t1, t2⟩, F.su, F.mak, F.mem⟩
theorem tl_of (c : SaysL h K) (X : K.In h) (G : h.Ns mainGlobals mg) {base : Heap} (hT : ∀ p ∈ lamDefs.map (cT K), TabB base mg p.1 p.2) : TL PR K mg base (cs K) (tT K) := by
  obtain ⟨⟨n1, n2⟩, n3⟩ := tT_nd c
  have c2 := c.all
  have tb : ∀ x ∈ lamDefs, TabB base mg (cT K x).1 (cT K x).2 := fun x hx => hT _ (List.mem_map.mpr ⟨x, hx, rfl⟩)
  exact {
    Z := tc_of c X G
    kRuns := ⟨_, kndM c X G 0 (by simp) (by simp [Cs.clues, cs]) (tb _ (by simp [lamDefs])) (by simp [tT]) (fun p hp e => by
      simp only [tT, List.mem_cons, List.not_mem_nil, or_false] at hp
      rcases hp with rfl | rfl | rfl
      · rfl
      · exact absurd e.symm n1
      · exact absurd e.symm n2)⟩
    kNeig := ⟨_, kndM c X G 3 (by simp) (by simp [Cs.clues, cs]) (tb _ (by simp [lamDefs])) (by simp [tT]) (fun p hp e => by
      simp only [tT, List.mem_cons, List.not_mem_nil, or_false] at hp
      rcases hp with rfl | rfl | rfl
      · exact absurd e n2
      · exact absurd e n3
      · rfl)⟩
    kList := ⟨_, kndM c X G 5 (by simp) (by simp [Cs.clues, cs]) (tb _ (by simp [lamDefs])) (by simp [tT]) (fun p hp e => by
      simp only [tT, List.mem_cons, List.not_mem_nil, or_false] at hp
      rcases hp with rfl | rfl | rfl
      · exact absurd e n1
      · rfl
      · exact absurd e.symm n3)⟩
    kFew := ⟨_, kndF c X G 1 (by simp) (by simp [Cs.clues, cs])⟩
    kModu := by
      obtain ⟨dV, Q, o, l, fd, d1, d2⟩ := knd_at c 2 (x := "Modulo") (j := 53)
      obtain ⟨T0, u, cl, dd, nn, sl, e1, e2⟩ := dfl1_of (ba (ba c2.knd).2).2 l d1
      rw [d2] at e1
      subst e1
      exact ⟨_, T0, u, cl, dd, nn, sl, ⟨sup_of c Q ⟨_, rfl, rfl⟩, c2.fr X G 16, Q.mak, by simp [Cs.clues, cs]⟩, e2⟩
    kEnds := ⟨_, kndF c X G 4 (by simp) (by simp [Cs.clues, cs])⟩
    kEvry := ⟨_, kndF c X G 6 (by simp) (by simp [Cs.clues, cs])⟩
    kNevr := ⟨_, kndF c X G 7 (by simp) (by simp [Cs.clues, cs])⟩
    g_Runs := c2.gc X G 3
    g_Few := c2.gc X G 4
    g_Modulo := c2.gc X G 5
    g_Neighbours := c2.gc X G 6
    g_Ends := c2.gc X G 7
    g_Listed := c2.gc X G 8
    g_Every := c2.gc X G 9
    g_Never := c2.gc X G 10
  }
end
/-- the law's promise at the head's heap -/
theorem law_at {w : World} {K : PySem.W.Frag} {h : Heap} {mg : Str → Option Value} {fa : Addr} (X : K.In h) (G : h.Ns mainGlobals mg) (hfa : mg "law" = some (.ref fa)) (c : SaysL h K) :
    ∃ (fd : FuncData) (cs : List (Addr × Addr)) (sp : Sp), (∀ p ∈ cs, h.get? p.2 = some { cls := .none, data := .fields #[] }) ∧ (∀ p ∈ cs, K.lookup p.2 = none) ∧ (∀ p ∈ cs, PySem.W.CodeHd h p.1 p.2) ∧ (∀ (s : Shared) (u : Value), BindsTo s fd ⟨[u], []⟩ [("_law_script", u)]) ∧
    (∀ (H : Hp) (a : Addr) (ns : List Int), ns.length ≤ 63 → (∀ z ∈ ns, Builtin.Int.intBits z ≤ 1048576) → (∀ p ∈ cs, H p.2 = some (.tbl #[])) → SqL K H a (ns.map V.int) → sp [.ref a] H (fun v _ => v = .bl true) fun _ _ _ => False) ∧
    ∀ base : Heap, K.In base → base.Ns mainGlobals mg → (∀ p ∈ cs, TabB base mg p.1 p.2) → FnOk PR w K mg base CX0 11 fa fd ["_law_script"] sp := by
  obtain ⟨f, fd, e, F⟩ := (txt_of c X G).f_law
  have ef : f = fa := by
    have z := e.symm.trans hfa
    cases z
    rfl
  subst ef
  have hat : ∀ p ∈ lamDefs.map (cT K), ∃ q ∈ lamDefs, cT K q = p := fun p hp => List.mem_map.mp hp
  refine ⟨fd, lamDefs.map (cT K), spLaw K (tT K), fun p hp => ?_, fun p hp => ?_, fun p hp => ?_, fun s u => ?_, fun H a ns hl _ hT hS => ⟨a, ns, rfl, hS, hl, fun p hp => ?_, fun _ => rfl⟩, fun base KX G2 hT => c_law (tl_of c X G hT) F⟩
  · obtain ⟨q, hq, rfl⟩ := hat p hp
    exact c.empty q hq
  · obtain ⟨q, hq, rfl⟩ := hat p hp
    exact c.out q hq
  · obtain ⟨q, hq, rfl⟩ := hat p hp
    exact PySem.W.codeHd_of_K X (c.hd q hq)
  · obtain ⟨oc, od, kV, doc, pm, an, cdv, ct, osl, rfl, lk, hcd⟩ := F.ex
    exact .of_eq rfl
  · have key : ∀ q ∈ lamDefs, H (cT K q).2 = some (.tbl #[]) := fun q hq => hT _ (List.mem_map.mpr ⟨q, hq, rfl⟩)
    have one : ∀ q ∈ lamDefs, ∀ z : Str, TabS H (cT K q).2 z := fun q hq z => ⟨#[], key q hq, trivial, fun pos cv y => nomatch (show (none : Option Value) = some cv from y)⟩
    simp only [tT, List.mem_cons, List.not_mem_nil, or_false] at hp
    rcases hp with rfl | rfl | rfl
    · exact one _ (by simp [lamDefs]) _
    · exact one _ (by simp [lamDefs]) _
    · exact one _ (by simp [lamDefs]) _
end LW
end
section
set_option Elab.async false
set_option linter.all false
set_option maxRecDepth 100000
set_option maxHeartbeats 0
open PySem PySem.W PySem.Calls PyProof.Rows
theorem PySem.Challenge.cw_linestrikes_k23_whole_kinds_by_one_anoth_holds : PySem.Challenge.rw_linestrikes_k23_whole_kinds_by_one_anoth.Holds := by
  w_on; o_law
  refine HandSHeadRun.head_any (r := OpenLaw.row PySem.Challenge.rw_linestrikes_k23_whole_kinds_by_one_anoth) (q := view (OpenLaw.row PySem.Challenge.rw_linestrikes_k23_whole_kinds_by_one_anoth).prog [73]) (H := LW.hookL) (ob := LW.obsT) (M := 20000) (loose := LWH.names) (d := HandSHeadRun.topDef (OpenLaw.row PySem.Challenge.rw_linestrikes_k23_whole_kinds_by_one_anoth).prog 73) (kwd := []) LW.obsT_eq
    (by kernel_rfl) (fun s => by kernel_rfl) LWH.run (by kernel_rfl) (by kernel_rfl) (by kernel_rfl) (by rfl) (by first | assumption | decide +kernel) (by decide +kernel) ⟨rfl, rfl, rfl, rfl, rfl, by decide +kernel⟩ ?hw ?hc
  case hw => w_witness2
  case hc =>
    refine LamX.walk_ofTsE (l := PySem.Challenge.rw_linestrikes_k23_whole_kinds_by_one_anoth) (n := 63) (k := 11) (x := "_law_script") (CX := fun _ => L2.CX0) rfl (by decide) (by kernel_rfl) ⟨rfl, by decide, by decide⟩ ?F (fun _ _ _ _ _ z => z)
    intro w mg fa h Y G hmg0
    obtain ⟨K, KX, c⟩ := Y
    have hmg : mg ("law" : PySem.Str) = some (.ref fa) := by
      have e : (HandSHeadRun.topDef (OpenLaw.row PySem.Challenge.rw_linestrikes_k23_whole_kinds_by_one_anoth).prog 73).name = ("law" : PySem.Str) := by kernel_rfl
      rw [← e]
      exact hmg0
    exact ⟨K, KX, LW.law_at KX G hmg c⟩
end
