import PyProof.Rows.All
import Wide.All
import OpenK.AllK
import Wide.FinOn
import HandS.ForMost
import HandS.AnyAll
import HandS.GenOver
import HandS.GenList
import HandS.DictComp
import KE.KeyNested
import KE.KDictKeyed
import KE.KDictDisplayH
import KE.KDictCopyH
import KE.KDictList
import HandS.Zip
import KE.GoesEnum
import KE.GoesZip
import KE.GoesMore
import HandS.Defaults
import HandS.HeadHook4
import HandS.IsInst
import HandS.TupAny
import HandS.Text
import HandS.Style
import HandS.SortKw
import KE.SortKeyHeap
import HandS.Deep
import PyProof.NeData
import HandS.Small
import KE.SortData
import HandS.TupMul
import KE.KStateDown
import Lean
import HandS.Words
import HandS.WordsExc
import HandS.Head0
import HandS.Head1
import HandS.Head2
import HandS.HeadEnd
import HandS.HeadHook1
import HandS.HeadHook2
import HandS.HeadHook3
import HandS.HeadWalk
import HandS.EndTab
import PySem.Challenge.RW_onelife_k10_whole_papers
section
set_option autoImplicit false
set_option maxRecDepth 10000
namespace OL
/-! plain laws: the pairs of places that can come, and two searches for them -/
abbrev Wd (S : Type) := Option S
abbrev Mc (S : Type) := List (List (Nat × Option S))
abbrev Tb := List (List (List Nat))
abbrev Pl := Nat × Option Nat × Nat
abbrev Pr := Pl × Pl
section
variable {S : Type}
def opts (M : Mc S) (s : Nat) : List (Nat × Option S) := (M[s]?).getD []
def optOf (M : Mc S) (s o : Nat) : Nat × Option S := ((opts M s)[o]?).getD (0, none)
def rowsOf (T : Tb) (s : Nat) : List (List Nat) := (T[s]?).getD []
def rowOf (T : Tb) (s o : Nat) : List Nat := ((rowsOf T s)[o]?).getD []

/-- a machine, and a table of it -/
structure MOk (M : Mc S) : Prop where
  pos : 1 ≤ M.length
  most : M.length ≤ 4
  few : ∀ st ∈ M, st.length ≤ 4
  lead : ∀ st ∈ M, ∀ o ∈ st, o.1 < M.length
structure TOk (M : Mc S) (k : Nat) (T : Tb) : Prop where
  len : T.length = M.length
  each : ∀ s, s < M.length → (rowsOf T s).length = (opts M s).length
  row : ∀ rs ∈ T, ∀ r ∈ rs, 1 ≤ r.length ∧ r.length ≤ 3 ∧ ∀ m ∈ r, m < k

/-- a word can be said from a state on -/
inductive CanSay (M : Mc S) : Nat → Prop
  | here {s a : Nat} {x : S} : (a, some x) ∈ opts M s → CanSay M s
  | on {s a : Nat} {w : Option S} : (a, w) ∈ opts M s → CanSay M a → CanSay M s

/-- from a place -/
def CanFrom (M : Mc S) (p : Pl) : Prop := match p.2.1 with
  | none => CanSay M p.1
  | some o => (optOf M p.1 o).2 ≠ none ∨ CanSay M (optOf M p.1 o).1

def choices (M : Mc S) (s : Nat) : List Pl := (List.range (opts M s).length).map fun o => (s, some o, 0)
def chosen (M : Mc S) (p : Pr) : List Pr :=
  (if p.1.2.1 = none then (choices M p.1.1).map fun c => (c, p.2) else []) ++ (if p.2.2.1 = none then (choices M p.2.1).map fun c => (p.1, c) else [])
def nextMark (T : Tb) (s o d : Nat) : Option Nat := (rowOf T s o)[d]?
def goneOn (M : Mc S) (T : Tb) (s o d : Nat) : Pl × Option S :=
  if d + 1 < (rowOf T s o).length then ((s, some o, d + 1), none) else (((optOf M s o).1, none, 0), (optOf M s o).2)
def together (M : Mc S) (T : Tb) (p : Pr) : Option (Pr × Option S × Option S) :=
  match p with
  | ((s, some o, d), (s', some o', d')) => if nextMark T s o d = nextMark T s' o' d' then some (((goneOn M T s o d).1, (goneOn M T s' o' d').1), (goneOn M T s o d).2, (goneOn M T s' o' d').2) else none
  | _ => none
/-- what two lives have just said parts them -/
def PartAt (M : Mc S) (ps : Pr) (ws : Option S × Option S) : Prop :=
  ws.1 ≠ ws.2 ∧ ((ws.1 ≠ none ∧ ws.2 ≠ none) ∨ (ws.1 = none ∧ CanFrom M ps.1) ∨ (ws.1 ≠ none ∧ ws.2 = none ∧ CanFrom M ps.2))
def Bad (M : Mc S) (T : Tb) (p : Pr) : Prop := ∃ ps ws, together M T p = some (ps, ws) ∧ PartAt M ps ws
/-- the pairs that come of a pair -/
def Suc (M : Mc S) (T : Tb) (p q : Pr) : Prop := q ∈ chosen M p ∨ ∃ ws, together M T p = some (q, ws) ∧ ws.1 = ws.2
def START : Pr := ((0, none, 0), (0, none, 0))
inductive Reach (M : Mc S) (T : Tb) : Pr → Prop
  | start : Reach M T START
  | step {p q : Pr} : Reach M T p → Suc M T p q → Reach M T q
/-- a house is safe -/
def Safe (M : Mc S) (T : Tb) : Prop := ∀ p, Reach M T p → ¬ Bad M T p

/-! ### where places lie -/
def PlOk (M : Mc S) (T : Tb) (p : Pl) : Prop := p.1 < M.length ∧ match p.2.1 with
  | none => p.2.2 = 0
  | some o => o < (opts M p.1).length ∧ p.2.2 < (rowOf T p.1 o).length
def PrOk (M : Mc S) (T : Tb) (p : Pr) : Prop := PlOk M T p.1 ∧ PlOk M T p.2

theorem opts_mem {M : Mc S} {s : Nat} {o : Nat × Option S} (h : o ∈ opts M s) : ∃ st ∈ M, o ∈ st := by
  unfold opts at h
  cases e : M[s]? with
  | none => rw [e] at h; cases h
  | some st => rw [e] at h; exact ⟨st, List.mem_of_getElem? e, h⟩
theorem opts_lead {M : Mc S} (hM : MOk M) {s : Nat} {o : Nat × Option S} (h : o ∈ opts M s) : o.1 < M.length := by
  obtain ⟨st, h1, h2⟩ := opts_mem h
  exact hM.lead st h1 o h2
theorem optOf_mem {M : Mc S} {s o : Nat} (h : o < (opts M s).length) : optOf M s o ∈ opts M s := by
  unfold optOf
  rw [List.getElem?_eq_getElem h]
  exact List.getElem_mem h
theorem row_pos {M : Mc S} {k : Nat} {T : Tb} (hT : TOk M k T) {s o : Nat} (hs : s < M.length) (ho : o < (opts M s).length) : rowOf T s o ∈ rowsOf T s ∧ 1 ≤ (rowOf T s o).length ∧ (rowOf T s o).length ≤ 3 := by
  have h1 : o < (rowsOf T s).length := by rw [hT.each s hs]; exact ho
  have h2 : rowOf T s o = (rowsOf T s)[o] := by unfold rowOf; rw [List.getElem?_eq_getElem h1]; rfl
  have h3 : rowOf T s o ∈ rowsOf T s := by rw [h2]; exact List.getElem_mem h1
  have h4 : s < T.length := by rw [hT.len]; exact hs
  have h5 : rowsOf T s = T[s] := by unfold rowsOf; rw [List.getElem?_eq_getElem h4]; rfl
  have h6 := hT.row (rowsOf T s) (by rw [h5]; exact List.getElem_mem h4) _ h3
  exact ⟨h3, h6.1, h6.2.1⟩
theorem goneOn_ok {M : Mc S} {T : Tb} (hM : MOk M) {s o d : Nat} (h : PlOk M T (s, some o, d)) : PlOk M T (goneOn M T s o d).1 := by
  obtain ⟨h1, h2, h3⟩ := h
  unfold goneOn
  split
  · rename_i hd; exact ⟨h1, h2, hd⟩
  · exact ⟨opts_lead hM (optOf_mem h2), rfl⟩
theorem choices_ok {M : Mc S} {k : Nat} {T : Tb} (hT : TOk M k T) {s : Nat} (h : s < M.length) {p : Pl} (hp : p ∈ choices M s) : PlOk M T p := by
  unfold choices at hp
  obtain ⟨o, ho, rfl⟩ := List.mem_map.mp hp
  have ho' := List.mem_range.mp ho
  exact ⟨h, ho', (row_pos hT h ho').2.1⟩
theorem together_some {M : Mc S} {T : Tb} {p : Pr} {ps : Pr} {ws : Option S × Option S} (h : together M T p = some (ps, ws)) :
    ∃ s o d s' o' d', p = ((s, some o, d), (s', some o', d')) ∧ nextMark T s o d = nextMark T s' o' d' ∧ ps = ((goneOn M T s o d).1, (goneOn M T s' o' d').1) ∧ ws = ((goneOn M T s o d).2, (goneOn M T s' o' d').2) := by
  obtain ⟨⟨s, o, d⟩, ⟨s', o', d'⟩⟩ := p
  cases o with
  | none => simp [together] at h
  | some o =>
    cases o' with
    | none => simp [together] at h
    | some o' =>
      simp only [together] at h
      split at h
      · rename_i e
        simp only [Option.some.injEq, Prod.mk.injEq] at h
        obtain ⟨h1, h2⟩ := h
        exact ⟨s, o, d, s', o', d', rfl, e, h1.symm, by rw [← h2]⟩
      · cases h
theorem suc_ok {M : Mc S} {k : Nat} {T : Tb} (hM : MOk M) (hT : TOk M k T) {p q : Pr} (hp : PrOk M T p) (h : Suc M T p q) : PrOk M T q := by
  rcases h with h | ⟨ws, h, _⟩
  · unfold chosen at h
    rcases List.mem_append.mp h with h | h
    · split at h
      · obtain ⟨c, hc, rfl⟩ := List.mem_map.mp h
        exact ⟨choices_ok hT hp.1.1 hc, hp.2⟩
      · cases h
    · split at h
      · obtain ⟨c, hc, rfl⟩ := List.mem_map.mp h
        exact ⟨hp.1, choices_ok hT hp.2.1 hc⟩
      · cases h
  · obtain ⟨s, o, d, s', o', d', rfl, _, e, _⟩ := together_some h
    rw [e]
    exact ⟨goneOn_ok hM hp.1, goneOn_ok hM hp.2⟩
theorem start_ok {M : Mc S} {T : Tb} (hM : MOk M) : PrOk M T START := ⟨⟨hM.pos, rfl⟩, ⟨hM.pos, rfl⟩⟩
theorem reach_ok {M : Mc S} {k : Nat} {T : Tb} (hM : MOk M) (hT : TOk M k T) {p : Pr} (h : Reach M T p) : PrOk M T p := by
  induction h with
  | start => exact start_ok hM
  | step _ h ih => exact suc_ok hM hT ih h

/-! ### how many pairs there can be -/
def allPl (M : Mc S) (T : Tb) : List Pl := (List.range M.length).flatMap fun s => (s, none, 0) :: (List.range (opts M s).length).flatMap fun o => (List.range (rowOf T s o).length).map fun d => (s, some o, d)
theorem allPl_mem {M : Mc S} {T : Tb} {p : Pl} (h : PlOk M T p) : p ∈ allPl M T := by
  obtain ⟨s, o, d⟩ := p
  obtain ⟨h1, h2⟩ := h
  refine List.mem_flatMap.mpr ⟨s, List.mem_range.mpr h1, ?_⟩
  cases o with
  | none =>
    have h2 : d = 0 := h2
    subst h2
    exact List.mem_cons_self
  | some o =>
    have h2 : o < (opts M s).length ∧ d < (rowOf T s o).length := h2
    exact List.mem_cons_of_mem _ (List.mem_flatMap.mpr ⟨o, List.mem_range.mpr h2.1, List.mem_map.mpr ⟨d, List.mem_range.mpr h2.2, rfl⟩⟩)
theorem flat_len {α β : Type} (f : α → List β) (n : Nat) : ∀ l : List α, (∀ x ∈ l, (f x).length ≤ n) → (l.flatMap f).length ≤ l.length * n
  | [], _ => by simp
  | x :: l, h => by
    have h1 := flat_len f n l fun y hy => h y (List.mem_cons_of_mem _ hy)
    have h2 := h x List.mem_cons_self
    rw [List.flatMap_cons, List.length_append, List.length_cons, Nat.add_mul, Nat.one_mul]
    omega
theorem allPl_len {M : Mc S} {k : Nat} {T : Tb} (hM : MOk M) (hT : TOk M k T) : (allPl M T).length ≤ 52 := by
  have h : (allPl M T).length ≤ (List.range M.length).length * 13 := by
    refine flat_len _ 13 _ fun s hs => ?_
    have hs' := List.mem_range.mp hs
    have h1 : ((List.range (opts M s).length).flatMap fun o => (List.range (rowOf T s o).length).map fun d => ((s, some o, d) : Pl)).length ≤ (List.range (opts M s).length).length * 3 := by
      refine flat_len _ 3 _ fun o ho => ?_
      rw [List.length_map, List.length_range]
      exact (row_pos hT hs' (List.mem_range.mp ho)).2.2
    have h2 : (opts M s).length ≤ 4 := by
      unfold opts
      rw [List.getElem?_eq_getElem hs']
      exact hM.few _ (List.getElem_mem hs')
    rw [List.length_range] at h1
    rw [List.length_cons]
    omega
  rw [List.length_range] at h
  have := hM.most
  omega
def allPr (M : Mc S) (T : Tb) : List Pr := (allPl M T).flatMap fun a => (allPl M T).map fun b => (a, b)
theorem allPr_mem {M : Mc S} {T : Tb} {p : Pr} (h : PrOk M T p) : p ∈ allPr M T :=
  List.mem_flatMap.mpr ⟨p.1, allPl_mem h.1, List.mem_map.mpr ⟨p.2, allPl_mem h.2, rfl⟩⟩
theorem allPr_len {M : Mc S} {k : Nat} {T : Tb} (hM : MOk M) (hT : TOk M k T) : (allPr M T).length ≤ 2704 := by
  have h := allPl_len hM hT
  have h1 : (allPr M T).length ≤ (allPl M T).length * (allPl M T).length := by
    refine flat_len _ _ _ fun a _ => ?_
    rw [List.length_map]
    exact Nat.le_refl _
  have h2 : (allPl M T).length * (allPl M T).length ≤ 52 * 52 := Nat.mul_le_mul h h
  omega
theorem nodup_len {α : Type} [DecidableEq α] : ∀ (l u : List α), l.Nodup → (∀ x ∈ l, x ∈ u) → l.length ≤ u.length
  | [], _, _, _ => Nat.zero_le _
  | x :: l, u, hn, hs => by
    have hx : x ∈ u := hs x List.mem_cons_self
    have hn' := List.nodup_cons.mp hn
    have h1 := nodup_len l (u.erase x) hn'.2 fun y hy => (List.mem_erase_of_ne (fun e => hn'.1 (by rw [← e]; exact hy))).mpr (hs y (List.mem_cons_of_mem _ hy))
    rw [List.length_erase_of_mem hx] at h1
    have h2 : 0 < u.length := List.length_pos_of_mem hx
    rw [List.length_cons]
    omega
theorem pairs_few {M : Mc S} {k : Nat} {T : Tb} (hM : MOk M) (hT : TOk M k T) {l : List Pr} (hn : l.Nodup) (hl : ∀ p ∈ l, PrOk M T p) : l.length ≤ 2704 :=
  Nat.le_trans (nodup_len l (allPr M T) hn fun p hp => allPr_mem (hl p hp)) (allPr_len hM hT)

/-! ### a found paper -/
/-- what a search for the pairs hands back -/
def Paper (M : Mc S) (T : Tb) (r : Option (List Pr)) : Prop := match r with
  | none => ¬ Safe M T
  | some l => Safe M T ∧ l.Nodup ∧ ∀ p, p ∈ l ↔ Reach M T p
/-- closed, and nothing bad in it -/
theorem paper_some {M : Mc S} {T : Tb} {l : List Pr} (hn : l.Nodup) (hs : START ∈ l) (hr : ∀ p ∈ l, Reach M T p) (hc : ∀ p ∈ l, ¬ Bad M T p ∧ ∀ q, Suc M T p q → q ∈ l) : Paper M T (some l) := by
  have h : ∀ p, Reach M T p → p ∈ l := fun p hp => by
    induction hp with
    | start => exact hs
    | step _ h ih => exact (hc _ ih).2 _ h
  exact ⟨fun p hp => (hc p (h p hp)).1, hn, fun p => ⟨hr p, h p⟩⟩
theorem paper_none {M : Mc S} {T : Tb} {p : Pr} (hr : Reach M T p) (hb : Bad M T p) : Paper M T none := fun h => h p hr hb
end
end OL
end
section
set_option autoImplicit false
set_option maxRecDepth 10000
set_option linter.unusedSectionVars false
namespace OL
section
variable {S : Type} [DecidableEq S]
/-! what comes of a pair, as a list -/
def last1 (M : Mc S) (T : Tb) (p : Pr) : List Pr := match together M T p with
  | some (ps, ws) => if ws.1 = ws.2 then [ps] else []
  | none => []
def sucs (M : Mc S) (T : Tb) (p : Pr) : List Pr := chosen M p ++ last1 M T p
theorem mem_sucs {M : Mc S} {T : Tb} {p q : Pr} : q ∈ sucs M T p ↔ Suc M T p q := by
  unfold sucs Suc last1
  rw [List.mem_append]
  refine or_congr Iff.rfl ?_
  cases e : together M T p with
  | none => simp
  | some r =>
    obtain ⟨ps, w1, w2⟩ := r
    by_cases h : w1 = w2
    · simp [h]
      exact eq_comm
    · simp [h]
      exact fun _ e3 => h e3.symm
theorem not_bad_none {M : Mc S} {T : Tb} {p : Pr} (h : together M T p = none) : ¬ Bad M T p := by
  rintro ⟨ps, ws, e, _⟩
  rw [h] at e
  cases e
theorem bad_some {M : Mc S} {T : Tb} {p ps : Pr} {ws : Option S × Option S} (h : together M T p = some (ps, ws)) : Bad M T p ↔ PartAt M ps ws := by
  constructor
  · rintro ⟨ps', ws', e, h'⟩
    rw [h] at e
    cases e
    exact h'
  · exact fun h' => ⟨ps, ws, h, h'⟩
/-! one after another, what is new -/
def addNew (l : List Pr) : List Pr → List Pr
  | [] => l
  | q :: m => addNew (if q ∈ l then l else l ++ [q]) m
theorem add_snoc (q : Pr) : ∀ (m l : List Pr), addNew l (m ++ [q]) = if q ∈ addNew l m then addNew l m else addNew l m ++ [q]
  | [], l => rfl
  | x :: m, l => by
    show addNew _ (m ++ [q]) = _
    rw [add_snoc q m]
    rfl
theorem add_pre : ∀ (m l : List Pr), ∃ e, addNew l m = l ++ e ∧ (∀ x ∈ e, x ∈ m) ∧ e.length ≤ m.length
  | [], l => ⟨[], by simp [addNew], by simp, by simp⟩
  | q :: m, l => by
    obtain ⟨e, h1, h2, h3⟩ := add_pre m (if q ∈ l then l else l ++ [q])
    by_cases h : q ∈ l
    · rw [if_pos h] at h1
      exact ⟨e, by simp only [addNew, if_pos h]; exact h1, fun x hx => List.mem_cons_of_mem _ (h2 x hx), by rw [List.length_cons]; omega⟩
    · rw [if_neg h] at h1
      refine ⟨q :: e, by simp only [addNew, if_neg h]; rw [h1]; simp, fun x hx => ?_, by rw [List.length_cons, List.length_cons]; omega⟩
      rcases List.mem_cons.mp hx with z | z
      · rw [z]; exact List.mem_cons_self
      · exact List.mem_cons_of_mem _ (h2 x z)
theorem add_mem : ∀ (m l : List Pr) (x : Pr), x ∈ m → x ∈ addNew l m
  | q :: m, l, x, h => by
    show x ∈ addNew (if q ∈ l then l else l ++ [q]) m
    rcases List.mem_cons.mp h with z | z
    · obtain ⟨e, h1, _⟩ := add_pre m (if q ∈ l then l else l ++ [q])
      rw [h1, z]
      refine List.mem_append_left _ ?_
      by_cases h : q ∈ l
      · rw [if_pos h]; exact h
      · rw [if_neg h]; simp
    · exact add_mem m _ x z
theorem add_nodup : ∀ (m l : List Pr), l.Nodup → (addNew l m).Nodup
  | [], l, h => h
  | q :: m, l, h => by
    show (addNew (if q ∈ l then l else l ++ [q]) m).Nodup
    refine add_nodup m _ ?_
    by_cases hq : q ∈ l
    · rw [if_pos hq]; exact h
    · rw [if_neg hq, List.nodup_append]
      exact ⟨h, by simp, fun a ha b hb e => hq (by rw [← List.mem_singleton.mp hb, ← e]; exact ha)⟩
/-! the search -/
structure Bfs (M : Mc S) (T : Tb) (l : List Pr) (n : Nat) : Prop where
  nd : l.Nodup
  start : START ∈ l
  reach : ∀ p ∈ l, Reach M T p
  le : n ≤ l.length
  done : ∀ i p, i < n → l[i]? = some p → ¬ Bad M T p ∧ ∀ q, Suc M T p q → q ∈ l
theorem Bfs.start0 {M : Mc S} {T : Tb} : Bfs M T [START] 0 :=
  ⟨by simp, by simp, fun p hp => by rw [List.mem_singleton.mp hp]; exact .start, Nat.zero_le _, fun i p hi => absurd hi (Nat.not_lt_zero _)⟩
theorem Bfs.step {M : Mc S} {T : Tb} {l : List Pr} {n : Nat} {p : Pr} (h : Bfs M T l n) (hp : l[n]? = some p) (hb : ¬ Bad M T p) : Bfs M T (addNew l (sucs M T p)) (n + 1) := by
  obtain ⟨e, he, hm, _⟩ := add_pre (sucs M T p) l
  have hpl : p ∈ l := List.mem_of_getElem? hp
  have hn : n < l.length := (List.getElem?_eq_some_iff.mp hp).1
  refine ⟨add_nodup _ _ h.nd, by rw [he]; exact List.mem_append_left _ h.start, fun q hq => ?_, by rw [he, List.length_append]; omega, fun i q hi hq => ?_⟩
  · rw [he] at hq
    rcases List.mem_append.mp hq with z | z
    · exact h.reach q z
    · exact .step (h.reach p hpl) (mem_sucs.mp (hm q z))
  · have hi' : i < l.length := by omega
    rw [he, List.getElem?_append_left hi'] at hq
    by_cases z : i < n
    · obtain ⟨h1, h2⟩ := h.done i q z hq
      exact ⟨h1, fun r hr => by rw [he]; exact List.mem_append_left _ (h2 r hr)⟩
    · have e1 : i = n := by omega
      subst e1
      rw [hp] at hq
      cases hq
      exact ⟨hb, fun r hr => add_mem _ _ _ (mem_sucs.mpr hr)⟩
theorem Bfs.fin {M : Mc S} {T : Tb} {l : List Pr} (h : Bfs M T l l.length) : Paper M T (some l) := by
  refine paper_some h.nd h.start h.reach fun p hp => ?_
  obtain ⟨i, hi, e⟩ := List.mem_iff_getElem.mp hp
  exact h.done i p hi (by rw [List.getElem?_eq_getElem hi, e])
theorem Bfs.few {M : Mc S} {T : Tb} {k : Nat} (hM : MOk M) (hT : TOk M k T) {l : List Pr} {n : Nat} (h : Bfs M T l n) : l.length ≤ 2704 := pairs_few hM hT h.nd fun p hp => reach_ok hM hT (h.reach p hp)
theorem choices_few {M : Mc S} (hM : MOk M) {s : Nat} (hs : s < M.length) : (choices M s).length ≤ 4 := by
  unfold choices opts
  rw [List.length_map, List.length_range, List.getElem?_eq_getElem hs]
  exact hM.few _ (List.getElem_mem hs)
theorem chosen_few {M : Mc S} {T : Tb} (hM : MOk M) {p : Pr} (hp : PrOk M T p) : (chosen M p).length ≤ 8 := by
  have h1 := choices_few hM hp.1.1
  have h2 := choices_few hM hp.2.1
  unfold chosen
  rw [List.length_append]
  split <;> split <;> simp <;> omega
theorem sucs_few {M : Mc S} {T : Tb} (hM : MOk M) {p : Pr} (hp : PrOk M T p) : (sucs M T p).length ≤ 9 := by
  have h := chosen_few hM hp
  unfold sucs last1
  rw [List.length_append]
  split
  · split <;> simp <;> omega
  · simp; omega
/-! a paper that is told closed -/
theorem closed_paper_of {M : Mc S} {T : Tb} {l : List Pr} (h : Paper M T (some l)) : START ∈ l ∧ ∀ p ∈ l, ¬ Bad M T p ∧ ∀ q ∈ sucs M T p, q ∈ l := by
  obtain ⟨h1, h2, h3⟩ := h
  refine ⟨(h3 _).mpr .start, fun p hp => ⟨h1 p ((h3 p).mp hp), fun q hq => (h3 q).mpr (.step ((h3 p).mp hp) (mem_sucs.mp hq))⟩⟩
/-- the start alone can't be a closed paper of a house that is not safe -/
theorem start_open {M : Mc S} {T : Tb} (h : ¬ Safe M T) : Bad M T START ∨ ∃ q ∈ sucs M T START, q ≠ START := by
  refine Classical.byContradiction fun z => h fun p hp => ?_
  have z1 : ¬ Bad M T START := fun b => z (.inl b)
  have z2 : ∀ q ∈ sucs M T START, q = START := fun q hq => Classical.byContradiction fun n => z (.inr ⟨q, hq, n⟩)
  have e : ∀ p, Reach M T p → p = START := fun p hp => by
    induction hp with
    | start => rfl
    | step _ h ih => rw [ih] at h; exact z2 _ (mem_sucs.mpr h)
  rw [e p hp]
  exact z1
end
end OL
end
section
set_option Elab.async false
set_option linter.all false
set_option maxRecDepth 100000
set_option maxHeartbeats 2000000
/-! all(element for target in walked): a generator expression of any target, whose element may call defs. -/
namespace RG
open PySem PySem.Spec PyProof.Rows L2 GxR

/-- the context of a generator's frame; what was tracked when it was made: H, the state then: s -/
abbrev gcx (X : Cx) (s : Shared) (H : Hp) (cenv : Env) (fp : List Addr) (A' : Around) : Cx :=
  { X with A := A', s_0 := s, H_0 := H, env := cenv, outer := X.stack, stack := cenv :: X.stack, ex := fp, fn := fun _ => false, pn := [], xe := fun _ _ => False }
section
variable {X : Cx} {pins : List (Addr × Obj)} {σ : L2.St} {H : Hp} {s : Shared}
/-- the same heap: the same invariant -/
theorem inv_same {s' : Shared} (I : Inv X pins σ H s) (hh : s'.heap = s.heap) (ho : s'.os = s.os) (hg : AllBare s'.gens) : Inv X pins σ H s' := by
  obtain ⟨h', g', d', t', o'⟩ := s'
  have e1 : h' = s.heap := hh
  have e2 : o' = s.os := ho
  subst e1
  subst e2
  exact ⟨I.ok, I.os, hg, I.base, I.loc, I.cell, I.free, I.freeC, I.pin, I.hok, I.len⟩
/-- the generator's frame as it is made -/
theorem gen_start {scope : Scope} {own : List (Str × Nat)} {fp : List Addr} {A' : Around} {h5 : Heap} {g5 : Array GenState} {tk : Nat} {a : Addr} {go : Obj} {m0 : Str → Option Value} {code : Value}
    (I : Inv X pins σ H s) (hc : X.calm = true) (ok : BlkOk X.N X.env.scope scope own) (hcell : ∀ y ∈ scope.names, y.2 ≠ .cell) (hN : X.N.Nodup) (hfp : ∀ b ∈ fp, FpOk X pins H b ∧ b < s.heap.objs.size)
    (hA : A'.handled = none) (hF : A'.frames = some (genEnv scope (cloFrom X.env.cells scope.names []) s.heap.objs.size code builtinsNs X.env :: X.stack))
    (hns : h5.Ns s.heap.objs.size m0) (kp : ∀ b o, s.heap.get? b = some o → h5.get? b = some o) (hg : AllBare g5)
    (ha : s.heap.objs.size < a) (hgo : h5.get? a = some go) (hdat : ∀ v, go.data ≠ .cell v) :
    Inv (gcx X s H (genEnv scope (cloFrom X.env.cells scope.names []) s.heap.objs.size code builtinsNs X.env) fp A') [(a, go)] (wipe σ (own.map (·.2))) H { s with heap := h5, gens := g5, toks := tk } := by
  have hfree : ∀ y ∈ scope.names, y.2 = .free → ∃ c, X.env.cells.lookup y.1 = some c := fun y hy e => by
    rcases ok.free y hy e with k | k
    · exact I.ok.has _ (.inl k)
    · exact I.ok.has _ (.inr k)
  have cm : ∀ {y : Str} {c : Addr}, (y, c) ∈ cloFrom X.env.cells scope.names [] → X.env.cells.lookup y = some c ∧ c < s.heap.objs.size := fun {y c} hm => by
    rcases cloFrom_mem hm with hm | ⟨h1, rfl⟩
    · cases hm
    · obtain ⟨c, hc⟩ := hfree _ h1 rfl
      rw [hc]
      obtain ⟨w, z⟩ := I.cell _ _ hc
      exact ⟨rfl, z.lt⟩
  have look : ∀ {y : Str}, scope.names.lookup y = some .free → ∃ c, (cloFrom X.env.cells scope.names []).lookup y = some c ∧ X.env.cells.lookup y = some c := fun {y} hl => by
    have hy : (y, NameKind.free) ∈ scope.names := PySem.mem_of_lookup hl
    obtain ⟨c', e'⟩ := mem_lookup (cloFrom_has (cells := X.env.cells) (acc := []) hy)
    exact ⟨c', e', (cm (PySem.mem_of_lookup e')).1⟩
  generalize hce : genEnv scope (cloFrom X.env.cells scope.names []) s.heap.objs.size code builtinsNs X.env = ce at hF
  have eS : ce.scope = scope := by rw [← hce]; rfl
  have eL : ce.locals = s.heap.objs.size := by rw [← hce]; rfl
  have eC : ce.cells = cloFrom X.env.cells scope.names [] := by rw [← hce]; rfl
  have eF : ce.frame = some ce.locals := by rw [← hce]; rfl
  have nocell : ∀ y, ce.kindOf y ≠ some .cell := fun y hy => by
    unfold Env.kindOf at hy
    rw [eS] at hy
    exact hcell _ (PySem.mem_of_lookup hy) rfl
  have okB : (gcx X s H ce fp A').Ok := by
    refine ⟨I.ok.mod, by show ce.scope.kind = _; rw [eS]; exact ok.kind, by show ce.globals = _; rw [← hce]; exact I.ok.glob, by show ce.builtins = _; rw [← hce]; rfl, by show s.heap.objs.size ≤ ce.locals; rw [eL]; exact Nat.le_refl _,
      fun y z c e1 e2 => ?_, fun y hy => ?_, fun y c z e => ?_, fun _ => hA, hF, .inr ⟨rfl, eF⟩, fun b hb => ⟨?_, fun y c e z => ?_⟩, I.bs, Nat.le_trans I.ok.bsz I.sz, fun b o e hb => ?_, fun b hb z => ?_, I.stack, I.stkFree⟩
    · have e1 : ce.cells.lookup y = some c := e1
      have e2 : ce.cells.lookup z = some c := e2
      rw [eC] at e1 e2
      exact I.ok.inj y z c (cm (PySem.mem_of_lookup e1)).1 (cm (PySem.mem_of_lookup e2)).1
    · show ∃ c, ce.cells.lookup y = some c
      rcases hy with hy | hy
      · exact (nocell y hy).elim
      · have hy : ce.scope.names.lookup y = some .free := hy
        rw [eS] at hy
        obtain ⟨c, h1, _⟩ := look hy
        exact ⟨c, by rw [eC]; exact h1⟩
    · cases z
    · show b ≠ ce.locals
      rw [eL]; exact Nat.ne_of_lt (hfp b hb).2
    · have e : ce.cells.lookup y = some c := e
      rw [eC] at e
      exact (hfp b hb).1.2.2.2.2.1 y c (cm (PySem.mem_of_lookup e)).1 z
    · rcases (hfp b hb).1.2.2.2.1 with z | z
      · exact I.ok.noex b o e z
      · exact absurd (Nat.lt_of_lt_of_le (Heap.lt_size e) (Nat.le_trans I.ok.bsz z)) (Nat.lt_irrefl _)
    · rcases List.mem_cons.mp (I.stkSub b z) with z | z
      · exact (hfp b hb).1.2.1 z
      · exact (hfp b hb).1.2.2.1 z
  refine ⟨okB, rfl, hg, Un.kept kp, ⟨m0, by show Heap.Ns _ ce.locals _; rw [eL]; exact hns, fun i y av e1 e2 e3 => ?_⟩, fun y c e => ?_, ?_, fun y c e => ?_, fun p hp => ?_, I.hok.kept kp, by rw [wipe_length]; exact I.len⟩
  · obtain ⟨e2, hne⟩ := wipe_some e2
    have e3 : Vis ce.scope y := e3
    rw [eS] at e3
    have no : ∀ k, scope.names.lookup y = some k → k = .local ∨ k = .cell → False := fun k hk hk' => by
      rcases ok.own _ (PySem.mem_of_lookup hk) hk' with e' | e'
      · obtain ⟨p, hp, hpy⟩ := List.mem_map.mp e'
        have e3 := ok.ix p hp
        have : p.1 = y := hpy
        rw [this] at e3
        exact hne (List.mem_map.mpr ⟨p, hp, nodup_ix hN e3 e1⟩)
      · exact e' (List.mem_of_getElem? e1)
    have hfr : scope.names.lookup y = some .free := by
      rcases e3 with e3 | e3 | e3
      · exact (no _ e3 (.inl rfl)).elim
      · exact (no _ e3 (.inr rfl)).elim
      · exact e3
    obtain ⟨m, hn, hl⟩ := I.loc
    have hvis : Vis X.env.scope y := (ok.free _ (PySem.mem_of_lookup hfr) rfl).elim (fun k => .inr (.inl k)) (fun k => .inr (.inr k))
    obtain ⟨w, r, q⟩ := hl i y av e1 e2 hvis
    refine ⟨w, r, .inr ⟨.inr (by show ce.scope.names.lookup y = _; rw [eS]; exact hfr), ?_⟩⟩
    obtain ⟨c, h1, h2⟩ := look hfr
    rcases q with ⟨k, _⟩ | ⟨_, c', e', z⟩
    · have k : X.env.scope.names.lookup y = some .local := k
      rcases ok.free _ (PySem.mem_of_lookup hfr) rfl with k' | k' <;> rw [show X.env.scope.names.lookup y = _ from k'] at k <;> cases k
    · rw [h2] at e'; cases e'
      exact ⟨c, by show ce.cells.lookup y = _; rw [eC]; exact h1, z.keeps kp⟩
  · have e : ce.cells.lookup y = some c := e
    rw [eC] at e
    obtain ⟨w, z⟩ := I.cell y c (cm (PySem.mem_of_lookup e)).1
    exact ⟨w, z.keeps kp⟩
  · show H ce.locals = none
    rw [eL]; exact I.hok.fresh (Nat.le_refl _)
  · have e : ce.cells.lookup y = some c := e
    rw [eC] at e
    exact I.freeC y c (cm (PySem.mem_of_lookup e)).1
  · have e : p = (a, go) := by
      have hp : p ∈ ([] : List (Addr × Obj)) ++ [(a, go)] := hp
      simpa using hp
    subst e
    refine ⟨hgo, I.hok.fresh (Nat.le_of_lt ha), by show a ≠ ce.locals; rw [eL]; exact Nat.ne_of_gt ha, fun hb => ?_, hdat⟩
    have hb : a ∈ frs X.stack := hb
    rcases List.mem_cons.mp (I.stkSub a hb) with z | z
    · have := I.lt
      rw [← z] at this
      exact absurd (Nat.lt_trans this ha) (Nat.lt_irrefl _)
    · exact I.nofs (Nat.le_of_lt ha) z
end
end RG
end
section
set_option Elab.async false
set_option linter.all false
set_option maxRecDepth 100000
set_option maxHeartbeats 2000000
namespace RG
open PySem PySem.Spec PyProof.Rows L2 GxR

/-! ### the arounds -/
theorem over_handled {A : Around} {elt : Expr} {gs : List Comprehension} {scope : Scope} {pos : Pos} {it acc : Value} {env : Env} : (A.over (.compLoop (.GeneratorExp elt gs scope pos) 0 it acc env) []).handled = A.handled := rfl
theorem over_frames {A : Around} {elt : Expr} {gs : List Comprehension} {scope : Scope} {pos : Pos} {it acc : Value} {env : Env} {l : List Env} (h : A.frames = some l) : (A.over (.compLoop (.GeneratorExp elt gs scope pos) 0 it acc env) []).frames = some (env :: l) := by
  show pushEnvs [env] (pushEnvs [] A.frames) = _
  rw [h]
  rfl
theorem over_room {k : Nat} {A : Around} {elt : Expr} {gs : List Comprehension} {scope : Scope} {pos : Pos} {it acc : Value} {env : Env} (r : Room (k + 1) A) : Room k (A.in1.in1.over (.compLoop (.GeneratorExp elt gs scope pos) 0 it acc env) []) := by
  refine ⟨r.hd, ?_, ?_⟩
  · have := r.dp
    show A.depth + 0 + 1 + 3 * k + 5 < _
    omega
  · have := r.un
    show A.units + 1 + 1 + 0 + 3 + 16 * k + 200 < _
    omega

theorem seg_bw {M : Model} {A : Around} {R : GenEnd} {Y : Protocol} {n N : Nat} {s₀ : Shared} {c : Code} {fs : List Frame} {s : Shared} {α β : Type} {m : Sem α} {K : α → Sem β} {K' : β → Sem Fin} {H' : Value → Sem Fin} {gd lv} (hN : N ≤ s.gens.size)
    (h : wpAny M (A.over c fs) m (fun a s' => N ≤ s'.gens.size → Seg M A R Y n s₀ c ((K a).wrap K' H' gd lv) fs s') (fun _ _ => False) s) : Seg M A R Y n s₀ c ((m >>= K).wrap K' H' gd lv) fs s :=
  seg_bind_wrap (GenW.wpAny_gsz hN (wpAny_mono h (fun _ _ x => x) fun _ _ f => f.elim))

section
variable {X : Cx} {s4 : Shared} {H4 : Hp} {ce : Env} {fp : List Addr} {elt tg iter : Expr} {scope : Scope} {pos : Pos} {it a : Addr} {go : Obj} {tn : Nat → Heap → Prop} {J : It} {W : Nat → Nat → Hp → Prop} {Q : VK} {σ0 : L2.St} {vs : List Nat} {g : TG} {te : TE} {A : Around}

abbrev cl_ (elt tg iter : Expr) (scope : Scope) (pos : Pos) (it : Addr) (ce : Env) : Code := .compLoop (.GeneratorExp elt [⟨tg, iter, [], 0⟩] scope pos) 0 (.ref it) .none ce
abbrev bx (X : Cx) (s4 : Shared) (H4 : Hp) (ce : Env) (fp : List Addr) (A : Around) (elt tg iter : Expr) (scope : Scope) (pos : Pos) (it : Addr) : Cx := gcx X s4 H4 ce fp (A.over (cl_ elt tg iter scope pos it ce) [])
def PA_ (B : Cx) (p : Addr × Obj) (σ0 : L2.St) (Q : VK) : Nat → Shared → Shared → Prop := fun n s₀ s₁ => ∃ H', Inv B [p] σ0 H' s₁ ∧ s₀.gens.size ≤ s₁.gens.size ∧ Q (.bl true) H'
def RA_ (B : Cx) (p : Addr × Obj) (σ0 : L2.St) (Q : VK) : GenEnd := fun n s₀ r s₁ => r = .ok .next ∧ PA_ B p σ0 Q n s₀ s₁
def YA_ (B : Cx) (p : Addr × Obj) (Q : VK) : Protocol := fun _ s₀ v s kap => ∃ b σ' H', v = .bool b ∧ Inv B [p] σ' H' s ∧ s₀.gens.size ≤ s.gens.size ∧ (b = false → Q (.bl false) H') ∧
  (b = true → ∀ s'' : Shared, s''.heap = s.heap → s''.os = s.os → AllBare s''.gens → kap (.send .none) s'')

/-- the turns of the generator's frame -/
theorem seg_all (hc : X.calm = true) (hco : ce.scope.isCoroutine = false) (T : Turn X.prog X.w X.K tg J fp it tn) (hafp : ∀ b ∈ fp, b ≠ a)
    (pg : PG (bx X s4 H4 ce fp A elt tg iter scope pos it) tg g) (pe : PE (bx X s4 H4 ce fp A elt tg iter scope pos it) elt te)
    (turn : ∀ i m H, W i m H → (J.stop i H ∧ Q (.bl true) H) ∨ (J.go i H ∧ ∃ Nx : Hp → Prop, (∀ H', Nx H' → ∃ m', m' < m ∧ W (i + 1) m' H') ∧ ∀ x H', J.yld i H x H' → g x σ0 H' fun σ2 H2 => wipe σ2 vs = σ0 ∧
      te σ2 H2 fun y H3 => ∃ b, y = .bl b ∧ if b = true then Nx H3 else Q (.bl false) H3)) :
    ∀ (m n i : Nat) (s₀ s : Shared), m < n → s₀.gens.size ≤ s.gens.size → (∃ H', Inv (bx X s4 H4 ce fp A elt tg iter scope pos it) [(a, go)] σ0 H' s ∧ tn i s.heap ∧ (∀ b ∈ fp, H' b = none) ∧ W i m H') →
      Seg (model X.prog X.w) A (RA_ (bx X s4 H4 ce fp A elt tg iter scope pos it) (a, go) σ0 Q) (YA_ (bx X s4 H4 ce fp A elt tg iter scope pos it) (a, go) Q) n s₀ (cl_ elt tg iter scope pos it ce) ((model X.prog X.w).den (cl_ elt tg iter scope pos it ce)) [] s := by
  have stat : ∀ {σ' : L2.St} {H' : Hp} {s' : Shared}, Inv (bx X s4 H4 ce fp A elt tg iter scope pos it) [(a, go)] σ' H' s' → (∀ b ∈ fp, H' b = none) → ∀ b ∈ fp, FpOk (bx X s4 H4 ce fp A elt tg iter scope pos it) [(a, go)] H' b := fun {σ' H' s'} I' hn b hb =>
    ⟨hn b hb, (I'.ok.exf b hb).1, I'.ok.exfs b hb, .inl hb, fun x c e => (I'.ok.exf b hb).2 x c e, fun p hp => by
      have hp : p ∈ ([] : List (Addr × Obj)) ++ [(a, go)] := hp
      have e : p = (a, go) := by simpa using hp
      rw [e]
      exact (hafp b hb).symm⟩
  intro m
  induction m using Nat.strongRecOn with
  | ind m ih =>
    intro n i s₀ s hmn hsz ⟨H5, I5, st5, n5, w5⟩
    show Seg _ A _ _ _ s₀ _ ((compTurn (.GeneratorExp elt [⟨tg, iter, [], 0⟩] scope pos) 0 (.ref it) .none ce).onRaise (leaving ce)) [] s
    rw [compTurn_gen, Sem.onRaise_eq_wrap]
    refine seg_bw hsz (wpAny_standAt fun _ => ?_)
    rcases turn i m H5 w5 with ⟨stop, qq⟩ | ⟨go', Nx, hNx, step⟩
    · have td := T.done (bx X s4 H4 ce fp A elt tg iter scope pos it) rfl rfl rfl hc i [(a, go)] s _ H5 (fun _ _ => False) I5 (stat I5 n5) st5 stop
      refine seg_bw hsz (thnF td fun r s6 ⟨hr, I6⟩ hs6 => ?_)
      subst hr
      exact seg_end (.ok .next) ⟨rfl, H5, I6, hs6, qq⟩
    · have ti := T.item (bx X s4 H4 ce fp A elt tg iter scope pos it) rfl rfl rfl hc i [(a, go)] s _ H5 (fun _ _ => False) I5 (stat I5 n5) st5 go'
      refine seg_bw hsz (thnF ti fun r s6 ⟨u, hr, h6⟩ hs6 => ?_)
      subst hr
      refine seg_bw hs6 (thnF h6 fun _ s7 ⟨x, H7, I7, r7, y7, st7, n7⟩ hs7 => ?_)
      have I7' := I7.pinned (stat I7 n7) (T.obj _ _ st7)
      refine seg_bw hs7 (thnF (pg.run _ s7 _ H7 x u _ I7' r7 (step x H7 y7)) fun _ s8 ⟨σ8, H8, I8, hw8, q8⟩ hs8 => ?_)
      refine seg_bw hs8 (wpAny_tests_nil fun hs9 => ?_)
      simp only [if_true]
      have hy : ∀ v, yieldOut ce v = yieldValue v := fun v => by simp only [yieldOut, hco, Bool.false_eq_true, if_false]
      simp only [hy]
      rw [Sem.bind_eq_wrap', Sem.bind_eq_wrap', Sem.wrap_wrap, Sem.wrap_wrap]
      refine seg_wrap (GenW.wpAny_gsz hs9 (wpAny_mono (pe.run _ s8 σ8 H8 _ I8 q8) (fun z s10 ⟨yv, H10, I10, r10, b, hb, q10⟩ hs10 => ?_) fun _ _ z => False.elim z))
      subst hb
      obtain rfl : z = Value.bool b := r10
      obtain ⟨n, rfl⟩ : ∃ n', n = n' + 1 := ⟨n - 1, by omega⟩
      refine seg_at (seg_yield rfl rfl rfl ?_)
      refine ⟨b, σ8, H10, rfl, I10.unpinned, hs10, fun hb => ?_, fun hb s'' hh ho hg => ?_⟩
      · rw [hb] at q10
        simpa using q10
      · rw [hb] at q10
        have q11 : Nx H10 := by simpa using q10
        obtain ⟨m', hm, w'⟩ := hNx H10 q11
        have pin' : ∀ b ∈ fp, ∀ o, s7.heap.get? b = some o → s10.heap.get? b = some o ∧ H10 b = none := fun b hb o e =>
          let z := I10.pin (b, o) (List.mem_append_right _ (List.mem_append_right _ (mem_pinsAt hb e)))
          ⟨z.1, z.2.1⟩
        refine seg_again rfl (ih m' hm n (i + 1) s'' s'' (by omega) (Nat.le_refl _) ⟨H10, inv_same ((I10.unpinned).weak (by rw [← hw8, wipe_length]) fun j v e => by rw [← hw8] at e; exact (wipe_some e).1) hh ho hg, T.keep _ _ _ st7 fun b hb o e => by rw [hh]; exact (pin' b hb o e).1, fun b hb => ?_, w'⟩)
        obtain ⟨o, e, _⟩ := T.obj _ _ st7 b hb
        exact (pin' b hb o e).2
end
end RG
end
section
set_option Elab.async false
set_option linter.all false
set_option maxRecDepth 100000
set_option maxHeartbeats 2000000
namespace RG
open PySem PySem.Spec PyProof.Rows L2 GxR
section
variable {X B : Cx} {a : Addr} {gn : Nat} {nm qn : Value} {σ0 : L2.St} {Q : VK} {A : Around}
abbrev gobj (gn : Nat) (nm qn : Value) : Obj := { cls := .type "generator", data := .fields #[.int gn 0, nm, qn] }
/-- the generator sleeps; it may go on for n items more -/
def LS (B : Cx) (A : Around) (a : Addr) (gn : Nat) (nm qn : Value) (σ0 : L2.St) (Q : VK) (n : Nat) (s : Shared) : Prop :=
  ∃ gs σ' H', s.gens[gn]? = some gs ∧ gs.bare = true ∧ Inv B [(a, gobj gn nm qn)] σ' H' s ∧
    ∀ s'' : Shared, s''.heap = s.heap → s''.os = s.os → AllBare s''.gens → gs.Goes (model B.prog B.w) A.in1.in1 (RA_ B (a, gobj gn nm qn) σ0 Q) (YA_ B (a, gobj gn nm qn) Q) n (.send .none) s''
theorem all_loop (hh : A.handled = none) (hroom : A.depth < recursionLimit) : ∀ (n : Nat) (s : Shared), LS B A a gn nm qn σ0 Q n s →
    codeAny (model B.prog B.w) A (.builtin "all.loop" ⟨[.ref a], []⟩) (fun r s' => ∃ bb σ' H', r = .ok (.ret (.bool bb)) ∧ Inv B [(a, gobj gn nm qn)] σ' H' s' ∧ Q (.bl bb) H') s := by
  have hg : ∀ {σ' : L2.St} {H' : Hp} {s : Shared}, Inv B [(a, gobj gn nm qn)] σ' H' s → s.heap.IsGen a gn := fun {σ' H' s} I =>
    ⟨_, nm, qn, (I.pin (a, gobj gn nm qn) (List.mem_append_right _ List.mem_cons_self)).1, rfl, rfl, rfl⟩
  intro n
  induction n with
  | zero =>
    intro s ⟨gs, σ', H', hgs, hb, I, go⟩
    refine codeAny_builtin F.entry_all_loop ?_
    rw [Around.under_plainId F.plain_all_loop _]
    show wpAny _ A.in1 (pyNext (.ref a) >>= _) _ _ s
    refine wpAny_bind (wpAny_pyNext_genexpQ (A := A.in1) (n := 0) (P := PA_ B (a, gobj gn nm qn) σ0 Q) (Y := YA_ B (a, gobj gn nm qn) Q) hh I.nolimit hroom (hg I) hgs (go _ rfl rfl (allBare_setGen I.bare rfl)) (fun v s₁ gs' hb' hv => ?_) fun s₁ hp h' hk => ?_)
    · obtain ⟨b, σ1, H1, rfl, I1, hsz, hf, ht⟩ := hv
      refine wpAny_bind (wpAny_holding (wpAny_truthy_bool ?_))
      refine wpAny_bind (wpAny_letGo ?_)
      cases b with
      | true => exact (ht rfl s₁ rfl rfl I1.bare).elim
      | false =>
        simp only [Bool.false_eq_true, if_false]
        exact wpAny_bind (wpAny_rule (wpAny_pure ⟨false, σ1, H1, rfl, inv_same I1 rfl rfl (allBare_setGen I1.bare hb'), hf rfl⟩))
    · obtain ⟨H1, I1, hsz, q⟩ := hp
      refine wpAny_bind (wpAny_rule (wpAny_pure ?_))
      exact ⟨true, σ0, H1, rfl, inv_same (s' := { s₁.setGen gn .finished with heap := h' }) (I1.kept (t' := s₁.toks) hk) rfl rfl (allBare_setGen I1.bare rfl), q⟩
  | succ n ih =>
    intro s ⟨gs, σ', H', hgs, hb, I, go⟩
    refine codeAny_builtin F.entry_all_loop ?_
    rw [Around.under_plainId F.plain_all_loop _]
    show wpAny _ A.in1 (pyNext (.ref a) >>= _) _ _ s
    refine wpAny_bind (wpAny_pyNext_genexpQ (A := A.in1) (n := n + 1) (P := PA_ B (a, gobj gn nm qn) σ0 Q) (Y := YA_ B (a, gobj gn nm qn) Q) hh I.nolimit hroom (hg I) hgs (go _ rfl rfl (allBare_setGen I.bare rfl)) (fun v s₁ gs' hb' hv => ?_) fun s₁ hp h' hk => ?_)
    · obtain ⟨b, σ1, H1, rfl, I1, hsz, hf, ht⟩ := hv
      have hlt : gn < s₁.gens.size := by
        have h1 : gn < s.gens.size := by
          rcases Nat.lt_or_ge gn s.gens.size with z | z
          · exact z
          · rw [Array.getElem?_eq_none z] at hgs
            cases hgs
        have h2 : (s.setGen gn .running).gens.size = s.gens.size := GenW.setGen_size _ _ _
        omega
      refine wpAny_bind (wpAny_holding (wpAny_truthy_bool ?_))
      refine wpAny_bind (wpAny_letGo ?_)
      cases b with
      | true =>
        simp only [if_true]
        refine wpAny_pure ⟨plainId_quiet F.plain_all_loop _, ih _ ⟨gs', σ1, H1, setGen_at hlt, hb', inv_same I1 rfl rfl (allBare_setGen I1.bare hb'), fun s'' e1 e2 e3 => ?_⟩⟩
        exact ht rfl s'' e1 e2 e3
      | false =>
        simp only [Bool.false_eq_true, if_false]
        exact wpAny_bind (wpAny_rule (wpAny_pure ⟨false, σ1, H1, rfl, inv_same I1 rfl rfl (allBare_setGen I1.bare hb'), hf rfl⟩))
    · obtain ⟨H1, I1, hsz, q⟩ := hp
      refine wpAny_bind (wpAny_rule (wpAny_pure ?_))
      exact ⟨true, σ0, H1, rfl, inv_same (s' := { s₁.setGen gn .finished with heap := h' }) (I1.kept (t' := s₁.toks) hk) rfl rfl (allBare_setGen I1.bare rfl), q⟩
end

/-- the turns of all(..) over what J hands out -/
def AllW (J : It) (g : TG) (te : TE) (vs : List Nat) (σ : L2.St) (H2 : Hp) (Q : VK) : Prop := ∃ W : Nat → Nat → Hp → Prop, (∃ m, W 0 m H2) ∧ ∀ i m H, W i m H →
  (J.stop i H ∧ Q (.bl true) H) ∨ (J.go i H ∧ ∃ Nx : Hp → Prop, (∀ H', Nx H' → ∃ m', m' < m ∧ W (i + 1) m' H') ∧ ∀ x H', J.yld i H x H' → g x (wipe σ vs) H' fun σ2 H3 => wipe σ2 vs = wipe σ vs ∧
    te σ2 H3 fun y H4 => ∃ b, y = .bl b ∧ if b = true then Nx H4 else Q (.bl false) H4)
/-- all(element for target in walked); P: where the def's table of code objects stands -/
def tAllG (P : Addr) (wi : TI) (g : TG) (te : TE) (vs : List Nat) : TE := fun σ H Q => wi σ H fun J H1 => TabG H1 P ∧ ∀ H2, Tabbed P H1 H2 → AllW J g te vs σ H2 Q
section
variable {X : Cx}
theorem pe_allG {c P : Addr} {elt tg iter : Expr} {p pos gpos : Pos} {scope : Scope} {own : List (Str × Nat)} {wi : TI} {g : TG} {te : TE} {k : Nat}
    (hr : Room (k + 1) X.A) (hg : Gl X "all") (hm : X.mg "all" = none) (TB : TabB X.base X.mg c P) (hcode : X.env.code = .ref c) (hc : X.calm = true) (hN : X.N.Nodup) (ok : BlkOk X.N X.env.scope scope own)
    (hcell : ∀ y ∈ scope.names, y.2 ≠ .cell) (hdot : scope.names.lookup (".0" : Str) = some NameKind.local) (hco : scope.isCoroutine = false) (hi : PI X tg iter wi)
    (hpg : ∀ (s : Shared) (H : Hp) (C : Addr) (cl : List (Str × Addr)) (code : Value) (fp : List Addr) (A' : Around), PG (gcx X s H (genEnv scope cl C code builtinsNs X.env) fp A') tg g)
    (hpe : ∀ (s : Shared) (H : Hp) (C : Addr) (cl : List (Str × Addr)) (code : Value) (fp : List Addr) (A' : Around), Room k A' → PE (gcx X s H (genEnv scope cl C code builtinsNs X.env) fp A') elt te)
    (hs : ∀ v, genFold iter X.env v = pure v) (hb : bootBuiltins "all" = some (.builtin "all") := by decide +kernel)
    (he : starEach [.GeneratorExp elt [⟨tg, iter, [], 0⟩] scope gpos] X.env = (false, eval (.GeneratorExp elt [⟨tg, iter, [], 0⟩] scope gpos) X.env) :: starEach [] X.env := by rfl) :
    PE X (.Call (.Name "all" p) [.GeneratorExp elt [⟨tg, iter, [], 0⟩] scope gpos] [] pos) (tAllG P wi g te (own.map (·.2))) := by
  refine ⟨fun pins s σ H Q I h => ?_⟩
  have hfree : ∀ y ∈ scope.names, y.2 = .free → ∃ c, X.env.cells.lookup y.1 = some c := fun y hy e => by
    rcases ok.free y hy e with k | k
    · exact I.ok.has _ (.inl k)
    · exact I.ok.has _ (.inr k)
  refine wpAny_Call_Name_kw (ld_blt I hg hm hb ?_)
  refine PyProof.Rows.callWith_builtin1 ?_ he (by rfl)
  rw [he]
  show wpAny _ _ (spliced ((false, eval (.GeneratorExp elt [⟨tg, iter, [], 0⟩] scope gpos) X.env) :: backTo pos (starEach [] X.env))) _ _ s
  refine Calls.spliced_cons (wpAny_GeneratorExp_make hco (closure_ok hfree) hcell hdot ok.kind (by have := hr.dp; omega) ?_ hs)
  refine thn (hi.run pins s σ H _ I h) fun xv s1 hx => thn hx fun itv s2 h2 => ?_
  obtain ⟨it, fp, tn, J, H1, rfl, I2, T, st2, f2, ⟨ps, hP, ht⟩, q⟩ := h2
  have hPs : s2.heap.get? P = some { cls := .none, data := .fields ps } := I2.hok P _ hP
  have cd : PySem.W.CodeHd s2.heap c P := TB.code.keeps fun b u e => I2.bk b u e
  refine ⟨I2.nolimit, ?_⟩
  -- with the code object at hand
  have cont : ∀ (code : Value) (h3 : Heap) (tk : Nat) (ps' : Array Value), Heap.ExtBut P s2.heap h3 → h3.get? P = some { cls := .none, data := .fields ps' } → (∃ more, ps' = ps ++ more) → TriplesOk ps'.toList →
      wpAny (model X.prog X.w) X.A (builtinsFor X.env.globals X.env.builtins) (fun bi s₄ =>
        ∀ h', h'.Ns s₄.heap.objs.size (fun y => if y = ".0" then some (.ref it) else none) → Heap.SameBut s₄.heap.objs.size (s₄.heap.push { cls := .type "frame", data := .dict #[] }) h' →
          wpAny (model X.prog X.w) X.A (spliced (backTo pos (starEach [] X.env))) (fun r s' => wpAny (model X.prog X.w) X.A (call (.builtin "all") (.ref h'.objs.size :: r)) (EP X pins σ Q) X.xe s') X.xe { s₄ with
            gens := s₄.gens.push (.fresh (.compStart (.GeneratorExp elt [⟨tg, iter, [], 0⟩] scope gpos) 0 (.ref it) .none (genEnv scope (cloFrom X.env.cells scope.names []) s₄.heap.objs.size code bi X.env))),
            toks := s₄.toks + 1 + 1 + 1,
            heap := h'.push { cls := .type "generator", data := .fields #[.int s₄.gens.size 0, .str "<genexpr>" (s₄.toks + 1), .str (X.env.qual ++ "<genexpr>") (s₄.toks + 1 + 1)] } }) X.xe { s2 with heap := h3, toks := tk } := by
    intro code h3 tk ps' hx hP3 ⟨more, em⟩ ht3
    obtain ⟨bm, ob, e1, e2, e3, e4, e5, e6, e7, e8⟩ := TB.bm
    have keep3 : ∀ b u, b ≠ P → s2.heap.get? b = some u → h3.get? b = some u := fun b u hb e => hx b u hb e
    have I3 : Inv X pins σ (upd H1 P (.tbl (ps ++ more))) { s2 with heap := h3, toks := tk } := inv_tab (more := more) (h' := h3) (g' := s2.gens) (d' := s2.drawn) (t' := tk) I2 hP keep3 (by rw [← em]; exact hP3) I2.bare
    refine wpAny_builtinsFor (m := X.mg) (by rw [I2.ok.glob]; exact (I2.mod.glob.keeps I2.bk).extBut hx TB.gP) e1 e2 (keep3 _ _ e4 (I2.bk _ _ e5)) e6 e7 e8 ?_
    obtain ⟨W, ⟨m0, w0⟩, turn⟩ := q (upd H1 P (.tbl (ps ++ more))) ⟨⟨ps ++ more, upd_same, by rw [← em]; exact ht3⟩, fun b hb => upd_ne hb⟩
    generalize hH3 : upd H1 P (.tbl (ps ++ more)) = H3 at I3 w0
    generalize hs3 : ({ s2 with heap := h3, toks := tk } : Shared) = s3 at I3 ⊢
    have e3h : s3.heap = h3 := by rw [← hs3]
    have fpP : ∀ b ∈ fp, b ≠ P := fun b hb z => by
      have := (f2 b hb).1
      rw [z, hP] at this
      cases this
    have f3 : ∀ b ∈ fp, FpOk X pins H3 b ∧ b < s3.heap.objs.size := fun b hb => by
      obtain ⟨o, e, _⟩ := T.obj _ _ st2 b hb
      have hlt : b < s3.heap.objs.size := by rw [e3h]; exact Heap.lt_size (keep3 b o (fpP b hb) e)
      refine ⟨⟨?_, (f2 b hb).2⟩, hlt⟩
      rw [← hH3, upd_ne (fpP b hb)]
      exact (f2 b hb).1
    have st3 : tn 0 s3.heap := by
      rw [e3h]
      exact T.keep _ _ _ st2 fun b hb o e => keep3 b o (fpP b hb) e
    intro h' hn' hs'
    have hsz : h'.objs.size = s3.heap.objs.size + 1 := by rw [hs'.1, Heap.size_push]
    have keep' : ∀ b o, s3.heap.get? b = some o → h'.get? b = some o := fun b o e => hs'.extBut b o (Nat.ne_of_lt (Heap.lt_size e)) (Heap.get?_push_of_some _ e)
    generalize hgo : gobj s3.gens.size (.str "<genexpr>" (s3.toks + 1)) (.str (X.env.qual ++ "<genexpr>") (s3.toks + 1 + 1)) = go
    have hce : ∀ code', (genEnv scope (cloFrom X.env.cells scope.names []) s3.heap.objs.size code' builtinsNs X.env).scope.isCoroutine = false := fun _ => hco
    have I5 := gen_start (g5 := s3.gens.push (.fresh (.compStart (.GeneratorExp elt [⟨tg, iter, [], 0⟩] scope gpos) 0 (.ref it) .none (genEnv scope (cloFrom X.env.cells scope.names []) s3.heap.objs.size code builtinsNs X.env)))) (tk := s3.toks + 1 + 1 + 1) (h5 := h'.push go) (a := h'.objs.size) (go := go) (code := code)
      (A' := (X.A.in1.in1.over (cl_ elt tg iter scope gpos it (genEnv scope (cloFrom X.env.cells scope.names []) s3.heap.objs.size code builtinsNs X.env)) []))
      I3 hc ok hcell hN f3 hr.hd (over_frames (A := X.A.in1.in1) I3.ok.frames) (hn'.push _) (fun b o e => Heap.get?_push_of_some _ (keep' b o e)) (I3.bare.push rfl) (by rw [hsz]; exact Nat.lt_succ_self _) (by rw [← hgo]; exact Heap.get?_push_size _ rfl) (by rw [← hgo]; intro v z; cases z)
    have pg := hpg s3 H3 s3.heap.objs.size (cloFrom X.env.cells scope.names []) code fp (X.A.in1.in1.over (cl_ elt tg iter scope gpos it (genEnv scope (cloFrom X.env.cells scope.names []) s3.heap.objs.size code builtinsNs X.env)) [])
    have pe := hpe s3 H3 s3.heap.objs.size (cloFrom X.env.cells scope.names []) code fp (X.A.in1.in1.over (cl_ elt tg iter scope gpos it (genEnv scope (cloFrom X.env.cells scope.names []) s3.heap.objs.size code builtinsNs X.env)) []) (over_room hr)
    have hcoe := hce code
    generalize hceq : genEnv scope (cloFrom X.env.cells scope.names []) s3.heap.objs.size code builtinsNs X.env = ce at I5 pg pe hcoe ⊢
    have hafp : ∀ b ∈ fp, b ≠ h'.objs.size := fun b hb => by
      have := (f3 b hb).2
      exact Nat.ne_of_lt (show b < h'.objs.size from Nat.lt_of_lt_of_le this (by rw [hsz]; exact Nat.le_succ _))
    have goe : ({ cls := .type "generator", data := .fields #[.int s3.gens.size 0, .str "<genexpr>" (s3.toks + 1), .str (X.env.qual ++ "<genexpr>") (s3.toks + 1 + 1)] } : Obj) = go := hgo
    rw [goe]
    refine Calls.spliced_nil ?_
    show wpAny _ _ (call (.builtin "all") [.ref h'.objs.size]) _ _ _
    generalize hs5 : ({ s3 with gens := s3.gens.push (.fresh (.compStart (.GeneratorExp elt [⟨tg, iter, [], 0⟩] scope gpos) 0 (.ref it) .none ce)), toks := s3.toks + 1 + 1 + 1, heap := h'.push go } : Shared) = s5
    have I5' : Inv (bx X s3 H3 ce fp X.A.in1.in1 elt tg iter scope gpos it) [(h'.objs.size, go)] (wipe σ (own.map (·.2))) H3 s5 := by
      rw [← hs5]
      exact I5
    have hgen5 : s5.heap.IsGen h'.objs.size s3.gens.size := by
      rw [← hs5]
      exact ⟨go, _, _, by rw [← hgo]; exact Heap.get?_push_size _ rfl, by rw [← hgo], by rw [← hgo], by rw [← hgo]⟩
    refine call_function_tree F.kind_all F.plain_all F.entry_all (F.args_all1 _) ?_
    unfold Builtin.«all»
    refine wpAny_bind (m := oneArg "all" _) (wpAny_pure ?_)
    refine wpAny_bind (wpAny_pyIter_gen hgen5 ?_)
    refine wpAny_pure ⟨plainId_quiet F.plain_all_loop _, ?_⟩
    -- how it goes when it is woken
    have L0 : LS (bx X s3 H3 ce fp X.A.in1.in1 elt tg iter scope gpos it) X.A h'.objs.size s3.gens.size (.str "<genexpr>" (s3.toks + 1)) (.str (X.env.qual ++ "<genexpr>") (s3.toks + 1 + 1)) (wipe σ (own.map (·.2))) Q (m0 + 1) s5 := by
      unfold LS
      rw [hgo]
      refine ⟨.fresh (.compStart (.GeneratorExp elt [⟨tg, iter, [], 0⟩] scope gpos) 0 (.ref it) .none ce), _, H3, by rw [← hs5]; exact Array.getElem?_push_size .., rfl, I5', fun s'' e1 e2 e3 => ⟨rfl, ?_⟩⟩
      have st5 : tn 0 s''.heap := by
        rw [e1, ← hs5]
        exact T.keep _ _ _ st3 fun b _ o e => Heap.get?_push_of_some _ (keep' b o e)
      have loop : Seg (model X.prog X.w) X.A.in1.in1 _ _ (m0 + 1) s'' (cl_ elt tg iter scope gpos it ce) ((model X.prog X.w).den (cl_ elt tg iter scope gpos it ce)) [] s'' :=
        seg_all (go := go) (a := h'.objs.size) (Q := Q) (vs := own.map (·.2)) hc hcoe T hafp pg pe (W := W) (σ0 := wipe σ (own.map (·.2))) turn m0 (m0 + 1) 0 s'' s'' (Nat.lt_succ_self _) (Nat.le_refl _) ⟨H3, inv_same I5' e1 e2 e3, st5, fun b hb => (f3 b hb).1.1, w0⟩
      have hh' : (X.A.in1.in1.over (.compStart (.GeneratorExp elt [⟨tg, iter, [], 0⟩] scope gpos) 0 (.ref it) .none ce) []).handled = none := hr.hd
      show Seg _ X.A.in1.in1 _ _ _ _ _ ((compStart (.GeneratorExp elt [⟨tg, iter, [], 0⟩] scope gpos) 0 (.ref it) .none ce).onRaise (leaving ce)) [] s''
      unfold compStart
      rw [Sem.onRaise_eq_wrap]
      show Seg _ X.A.in1.in1 _ _ _ _ _ ((ask >>= _).wrap _ _ _ _) [] s''
      refine seg_bind_wrap (wpAny_askSetting ?_)
      split
      · exact seg_again rfl loop
      · first
          | exact seg_bind_wrap (wpAny_rule (seg_bind_wrap (wpAny_standAt (seg_bind_wrap (T.self _ 0 _ _ _ st5 (seg_again rfl loop))))))
          | (refine seg_bind_wrap (wpAny_rule ?_); show Seg _ X.A.in1.in1 _ _ _ _ _ ((standAt iter.pos >>= _).wrap _ _ _ _) [] s''; exact seg_bind_wrap (wpAny_standAt (seg_bind_wrap (T.self _ 0 _ _ _ st5 (seg_again rfl loop)))))
    refine codeAny_mono (all_loop (B := bx X s3 H3 ce fp X.A.in1.in1 elt tg iter scope gpos it) hr.hd (by have := hr.dp; omega) (m0 + 1) s5 L0) fun r s' hq => ?_
    obtain ⟨bb, σ', H', rfl, I6, qq⟩ := hq
    refine ⟨.bl bb, H', I3.call' (ch := fp) I6.os I6.base I6.hok I6.bare fun b hb => ⟨(f3 b hb).1.2.2.2.1, (f3 b hb).1.2.1, (f3 b hb).1.2.2.2.2.1, (f3 b hb).1.2.2.2.2.2⟩, rfl, qq⟩
  cases hf : codeAmong gpos ps.toList with
  | none =>
    refine wpAny_genexprCodeX hcode (cd.code hPs ht) (cd.tab hPs) hf fun c' h' tk hx hge hlt hco' _ htab' _ => ?_
    obtain ⟨o1, vs, f1, tf, fl, tg', inF, tx, tt, op, _, _, _, _, _, _, _, _, _, htr, _⟩ := hco'
    exact cont _ h' tk _ hx htab'.2 ⟨_, rfl⟩ htr
  | some cv =>
    refine wpAny_genexprCode_hit hcode (cd.code hPs ht) hf ?_
    exact cont cv s2.heap s2.toks ps (Heap.ExtBut.refl _ _) hPs ⟨#[], by simp⟩ ht
end
end RG
end
section
set_option Elab.async false
set_option linter.all false
set_option maxRecDepth 100000
set_option maxHeartbeats 2000000
/-! dicts (every value True) whose keys are nested tuples of ints, texts and None: {k: True}, in, not in, d[k] = True, list(d), {x: True for x in t} -/
namespace ND
open PySem PySem.Spec PyProof.Rows L2

section
variable {X : Cx} {pins : List (Addr × Obj)} {σ : L2.St} {H : Hp} {s : Shared}
mutual
/-- tracked data is a key of the raw heap -/
theorem key_raw (I : Inv X pins σ H s) : ∀ (k : NestedKey) (v : V) (u : Value), Dp X.K H v k.data → RelV v u → NestedIs s.heap k u
  | .none, v, u, h, r => by
    rw [NestedKey.data] at h
    cases h
    cases r
    exact .none
  | .num i, v, u, h, r => by
    rw [NestedKey.data] at h
    cases h
    obtain ⟨t, rfl⟩ := r
    exact .int _ _
  | .text x, v, u, h, r => by
    rw [NestedKey.data] at h
    cases h
    obtain ⟨t, rfl⟩ := r
    exact .text _ _
  | .tup ks, v, u, h, r => by
    rw [NestedKey.data] at h
    cases h with
    | tup hs ha =>
      cases r
      obtain ⟨its, rv, ⟨o, ho, hc, n, hd⟩, _⟩ := I.tuple hs
      exact .tup ho hc hd (by simpa using keys_raw I ks _ its ha rv)
theorem keys_raw (I : Inv X pins σ H s) : ∀ (ks : List NestedKey) (vs : List V) (us : List Value), DpAll X.K H vs (NestedKey.datas ks) → Vals vs us → NestedAll s.heap ks us
  | [], vs, us, h, r => by
    rw [NestedKey.datas] at h
    cases h
    cases r
    exact .nil
  | k :: ks, vs, us, h, r => by
    rw [NestedKey.datas] at h
    cases h with
    | cons h1 h2 =>
      cases r with
      | cons r1 r2 => exact .cons (key_raw I k _ _ h1 r1) (keys_raw I ks _ _ h2 r2)
end
end

def entW (x : NestedKey × Addr) : NestedKey × Addr × Value := (x.1, x.2, .bool true)
/-- such a dict, as it stands at d -/
def SnO (P : Program) (w : World) (d : Addr) (xs : List (NestedKey × Addr)) : HO := .ext fun h => ∃ o es ep, h.get? d = some o ∧ o.ExactDict ∧ o.data = .dict es ep ∧ es.toList = (xs.map entW).map (entryOfKey (nestedKind P w))
/-- at d stands a dict with the keys ks, in this order -/
def SeenAt (K : PySem.W.Frag) (P : Program) (w : World) (H : Hp) (d : Addr) (ks : List NestedKey) : Prop :=
  ∃ xs : List (NestedKey × Addr), xs.map (·.1) = ks ∧ ks.Nodup ∧ ks.length ≤ sizeLine ∧ (d == sysModules) = false ∧ H d = some (SnO P w d xs) ∧ ∀ x ∈ xs, Dp K H (.ref x.2) x.1.data ∧ x.1.depth ≤ 8

mutual
/-- data stays where the objects that it stands on stay -/
theorem dp_stays {K : PySem.W.Frag} {H H' : Hp} (e : ∀ (b : Addr) (xs : List V), SqT K H b xs → SqT K H' b xs) (e' : ∀ (b : Addr) (xs : List V), SqL K H b xs → SqL K H' b xs) : ∀ (d : PyData) (v : V), Dp K H v d → Dp K H' v d
  | .none, v, h => by cases h; exact .non
  | .bool _, v, h => by cases h; exact .bl _
  | .int _, v, h => by cases h; exact .int _
  | .str _, v, h => by cases h; exact .str _
  | .list ds, v, h => by cases h with | lst a b => exact .lst (e' _ _ a) (dps_stay e e' ds _ b)
  | .tuple ds, v, h => by cases h with | tup a b => exact .tup (e _ _ a) (dps_stay e e' ds _ b)
  | .dict _, v, h => by cases h
theorem dps_stay {K : PySem.W.Frag} {H H' : Hp} (e : ∀ (b : Addr) (xs : List V), SqT K H b xs → SqT K H' b xs) (e' : ∀ (b : Addr) (xs : List V), SqL K H b xs → SqL K H' b xs) : ∀ (ds : List PyData) (vs : List V), DpAll K H vs ds → DpAll K H' vs ds
  | [], _, h => by cases h; exact .nil
  | d :: ds, _, h => by cases h with | cons a b => exact .cons (dp_stays e e' d _ a) (dps_stay e e' ds _ b)
end
theorem dp_same {K : PySem.W.Frag} {H H' : Hp} (e : Same H H') {v : V} {d : PyData} (h : Dp K H v d) : Dp K H' v d :=
  dp_stays (fun b xs q => q.elim (fun q => .inl (q.elim (fun q => .inl (e _ _ q)) fun ⟨o, q⟩ => .inr ⟨o, e _ _ q⟩)) fun q => .inr q) (fun b xs q => e.seq q) d v h
mutual
/-- a key holds no list -/
theorem key_stays {K : PySem.W.Frag} {H H' : Hp} (e : ∀ (b : Addr) (xs : List V), SqT K H b xs → SqT K H' b xs) : ∀ (k : NestedKey) (v : V), Dp K H v k.data → Dp K H' v k.data
  | .none, v, h => by rw [NestedKey.data] at h ⊢; cases h; exact .non
  | .num _, v, h => by rw [NestedKey.data] at h ⊢; cases h; exact .int _
  | .text _, v, h => by rw [NestedKey.data] at h ⊢; cases h; exact .str _
  | .tup ks, v, h => by rw [NestedKey.data] at h ⊢; cases h with | tup a b => exact .tup (e _ _ a) (keys_stay e ks _ b)
theorem keys_stay {K : PySem.W.Frag} {H H' : Hp} (e : ∀ (b : Addr) (xs : List V), SqT K H b xs → SqT K H' b xs) : ∀ (ks : List NestedKey) (vs : List V), DpAll K H vs (NestedKey.datas ks) → DpAll K H' vs (NestedKey.datas ks)
  | [], _, h => by rw [NestedKey.datas] at h ⊢; cases h; exact .nil
  | k :: ks, _, h => by rw [NestedKey.datas] at h ⊢; cases h with | cons a b => exact .cons (key_stays e k _ a) (keys_stay e ks _ b)
end
theorem tup_upd {K : PySem.W.Frag} {H : Hp} {d : Addr} {o : HO} (hd : ∀ xs, H d ≠ some (.tup xs)) (hf : ∀ q u, H d ≠ some (.frz q u)) (b : Addr) (xs : List V) (h : SqT K H b xs) : SqT K (upd H d o) b xs := by
  rcases h with (h | ⟨q, h⟩) | h
  · exact .inl (.inl (by rw [upd_ne (fun z => hd xs (by rw [← z]; exact h))]; exact h))
  · exact .inl (.inr ⟨q, by rw [upd_ne (fun z => hf q _ (by rw [← z]; exact h))]; exact h⟩)
  · exact .inr h
theorem SeenAt.same {K : PySem.W.Frag} {P : Program} {w : World} {H H' : Hp} {d : Addr} {ks : List NestedKey} (h : SeenAt K P w H d ks) (hd : H' d = H d) (e : ∀ (b : Addr) (xs : List V), SqT K H b xs → SqT K H' b xs) : SeenAt K P w H' d ks := by
  obtain ⟨xs, h1, h2, h3, h4, h5, h6⟩ := h
  exact ⟨xs, h1, h2, h3, h4, by rw [hd]; exact h5, fun x hx => ⟨key_stays e _ _ (h6 x hx).1, (h6 x hx).2⟩⟩
theorem SeenAt.len {K : PySem.W.Frag} {P : Program} {w : World} {H : Hp} {d : Addr} {ks : List NestedKey} (h : SeenAt K P w H d ks) : ks.Nodup := by
  obtain ⟨xs, h1, h2, h3, h4, h5, h6⟩ := h
  exact h2
theorem at_mem (k : NestedKey) : ∀ xs : List (NestedKey × Addr), (atKey (xs.map entW) k).isSome = decide (k ∈ xs.map (·.1))
  | [] => rfl
  | x :: xs => by
    have ih := at_mem k xs
    by_cases h : x.1 = k
    · simp [atKey, entW, h]
    · have h' : ¬ k = x.1 := fun e => h e.symm
      have e1 : atKey ((x :: xs).map entW) k = atKey (xs.map entW) k := by simp [atKey, entW, h]
      rw [e1, ih]
      simp [h']
section
variable {X : Cx} {pins : List (Addr × Obj)} {σ : L2.St} {H : Hp} {s : Shared} {d : Addr} {ks : List NestedKey}
theorem raw_of {xs : List (NestedKey × Addr)} (I : Inv X pins σ H s) (hn : (xs.map (·.1)).Nodup) (hd : H d = some (SnO X.prog X.w d xs)) (hx : ∀ x ∈ xs, Dp X.K H (.ref x.2) x.1.data ∧ x.1.depth ≤ 8) : s.heap.DictOfH (nestedKind X.prog X.w) d (xs.map entW) := by
  obtain ⟨⟨o, es, ep, h1, h2, h3, h4⟩, _⟩ := I.hok d _ hd
  refine ⟨o, es, ep, h1, h2, h3, h4, fun y hy => ?_, ?_⟩
  · obtain ⟨x, hm, rfl⟩ := List.mem_map.mp hy
    exact ⟨key_raw I _ _ _ (hx x hm).1 rfl, (hx x hm).2⟩
  · rw [List.map_map]
    exact hn
theorem ext_new {H' : Hp} {h' : Heap} {xs : List (NestedKey × Addr)} {o : Obj} {es : Array DictEntry} {ep : Nat} (h1 : h'.get? d = some o) (h2 : o.ExactDict) (h3 : o.data = .dict es ep) (h4 : es.toList = (xs.map entW).map (entryOfKey (nestedKind X.prog X.w))) : ObjOk X.prog X.w H' h' d (SnO X.prog X.w d xs) :=
  ⟨⟨o, es, ep, h1, h2, h3, h4⟩, ⟨o, h1⟩, fun g1 g2 ⟨o, es, ep, k1, k2⟩ k => ⟨o, es, ep, k o k1, k2⟩⟩

/-! ### in, not in -/
def rInN (K : PySem.W.Frag) (P : Program) (w : World) (neg : Bool) : R2 := fun x y H Q => ∃ a d k ks, x = .ref a ∧ y = .ref d ∧ Dp K H (.ref a) (NestedKey.data k) ∧ k.depth ≤ 8 ∧ SeenAt K P w H d ks ∧ Q (.bl (if neg then !decide (k ∈ ks) else decide (k ∈ ks))) H
theorem op_inN (hu : X.A.units + 64 < cLine) : OpR X (compareOp .In) (rInN X.K X.prog X.w false) := by
  intro pins s σ H x y v u Q I rx ry h
  obtain ⟨a, d, k, ks, rfl, rfl, hk, hz, ⟨xs, rfl, hn, _, hm, hd, hx⟩, q⟩ := h
  cases rx
  cases ry
  refine wpAny_in_heap (knd := nestedKind X.prog X.w) (k := k) (show X.A.units + 1 + 8 < cLine by omega) ⟨key_raw I k _ _ hk rfl, hz⟩ hm (raw_of I hn hd hx) ⟨.bl _, H, I.tok _, rfl, ?_⟩
  rw [at_mem]
  exact q
theorem op_notInN (hu : X.A.units + 64 < cLine) : OpR X (compareOp .NotIn) (rInN X.K X.prog X.w true) := by
  intro pins s σ H x y v u Q I rx ry h
  obtain ⟨a, d, k, ks, rfl, rfl, hk, hz, ⟨xs, rfl, hn, _, hm, hd, hx⟩, q⟩ := h
  cases rx
  cases ry
  refine wpAny_notIn_heap (knd := nestedKind X.prog X.w) (k := k) (show X.A.units + 1 + 8 < cLine by omega) ⟨key_raw I k _ _ hk rfl, hz⟩ hm (raw_of I hn hd hx) ⟨.bl _, H, I.tok _, rfl, ?_⟩
  rw [at_mem]
  exact q

/-! ### a new key -/
/-- what is asked for a store of a new key: v = True -/
def NewKey (K : PySem.W.Frag) (P : Program) (w : World) (x y v : V) (H : Hp) (Q : Hp → Prop) : Prop := ∃ d a k ks, x = .ref d ∧ y = .ref a ∧ v = .bl true ∧ Dp K H (.ref a) (NestedKey.data k) ∧ k.depth ≤ 8 ∧ SeenAt K P w H d ks ∧ k ∉ ks ∧ ks.length < sizeLine ∧
  ∀ H', SeenAt K P w H' d (ks ++ [k]) → (∀ b, b ≠ d → H' b = H b) → Q H'
theorem grow {k : NestedKey} {a : Addr} {h' : Heap} {t' : Nat} {xs : List (NestedKey × Addr)} (I : Inv X pins σ H s) (hk : Dp X.K H (.ref a) (NestedKey.data k)) (hz : k.depth ≤ 8) (hn : (xs.map (·.1)).Nodup) (hm : (d == sysModules) = false) (hd : H d = some (SnO X.prog X.w d xs))
    (hx : ∀ x ∈ xs, Dp X.K H (.ref x.2) x.1.data ∧ x.1.depth ≤ 8) (hk' : k ∉ xs.map (·.1)) (hl : (xs.map (·.1)).length < sizeLine) (dd : h'.DictOfH (nestedKind X.prog X.w) d (storedH (xs.map entW) k a (.bool true))) (hs : Heap.SameBut d s.heap h') :
    ∃ H', Inv X pins σ H' { s with heap := h', toks := t' } ∧ SeenAt X.K X.prog X.w H' d (xs.map (·.1) ++ [k]) ∧ ∀ b, b ≠ d → H' b = H b := by
  have e0 : atKey (xs.map entW) k = none := by
    have := at_mem k xs
    rw [decide_eq_false hk'] at this
    cases q : atKey (xs.map entW) k with
    | none => rfl
    | some v => rw [q] at this; cases this
  have e1 : storedH (xs.map entW) k a (.bool true) = (xs ++ [(k, a)]).map entW := by
    rw [storedH_new e0, List.map_append]
    rfl
  rw [e1] at dd
  obtain ⟨o, es, ep, h1, h2, h3, h4, _, h5⟩ := dd
  have noT : ∀ (b : Addr) (ys : List V), SqT X.K H b ys → SqT X.K (upd H d (SnO X.prog X.w d (xs ++ [(k, a)]))) b ys :=
    tup_upd (fun ys z => by rw [hd] at z; cases z) (fun q u z => by rw [hd] at z; cases z)
  refine ⟨upd H d (SnO X.prog X.w d (xs ++ [(k, a)])), d_write I (by rw [hd]; exact True.intro) hs ⟨o, h1⟩ (ext_new h1 h2 h3 h4), ⟨xs ++ [(k, a)], by rw [List.map_append]; rfl, ?_, ?_, hm, upd_same, fun x hxm => ?_⟩, fun b hb => upd_ne hb⟩
  · rw [List.nodup_append]
    exact ⟨hn, by simp, fun y hy z hz e => hk' (by rw [List.mem_singleton.mp hz] at e; rw [← e]; exact hy)⟩
  · rw [List.length_append]
    exact hl
  · rcases List.mem_append.mp hxm with q | q
    · exact ⟨key_stays noT _ _ (hx x q).1, (hx x q).2⟩
    · rw [List.mem_singleton.mp q]
      exact ⟨key_stays noT _ _ hk, hz⟩
/-- d[k] = True -/
def sDPutN (K : PySem.W.Frag) (P : Program) (w : World) (td ty tv : TE) : TS := fun D σ H => tv σ H fun v H1 => td σ H1 fun x H2 => ty σ H2 fun y H3 => NewKey K P w x y v H3 fun H4 => D.nx σ H4
theorem ps_dputN {o i value : Expr} {pos pos' : Pos} {td ty tv : TE} (hu : X.A.units + 64 < cLine) (ho : PE X o td) (hi : PE X i ty) (hv : PE X value tv) (hs : swapsWith value (some (.Subscript o i pos')) pos.line X.env = pure false := by rfl) :
    PS X (.Assign [.Subscript o i pos'] value pos) (sDPutN X.K X.prog X.w td ty tv) := by
  refine ⟨fun pins s σ H D I h => ?_⟩
  refine wpAny_Assign_Subscript (thn (hv.run pins s σ H _ I h) fun r s1 ⟨v, H1, I1, rv, q1⟩ => thn (ho.run pins s1 σ H1 _ I1 q1) fun u s2 ⟨x, H2, I2, rx, q2⟩ => thn (hi.run pins s2 σ H2 _ I2 q2) fun iv s3 ⟨y, H3, I3, ry, q3⟩ => ?_) hs
  obtain ⟨d, a, k, ks, rfl, rfl, rfl, hk, hz, ⟨xs, rfl, hn, _, hm, hd, hx⟩, hk', hl, q⟩ := q3
  obtain rfl : u = Value.ref d := rx
  obtain rfl : iv = Value.ref a := ry
  obtain rfl : r = Value.bool true := rv
  refine wpAny_setItem_heap (knd := nestedKind X.prog X.w) (k := k) (show X.A.units + 1 + 8 < cLine by omega) ⟨key_raw I3 k _ _ hk rfl, hz⟩ (raw_of I3 hn hd hx) (fun h' dd hs' => ?_) (by rw [List.length_map]; rw [List.length_map] at hl; exact Nat.le_of_lt hl)
  obtain ⟨H4, I4, S4, k4⟩ := grow I3 hk hz hn hm hd hx hk' hl dd hs'
  exact ⟨σ, H4, I4, q H4 S4 k4⟩

/-! ### {k: True} -/
def dispEnd (K : PySem.W.Frag) (P : Program) (w : World) (d : Addr) (Q : VK) (x y : V) (H2 : Hp) : Prop := ∃ a k, x = .ref a ∧ y = .bl true ∧ H2 d = some (.dK []) ∧ Dp K H2 (.ref a) (NestedKey.data k) ∧ k.depth ≤ 8 ∧
  ∀ H3, SeenAt K P w H3 d [k] → (∀ b, b ≠ d → H3 b = H2 b) → Q (.ref d) H3
def tDisp1 (K : PySem.W.Frag) (P : Program) (w : World) (tk tv : TE) : TE := fun σ H Q => ∀ d, H d = none → tk σ (upd H d (.dK [])) fun x H1 => tv σ H1 fun y H2 => dispEnd K P w d Q x y H2
/-- an empty dict, told the other way -/
theorem retag (I : Inv X pins σ H s) (hd : H d = some (.dK [])) : Inv X pins σ (upd H d (SnO X.prog X.w d [])) s ∧ SeenAt X.K X.prog X.w (upd H d (SnO X.prog X.w d [])) d [] := by
  obtain ⟨z, hm, vs, rel, o, es, ep, h1, h2, h3⟩ := dk_of I.hok hd
  cases rel
  have h4 : es.toList = [] := by
    obtain ⟨_, _, h5, _⟩ := h3
    cases q : es.toList with
    | nil => rfl
    | cons e r => rw [q] at h5; first | cases h5 | (have h6 := h5; simp [Pairs] at h6)
  refine ⟨d_write (t' := s.toks) I (by rw [hd]; exact True.intro) (Heap.SameBut.refl _ _) ⟨o, h1⟩ (ext_new (es := es) (ep := ep) h1 h2 h3.1 (by rw [h4]; rfl)), [], rfl, List.nodup_nil, Nat.zero_le _, hm, upd_same, fun x hx => by cases hx⟩
theorem pe_disp1 {ke ve : Expr} {pos : Pos} {tk tv : TE} (hu : X.A.units + 64 < cLine) (hk : PE X ke tk) (hv : PE X ve tv) : PE X (.Dict [some ke] [ve] pos) (tDisp1 X.K X.prog X.w tk tv) := by
  refine ⟨fun pins s σ H Q I h => ?_⟩
  have hn := I.hok.fresh (Nat.le_refl s.heap.objs.size)
  have I1 := I.laid (a := s.heap.objs.size) (o := .dK []) (h' := s.heap.push { cls := .type "dict", data := .dict #[] }) (t' := s.toks) (fun _ _ q => Heap.get?_push_of_some _ q) (Nat.le_refl _) (dk_empty s.heap I.big)
  have hp : PPs X pos [some ke] [ve] [(tk, tv)] := pps_cons hk hv pps_nil
  have hl : (pairTrees [some ke] [ve] X.env pos).length = 1 := pairTrees_length [some ke] [ve] X.env pos rfl rfl
  rw [arm_eval_Dict, zip_pairTrees [some ke] [ve] X.env pos rfl rfl, dictDisplay_pairs _ (fun z => by rw [z] at hl; cases hl) (by rw [hl]; decide)]
  refine wpAny_bind (wpAny_standAt (wpAny_bind (wpAny_subDictH (knd := nestedKind X.prog X.w) (Q := fun d s' => wpAny (model X.prog X.w) X.A (pure (Value.ref d)) (EP X pins σ Q) X.xe s') (show X.A.units + 8 < cLine by omega) (by rw [hl]; decide) ?_)))
  refine thn (hp.run pins _ σ _ (fun ps H2 => match ps with | [(x, y)] => dispEnd X.K X.prog X.w s.heap.objs.size Q x y H2 | _ => False) I1 (h _ hn)) fun ws s2 ⟨ps, H2, I2, rel, q⟩ => ?_
  cases rel with
  | nil => exact False.elim q
  | @cons p pw _ _ r1 r2 =>
    cases r2 with
    | cons _ _ => exact False.elim q
    | nil =>
      obtain ⟨x, y⟩ := p
      obtain ⟨ux, uy⟩ := pw
      obtain ⟨a, k, rfl, rfl, hd, hk2, hz, q⟩ := q
      obtain rfl : ux = Value.ref a := r1.1
      obtain rfl : uy = Value.bool true := r1.2
      obtain ⟨I3, S3⟩ := retag I2 hd
      obtain ⟨xs, hx1, hn3, _, hm, hd3, hx⟩ := S3
      cases xs with
      | cons _ _ => cases hx1
      | nil =>
        have noT : ∀ (b : Addr) (ys : List V), SqT X.K H2 b ys → SqT X.K (upd H2 s.heap.objs.size (SnO X.prog X.w s.heap.objs.size [])) b ys :=
          tup_upd (fun ys z => by rw [hd] at z; cases z) (fun q u z => by rw [hd] at z; cases z)
        refine ⟨[(k, a, .bool true)], ⟨rfl, rfl, ⟨key_raw I2 k _ _ hk2 rfl, hz⟩, trivial⟩, raw_of (xs := []) I3 hn3 hd3 hx, fun h' tk dd hs => wpAny_pure ?_⟩
        obtain ⟨H4, I4, S4, k4⟩ := grow (t' := tk) (xs := []) I3 (key_stays noT _ _ hk2) hz hn3 hm hd3 hx (by simp) (by show 0 < sizeLine; decide) dd hs
        exact ⟨.ref s.heap.objs.size, H4, I4, rfl, q H4 S4 fun b hb => by rw [k4 b hb, upd_ne hb]⟩

/-! ### list(d) -/
/-- the items of a list are these keys -/
def KeysAre (K : PySem.W.Frag) (H : Hp) (ys : List V) (ks : List NestedKey) : Prop := DpAll K H ys (NestedKey.datas ks)
theorem keysAre_of {K : PySem.W.Frag} {H : Hp} : ∀ xs : List (NestedKey × Addr), (∀ x ∈ xs, Dp K H (.ref x.2) x.1.data ∧ x.1.depth ≤ 8) → KeysAre K H (xs.map fun x => V.ref x.2) (xs.map (·.1))
  | [], _ => .nil
  | x :: xs, h => .cons (h x List.mem_cons_self).1 (keysAre_of xs fun y hy => h y (List.mem_cons_of_mem _ hy))
theorem vals_refs : ∀ (as : List Addr) (us : List Value), us.length = as.length → (∀ (j : Nat) (hj : j < as.length), us[j]? = some (.ref as[j])) → Vals (as.map V.ref) us
  | [], us, h, _ => by
    cases us with
    | nil => exact .nil
    | cons u r => cases h
  | a :: as, us, h, hj => by
    cases us with
    | nil => cases h
    | cons u r =>
      have h0 := hj 0 (Nat.zero_lt_succ _)
      have e : u = Value.ref a := by simpa using h0
      exact .cons e (vals_refs as r (by simpa using h) fun j hj' => by have := hj (j + 1) (by simpa using hj'); simpa using this)
theorem call_list_N (hc : X.calm = true) : CallR X (.type "list") (fun xs H Q => ∃ d ks, xs = [.ref d] ∧ SeenAt X.K X.prog X.w H d ks ∧ ∀ l ys, H l = none → KeysAre X.K H ys ks → Q (.ref l) (upd H l (.lst ys))) := by
  intro pins s σ H xs us Q I r h
  obtain ⟨d, ks, rfl, ⟨xs, rfl, hn, hl, hm, hd, hx⟩, q⟩ := h
  obtain rfl := Vals.ref1 r
  obtain ⟨⟨o, es, ep, h1, h2, h3, h4⟩, _⟩ := I.hok d _ hd
  have hes : es.size = xs.length := by
    have := congrArg List.length h4
    simpa using this
  have hkey : ∀ (i : Nat) (hi : i < es.size), es[i].key = .ref ((xs[i]'(by rw [← hes]; exact hi)).2) := fun i hi => by
    have e : es[i]? = (((xs.map entW).map (entryOfKey (nestedKind X.prog X.w)))[i]?) := by rw [← h4, Array.getElem?_toList]
    rw [Array.getElem?_eq_getElem hi] at e
    have hi' : i < xs.length := by rw [← hes]; exact hi
    rw [List.getElem?_map, List.getElem?_map, List.getElem?_eq_getElem hi'] at e
    have e2 : es[i] = entryOfKey (nestedKind X.prog X.w) (entW xs[i]) := Option.some.inj e
    rw [e2]
    rfl
  refine PySem.W.kdl_call (PySem.KdlSrc.rawDict (es := es) (ep := ep) hm) (I.ok.hd hc) ⟨o, h1, h2, h3⟩ (by rw [hes]; rw [List.length_map] at hl; exact hl) fun h' tk acc' c' hk hL hI => ?_
  have hsz : acc'.toList.length = (xs.map (·.2)).length := by rw [Array.length_toList, hI.1, hes, List.length_map]
  have rv : Vals ((xs.map (·.2)).map V.ref) acc'.toList := vals_refs _ _ hsz fun j hj => by
    have hj' : j < es.size := by rw [hes]; simpa using hj
    have hja : j < acc'.size := by rw [hI.1]; exact hj'
    obtain ⟨_, e⟩ := hI.2 j _ (Array.getElem?_eq_getElem hja)
    rw [Array.getElem?_toList, Array.getElem?_eq_getElem hja, e, hkey j hj', List.getElem_map]
  have e1 : (xs.map (·.2)).map V.ref = xs.map fun x => V.ref x.2 := by rw [List.map_map]; rfl
  rw [e1] at rv
  have hf : H s.heap.objs.size = none := I.hok.fresh (Nat.le_refl _)
  refine ⟨.ref s.heap.objs.size, upd H s.heap.objs.size (.lst (xs.map fun x => V.ref x.2)), I.laid (fun b o e => hk b o e) (Nat.le_refl _) ⟨by rw [List.length_map]; rw [List.length_map] at hl; exact hl, _, c', rv, by simpa using hL⟩, rfl, q _ _ hf (keysAre_of xs hx)⟩
end
end ND
end
section
set_option Elab.async false
set_option linter.all false
set_option maxRecDepth 100000
set_option maxHeartbeats 2000000
namespace ND
open PySem PySem.Spec PyProof.Rows L2
theorem dictSet_new {X : Cx} {pins : List (Addr × Obj)} {σ : L2.St} {H : Hp} {s : Shared} {E : Value → Shared → Prop} {y v : V} {D : Addr} {u r : Value} {Q : Unit → Shared → Prop} {Nx : Hp → Prop} (hu : X.A.units + 64 < cLine) (I : Inv X pins σ H s) (n : NewKey X.K X.prog X.w (.ref D) y v H Nx)
    (ry : RelV y u) (rv : RelV v r) (h : ∀ s' H', Inv X pins σ H' s' → Nx H' → Q () s') : wpAny (model X.prog X.w) X.A (dictSet D u r) Q E s := by
  obtain ⟨d, a, k, ks, e1, rfl, rfl, hk1, hz, ⟨xs, rfl, hn, _, hm, hd, hx⟩, hk', hl, nx⟩ := n
  obtain rfl : D = d := V.ref.inj e1
  obtain rfl : u = Value.ref a := ry
  obtain rfl : r = Value.bool true := rv
  refine wpAny_dictSet_heap (knd := nestedKind X.prog X.w) (k := k) (show X.A.units + 8 < cLine by omega) ⟨key_raw I k _ _ hk1 rfl, hz⟩ (raw_of I hn hd hx) (fun h' dd hs' => ?_) (by rw [List.length_map]; rw [List.length_map] at hl; exact Nat.le_of_lt hl)
  obtain ⟨H12, I12, S12, k12⟩ := grow I hk1 hz hn hm hd hx hk' hl dd hs'
  exact h _ H12 I12 (nx H12 S12 k12)
section
variable {X : Cx}
/-- {x: v for x in walked}, keys nested tuples, each new, every v True; D: the new dict -/
def tDcN (K : PySem.W.Frag) (P : Program) (w : World) (wi : TI) (g : TG) (tk tv : TE) (vs : List Nat) : TE := fun σ H Q => wi σ H fun J H1 => ∀ D H2, H1 D = none → SeenAt K P w H2 D [] → (∀ b, b ≠ D → H2 b = H1 b) → ∃ W : Nat → Nat → Hp → Prop, (∃ m, W 0 m H2) ∧ ∀ i m H, W i m H →
  (J.stop i H ∧ Q (.ref D) H) ∨ (J.go i H ∧ ∃ Nx : Hp → Prop, (∀ H', Nx H' → ∃ m', m' < m ∧ W (i + 1) m' H') ∧ ∀ x H', J.yld i H x H' → g x (wipe σ vs) H' fun σ2 H3 => wipe σ2 vs = wipe σ vs ∧
    tk σ2 H3 fun y H4 => tv σ2 H4 fun z H5 => NewKey K P w (.ref D) y z H5 Nx)
theorem pe_dcN {kx vx tg iter : Expr} {scope : Scope} {own : List (Str × Nat)} {pos : Pos} {wi : TI} {g : TG} {tk tv : TE} (hu : X.A.units + 64 < cLine) (hc : X.calm = true) (hN : X.N.Nodup) (hi : PI X tg iter wi) (ok : BlkOk X.N X.env.scope scope own)
    (hg : ∀ (s : Shared) (H : Hp) (C : Addr) (cl : List (Str × Addr)) (fp : List Addr), PG (X.blk s H scope (compEnvC scope cl C X.env) fp) tg g)
    (hk : ∀ (s : Shared) (H : Hp) (C : Addr) (cl : List (Str × Addr)) (fp : List Addr), PE (X.blk s H scope (compEnvC scope cl C X.env) fp) kx tk)
    (he : ∀ (s : Shared) (H : Hp) (C : Addr) (cl : List (Str × Addr)) (fp : List Addr), PE (X.blk s H scope (compEnvC scope cl C X.env) fp) vx tv) (hs : ∀ x, foldedSetIterable iter X.env x = pure x := by intro _; rfl) :
    PE X (.DictComp kx vx [⟨tg, iter, [], 0⟩] scope pos) (tDcN X.K X.prog X.w wi g tk tv (own.map (·.2))) := by
  refine ⟨fun pins s σ H Q I h => ?_⟩
  rw [arm_eval_DictComp]
  have free : ∀ y ∈ scope.names, y.2 = .free → ∃ c, X.env.cells.lookup y.1 = some c := fun y hy e => (ok.free y hy e).elim (fun k => I.ok.has _ (.inl k)) fun k => I.ok.has _ (.inr k)
  refine wpAny_comprehension_free (use := none) rfl hs (closure_ok free) ok.kind (fun y hy e => by rw [ok.uniq y hy, e]) (thn (hi.run pins s σ H _ I h) fun xv s1 hx => thn hx fun itv s2 h2 => ?_)
  obtain ⟨it, fp, tn, J, HJ, rfl, I2, T, st2, f2, q⟩ := h2
  refine wpAny_newObj_type (newEnv_comp ?_)
  generalize hD : s2.heap.objs.size = D
  have hDn : HJ D = none := I2.hok.fresh (Nat.le_of_eq hD)
  generalize hs3 : ({ s2 with heap := s2.heap.push { cls := .type "dict", data := .dict #[] } } : Shared) = s3
  have Ie : Inv X pins σ (upd HJ D (.dK [])) s3 := by
    rw [← hs3]
    refine I2.laid (t' := s2.toks) (fun b o e => Heap.get?_push_of_some _ e) (Nat.le_of_eq hD) ?_
    rw [← hD]
    exact dk_empty s2.heap I2.big
  obtain ⟨I3, S3⟩ := retag Ie upd_same
  have eH : ∀ b, b ≠ D → upd (upd HJ D (.dK [])) D (SnO X.prog X.w D []) b = HJ b := fun b hb => by rw [upd_ne hb, upd_ne hb]
  generalize hH3 : upd (upd HJ D (.dK [])) D (SnO X.prog X.w D []) = H3 at I3 S3 eH
  obtain ⟨W, ⟨m0, w0⟩, turn⟩ := q D H3 hDn S3 eH
  have h3 : s3.heap = s2.heap.push { cls := .type "dict", data := .dict #[] } := by rw [← hs3]
  have f3 : ∀ b ∈ fp, FpOk X pins H3 b ∧ b < s3.heap.objs.size := fun b hb => by
    obtain ⟨o, e, _⟩ := T.obj _ _ st2 b hb
    have lt := Heap.lt_size e
    refine ⟨⟨?_, (f2 b hb).2⟩, by rw [h3, Heap.size_push]; exact Nat.lt_succ_of_lt lt⟩
    rw [eH b (by rw [← hD]; exact Nat.ne_of_lt lt)]
    exact (f2 b hb).1
  have st3 : tn 0 s3.heap := T.keep _ _ _ st2 fun b _ o e => by rw [h3]; exact Heap.get?_push_of_some _ e
  have I4 := block_start I3 ok hN f3
  have pg := hg s3 H3 s3.heap.objs.size (cellsFrom (s3.heap.objs.size + 1) scope.names (cloFrom X.env.cells scope.names [])) fp
  have pk := hk s3 H3 s3.heap.objs.size (cellsFrom (s3.heap.objs.size + 1) scope.names (cloFrom X.env.cells scope.names [])) fp
  have pv := he s3 H3 s3.heap.objs.size (cellsFrom (s3.heap.objs.size + 1) scope.names (cloFrom X.env.cells scope.names [])) fp
  show codeAny _ _ (.compStart (.DictComp kx vx [⟨tg, iter, [], 0⟩] scope pos) 0 (.ref it) (.ref D) (compEnvC scope (cellsFrom (s3.heap.objs.size + 1) scope.names (cloFrom X.env.cells scope.names [])) s3.heap.objs.size X.env))
    (compPost (model X.prog X.w) X.A X.xe none _ (.ref D) s3.heap.objs.size) { s3 with heap := pushCells (s3.heap.push { cls := .type "dict", data := .dict #[] }) scope.names }
  generalize hce : compEnvC scope (cellsFrom (s3.heap.objs.size + 1) scope.names (cloFrom X.env.cells scope.names [])) s3.heap.objs.size X.env = ce at I4 pg pk pv ⊢
  have cL : ce.locals = s3.heap.objs.size := by subst hce; rfl
  generalize hs4 : ({ s3 with heap := pushCells (s3.heap.push { cls := .type "dict", data := .dict #[] }) scope.names } : Shared) = s4 at I4 ⊢
  have st4 : tn 0 s4.heap := T.keep _ _ _ st3 fun b _ o e => by rw [← hs4]; exact pushCells_keeps _ _ _ _ (Heap.get?_push_of_some _ e)
  have stat : ∀ {σ' : L2.St} {H' : Hp} {s' : Shared}, Inv (X.blk s3 H3 scope ce fp) [] σ' H' s' → (∀ b ∈ fp, H' b = none) → ∀ b ∈ fp, FpOk (X.blk s3 H3 scope ce fp) [] H' b := fun {σ' H' s'} J' hn b hb =>
    ⟨hn b hb, (J'.ok.exf b hb).1, J'.ok.exfs b hb, .inl hb, fun x c e => (J'.ok.exf b hb).2 x c e, fun p hp => absurd (show p ∈ ([] : List (Addr × Obj)) ++ [] from hp) (by simp)⟩
  have loop : codeAny (model X.prog X.w) X.A (.compLoop (.DictComp kx vx [⟨tg, iter, [], 0⟩] scope pos) 0 (.ref it) (.ref D) ce) (compPost (model X.prog X.w) X.A X.xe none (EP X pins σ Q) (.ref D) s3.heap.objs.size) s4 := by
    refine compLoop_anyD (fun n s' => ∃ i H', Inv (X.blk s3 H3 scope ce fp) [] (wipe σ (own.map (·.2))) H' s' ∧ tn i s'.heap ∧ (∀ b ∈ fp, H' b = none) ∧ W i n H') ?_ m0 ⟨0, H3, I4, st4, fun b hb => (f3 b hb).1.1, w0⟩
    rintro n s5 ⟨i, H5, I5, st5, n5, w5⟩
    rcases turn i n H5 w5 with ⟨stop, qq⟩ | ⟨go, Nx, hNx, step⟩
    · refine thnF (T.done (X.blk s3 H3 scope ce fp) rfl rfl rfl hc i [] s5 _ H5 (fun _ _ => False) I5 (stat I5 n5) st5 stop) fun r s6 ⟨hr, I6⟩ => ?_
      subst hr
      have I7 : Inv X pins σ H5 s6 := I3.call' (ch := fp) I6.os I6.base I6.hok I6.bare fun b hb => ⟨(f3 b hb).1.2.2.2.1, (f3 b hb).1.2.1, (f3 b hb).1.2.2.2.2.1, (f3 b hb).1.2.2.2.2.2⟩
      have nC : H5 s3.heap.objs.size = none := by
        have z : H5 ce.locals = none := I6.free
        rwa [cL] at z
      obtain ⟨m, hn, _⟩ := I6.loc
      have hn : s6.heap.Ns ce.locals m := hn
      rw [cL] at hn
      obtain ⟨g0, g1, g2, g3, g4, g5⟩ := I3.fpOk (H' := H5) (Nat.le_refl _) nC
      exact ⟨m, hn, fun h'' sb => ⟨.ref D, H5, I7.turned (t' := s6.toks) (fun b o hb e => (sb.2 b hb).trans e) g0 g1 g3 g4 g5, rfl, qq⟩⟩
    · refine thnF (T.item (X.blk s3 H3 scope ce fp) rfl rfl rfl hc i [] s5 _ H5 (fun _ _ => False) I5 (stat I5 n5) st5 go) fun r s6 ⟨u, hr, h6⟩ => ?_
      subst hr
      refine thnF h6 fun _ s7 ⟨x, H7, I7, r7, y7, st7, n7⟩ => ?_
      refine thnF (pg.run _ s7 _ H7 x u _ (I7.pinned (stat I7 n7) (T.obj _ _ st7)) r7 (step x H7 y7)) fun _ s8 ⟨σ8, H8, I8, hw8, q8⟩ => ?_
      refine wpAny_tests_nil ?_
      simp only [if_true]
      refine thnF (pk.run _ s8 σ8 H8 _ I8 q8) fun z s10 ⟨yk, H10, I10, r10, q10⟩ => ?_
      refine thnF (pv.run _ s10 σ8 H10 _ I10 q10) fun z2 s11 ⟨yv, H11, I11, r11, q11⟩ => ?_
      refine dictSet_new (X := X.blk s3 H3 scope ce fp) hu I11 q11 r10 r11 fun s12 H12 I12 nx => ?_
      obtain ⟨m', hm', w'⟩ := hNx H12 nx
      have pin' : ∀ b ∈ fp, ∀ o, s7.heap.get? b = some o → s12.heap.get? b = some o ∧ H12 b = none := fun b hb o e =>
        let z := I12.pin (b, o) (List.mem_append_right _ (List.mem_append_right _ (mem_pinsAt hb e)))
        ⟨z.1, z.2.1⟩
      refine ⟨m', hm', i + 1, H12, (I12.unpinned (pins := [])).weak (by rw [← hw8, wipe_length]) (fun j v e => by rw [← hw8] at e; exact (wipe_some e).1), T.keep _ _ _ st7 fun b hb o e => (pin' b hb o e).1, fun b hb => ?_, w'⟩
      obtain ⟨o, e, _⟩ := T.obj _ _ st7 b hb
      exact (pin' b hb o e).2
  exact codeAny_compStart_dict loop (T.self X.A 0 _ _ _ st4 loop)
end
end ND
end
section
set_option Elab.async false
set_option linter.all false
set_option maxRecDepth 100000
set_option maxHeartbeats 2000000
/-! enumerate of a tuple; zip of a tuple and a list -/
namespace EZ
open PySem PySem.Spec PyProof.Rows L2
open Builtin
/-- the tuple at a, each item in a new pair behind its place -/
def IteT (K : PySem.W.Frag) (a : Addr) : It :=
  ⟨fun i H => ∃ (xs : List V) (x : V), SqT K H a xs ∧ xs[i]? = some x, fun i H v H' => ∃ T x, v = .ref T ∧ H T = none ∧ H' = upd H T (.tup [.int (i : Nat), x]) ∧ ∀ xs, SqT K H a xs → xs[i]? = some x, fun i H => ∃ xs : List V, SqT K H a xs ∧ xs.length ≤ i⟩
theorem apart {h : Heap} {a it : Addr} {its : Array Value} {i : Nat} (p : h.IsTuple a its) (q : h.IsTupleIter it a i) : a ≠ it := fun e => by
  obtain ⟨o, h1, h2, _⟩ := q
  obtain ⟨o', h3, h4, _⟩ := p
  rw [e, h1] at h3
  cases h3
  exact absurd (Value.type.inj (h2.symm.trans h4)) (by decide)
theorem apartL {h : Heap} {a it : Addr} {its : Array Value} {i : Nat} (p : h.IsList a its) (q : h.IsListIter it a i) : a ≠ it := fun e => by
  obtain ⟨o, h1, h2, _⟩ := q
  obtain ⟨o', h3, h4, _⟩ := p
  rw [e, h1] at h3
  cases h3
  exact absurd (Value.type.inj (h2.symm.trans h4)) (by decide)
theorem turn_enumT {P : Program} {w : World} {K : PySem.W.Frag} {elts : List Expr} {kk : Nat} {tpos : Pos} (a e it : Addr) :
    Turn P w K (.Tuple elts kk tpos) (IteT K a) [e, it] e (fun i h => (∃ old, IsEnum h e it ((i : Nat) : Int) old) ∧ h.IsTupleIter it a i ∧ e ≠ it ∧ e ≠ a) where
  mem := by simp
  obj := fun i h st b hb => by
    obtain ⟨⟨old, he⟩, ⟨o, ho, hc, hd⟩, _⟩ := st
    rcases (show b = e ∨ b = it by simpa using hb) with z | z
    · subst z; exact ⟨_, he, fun v q => nomatch q⟩
    · subst z; exact ⟨o, ho, fun v q => by rw [hd] at q; cases q⟩
  keep := fun i h h' st k => let ⟨⟨old, he⟩, hi, hne⟩ := st; ⟨⟨old, k e (by simp) _ he⟩, hi.at fun o q => k it (by simp) o q, hne⟩
  item := by
    intro X hP hw hK hc i pins s σ H E I hf st hg
    subst hP hw hK
    obtain ⟨⟨old, he⟩, hit, hne, hea⟩ := st
    obtain ⟨xs, x, hq, hx⟩ := hg
    obtain ⟨its, rv, p, hz⟩ := I.tuple hq
    have p' : s.heap.IsTuple a its.toArray := p
    obtain ⟨u, hu, ru⟩ := rv.get hx
    have hil : it < s.heap.objs.size := by obtain ⟨_, q, _⟩ := hit; exact Heap.lt_size q
    have hel := Heap.lt_size he
    have hi : i < its.toArray.size := by simpa using (List.getElem?_eq_some_iff.mp hu).1
    have D := Draws.tuple (prog := X.prog) (w := X.w) (A := X.A.in1) (by exact I.ok.hd hc) it a (apart p' hit) its.toArray
    refine wpAny_pyNext_enum_itemD D he ⟨hit, p'⟩ hi hne (by simp [hne, hea]) fun u' h' tk hu' ho st' hT hsz hk => ?_
    have eu : u' = u := by
      have h1 : its[i]? = some u' := by simpa using hu'
      rw [h1] at hu
      exact Option.some.inj hu
    subst eu
    refine ⟨_, rfl, wpAny_letOwnedTupleGo_enum (s := { s with heap := h', toks := tk + 1 }) ho fun h'' he' sb => ?_⟩
    have hT2 : h''.get? s.heap.objs.size = some { cls := .type "tuple", data := .seq #[.int i tk, u'] } := (sb.2 _ (Nat.ne_of_gt hel)).trans hT
    have new : ObjOk X.prog X.w (upd H s.heap.objs.size (.tup [.int (i : Nat), x])) h'' s.heap.objs.size (.tup [.int (i : Nat), x]) :=
      ⟨by show 2 ≤ sizeLine; decide, [.int i tk, u'], .cons ⟨_, rfl⟩ (.cons ru .nil), ⟨_, hT2, rfl, _, rfl⟩⟩
    have I1 : Inv X pins σ (upd H s.heap.objs.size (.tup [.int (i : Nat), x])) { s with heap := h'', toks := tk + 1 } :=
      I.turnedNew (ch := [e, it]) (fun b ob hb q => (sb.2 b (fun z => hb (by simp [z]))).trans (hk b ob (fun z => hb (by simp [z])) (fun z => hb (by simp [z])) q)) hf (Nat.le_refl _) new
    refine ⟨.ref s.heap.objs.size, _, I1, rfl, ⟨_, x, rfl, I.hok.fresh (Nat.le_refl _), rfl, fun ys hy => by rw [I.tuple_inj hy hq]; exact hx⟩, ⟨⟨u', ?_⟩, st'.1.at fun o q => (sb.2 it (Ne.symm hne)).trans q, hne, hea⟩, fun b hb => ?_⟩
    · have e1 : ((i + 1 : Nat) : Int) = (i : Int) + 1 := by omega
      rw [e1]
      exact he'
    · have hb' : b < s.heap.objs.size := by
        rcases (show b = e ∨ b = it by simpa using hb) with z | z
        · rw [z]; exact hel
        · rw [z]; exact hil
      rw [upd_ne (Nat.ne_of_lt hb')]
      exact (hf b hb).1
  done := by
    intro X hP hw hK hc i pins s σ H E I hf st hg
    subst hP hw hK
    obtain ⟨⟨old, he⟩, hit, hne, hea⟩ := st
    obtain ⟨xs, hq, hx⟩ := hg
    obtain ⟨its, rv, p, hz⟩ := I.tuple hq
    have p' : s.heap.IsTuple a its.toArray := p
    obtain ⟨f0, f1, f2, f3, f4, f5⟩ := hf it (by simp)
    have hl := rv.length
    have hT : s.TypeIs (.ref e) "enumerate" := ⟨_, he, rfl⟩
    unfold pyNext
    refine wpAny_bind (wpAny_attempt (wpAny_callSpecial?_slot (name := Str.ofString "__next__") hT F.slot_enumerate_next
      (wpAny_call_entry F.slot_enumerate_next hT F.entry_enumerate_next ?_ (F.args_enumerate_next_1 _))))
    show wpAny _ _ (field (.ref e) 2 >>= _) _ _ _
    refine wpAny_bind (wpAny_field he rfl (x := .ref it) rfl ?_)
    refine wpAny_bind (wpAny_nextOf_tuple_end (by exact I.ok.hd hc) hit p' (by simp; omega) fun h' x he' hx' => ?_)
    obtain ⟨o, ho, hcl⟩ := hx'
    refine wpAny_bind (wpAny_isInstance (T := "StopIteration") (b := true) ⟨o, ho, hcl⟩ isSubtype_stop ?_)
    exact wpAny_pure ⟨rfl, I.turned (t' := s.toks) (fun b o hb q => he' b o hb q) f0 f1 f3 f4 f5⟩
  self := fun A i s Q E st h => let ⟨⟨_, he⟩, _⟩ := st; wpAny_pyIter_enum he h
theorem meets_enum_tup (t : Addr) (items : Array Value) :
    Meets (Builtin.«enumerate.__new__» ⟨[.type "enumerate", .ref t], []⟩) (fun _ R s => s.heap.IsTuple t items ∧
      R (.ok (.ret (.ref (s.heap.push { cls := .type "tuple_iterator", data := .fields #[.ref t, .int 0 0] }).objs.size)))
        { s with heap := (s.heap.push { cls := .type "tuple_iterator", data := .fields #[.ref t, .int 0 0] }).push { cls := .type "enumerate", data := .fields #[.none, .bool false, .ref s.heap.objs.size, rawInt 0, .none, .none] } }) :=
  .of_wp fun prog w A R s h => by
    obtain ⟨hp, g, d, tk, os⟩ := s; obtain ⟨ht, h⟩ := h
    have hsub := sub_enumerate
    have it : ∀ {A' : Around} {E : Value → Shared → Prop} {Q : Value → Shared → Prop}, Q (.ref hp.objs.size) ⟨hp.push { cls := .type "tuple_iterator", data := .fields #[.ref t, .int 0 0] }, g, d, tk, os⟩ → wpAny (model prog w) A' (pyIter (.ref t)) Q E ⟨hp, g, d, tk, os⟩ :=
      fun q => (begins_tuple t items).iter prog w _ _ ⟨hp, g, d, tk, os⟩ _ ht q
    wp_walk using it
    refine wpAny_stack_any fun st => wpAny_pure ?_
    split
    · rename_i c _ _ _ _ _
      cases (c == Value.type "enumerate") <;> (wp_walk using it; exact ⟨_, rfl, h⟩)
    · wp_walk using it
      exact ⟨_, rfl, h⟩
section
variable {prog : Program} {w : World} {A : Around} {E : Value → Shared → Prop} {s : Shared}
theorem call_enum_tup {t : Addr} {items : Array Value} {Q : Value → Shared → Prop} (ht : s.heap.IsTuple t items)
    (h : ∀ h', IsEnum h' (s.heap.objs.size + 1) s.heap.objs.size 0 .none → h'.IsTupleIter s.heap.objs.size t 0 → (∀ b o, s.heap.get? b = some o → h'.get? b = some o) → Q (.ref (s.heap.objs.size + 1)) { s with heap := h' }) :
    wpAny (model prog w) A (call (.type "enumerate") [.ref t]) Q E s := by
  refine callType_new F.called_enumerate (by decide) (F.typeCall_enumerate_1 _) (F.newCall_enumerate_1 _) (fun obj => F.args_object_init_2 obj _) F.entry_enumerate_new (meets_enum_tup t items) ⟨ht, ?_⟩
  have hz : (s.heap.push { cls := .type "tuple_iterator", data := .fields #[.ref t, .int 0 0] }).objs.size = s.heap.objs.size + 1 := Heap.size_push ..
  show _ ∧ _
  rw [hz]
  have he : IsEnum ((s.heap.push { cls := .type "tuple_iterator", data := .fields #[.ref t, .int 0 0] }).push
      { cls := .type "enumerate", data := .fields #[.none, .bool false, .ref s.heap.objs.size, rawInt 0, .none, .none] }) (s.heap.objs.size + 1) s.heap.objs.size 0 .none := by
    have q := Heap.get?_push_size (s.heap.push { cls := .type "tuple_iterator", data := .fields #[.ref t, .int 0 0] })
      (o := { cls := .type "enumerate", data := .fields #[.none, .bool false, .ref s.heap.objs.size, rawInt 0, .none, .none] }) rfl
    rw [hz] at q
    exact q
  exact ⟨⟨_, he, rfl⟩, h _ he ⟨_, Heap.get?_push_of_some _ (Heap.get?_push_size _ rfl), rfl, rfl⟩ fun b o x => Heap.get?_push_of_some _ (Heap.get?_push_of_some _ x)⟩
end
def iEnumT (K : PySem.W.Frag) (ta : TA) : TI := fun σ H R => ta σ H fun vs H1 => ∃ a xs, vs = [.ref a] ∧ SqT K H1 a xs ∧ R (IteT K a) H1
theorem pi_enumT {X : Cx} {e : Expr} {ta : TA} {p pos tpos : Pos} {elts : List Expr} {kk : Nat} (hm : X.mg "enumerate" = none) (ha : PA X [e] ta) (hg : Gl X "enumerate" := by rfl) (hs : starEach [e] X.env = [(false, eval e X.env)] := by rfl) :
    PI X (.Tuple elts kk tpos) (.Call (.Name "enumerate" p) [e] [] pos) (iEnumT X.K ta) := by
  refine ⟨fun pins s σ H R I h => ?_⟩
  refine Call_ (ld_blt I hg hm boot_enumerate (PyProof.Rows.callWith_type1 (thn (ha.run pos pins s σ H _ I h) fun us s1 ⟨vs, H1, I1, r1, q1⟩ => ?_) hs rfl))
  obtain ⟨a, xs, rfl, hq, q⟩ := q1
  obtain ⟨u, rfl, r⟩ := vals1 r1
  cases r
  obtain ⟨its, rv, p', hz⟩ := I1.tuple hq
  have pt : s1.heap.IsTuple a its.toArray := p'
  refine call_enum_tup pt fun h' he hit hk => wpAny_pyIter_enum he ?_
  have hal : a < s1.heap.objs.size := by obtain ⟨_, e, _⟩ := pt; exact Heap.lt_size e
  refine ⟨s1.heap.objs.size + 1, [s1.heap.objs.size + 1, s1.heap.objs.size], _, _, H1, rfl, I1.kept (t' := s1.toks) hk, turn_enumT a (s1.heap.objs.size + 1) s1.heap.objs.size, ⟨⟨.none, he⟩, hit, Nat.succ_ne_self _, Nat.ne_of_gt (Nat.lt_succ_of_lt hal)⟩, fun b hb => ?_, q⟩
  have hle : s1.heap.objs.size ≤ b := by
    rcases (show b = s1.heap.objs.size + 1 ∨ b = s1.heap.objs.size by simpa using hb) with z | z
    · rw [z]; exact Nat.le_add_right _ _
    · rw [z]; exact Nat.le_refl _
  exact I1.fpOk hle (I1.hok.fresh hle)

/-- the tuple at a, the list at b, as they stand at each turn -/
def IzTL (K : PySem.W.Frag) (a b : Addr) : It :=
  ⟨fun i H => ∃ (xs ys : List V) (x y : V), SqT K H a xs ∧ SqL K H b ys ∧ xs[i]? = some x ∧ ys[i]? = some y,
    fun i H v H' => ∃ T x y, v = .ref T ∧ H T = none ∧ H' = upd H T (.tup [x, y]) ∧ (∀ xs, SqT K H a xs → xs[i]? = some x) ∧ ∀ ys, SqL K H b ys → ys[i]? = some y,
    fun i H => ∃ xs ys : List V, SqT K H a xs ∧ SqL K H b ys ∧ xs.length = i ∧ ys.length = i⟩
theorem turn_zipTL {P : Program} {w : World} {K : PySem.W.Frag} {elts : List Expr} {kk : Nat} {tpos : Pos} {a b z TI TO i1 i2 : Addr} (S : ZipSep2 z TI TO i1 i2 [i1, a] [i2, b]) :
    Turn P w K (.Tuple elts kk tpos) (IzTL K a b) [z, TI, TO, i1, i2] z (fun i h => IsZip h z TI TO .none ∧ IsTupOf2 h TI (.ref i1) (.ref i2) ∧ (∃ x y, IsTupOf2 h TO x y) ∧ h.IsTupleIter i1 a i ∧ h.IsListIter i2 b i) where
  mem := by simp
  obj := fun i h st c hc => by
    obtain ⟨hz, hTI, ⟨x, y, hTO⟩, ⟨o1, e1, _, d1⟩, ⟨o2, e2, _, d2⟩⟩ := st
    rcases (show c = z ∨ c = TI ∨ c = TO ∨ c = i1 ∨ c = i2 by simpa using hc) with q | q | q | q | q
    · rw [q]; exact ⟨_, hz, fun v q => nomatch q⟩
    · rw [q]; exact ⟨_, hTI, fun v q => nomatch q⟩
    · rw [q]; exact ⟨_, hTO, fun v q => nomatch q⟩
    · rw [q]; exact ⟨o1, e1, fun v q => by rw [d1] at q; cases q⟩
    · rw [q]; exact ⟨o2, e2, fun v q => by rw [d2] at q; cases q⟩
  keep := fun i h h' st k => by
    obtain ⟨hz, hTI, ⟨x, y, hTO⟩, h1, h2⟩ := st
    exact ⟨k z (by simp) _ hz, k TI (by simp) _ hTI, ⟨x, y, k TO (by simp) _ hTO⟩, h1.at fun o q => k i1 (by simp) o q, h2.at fun o q => k i2 (by simp) o q⟩
  item := by
    intro X hP hw hK hc i pins s σ H E I hf st hg
    subst hP hw hK
    obtain ⟨hz, hTI, ⟨x0, y0, hTO⟩, h1, h2⟩ := st
    obtain ⟨xs, ys, x, y, hqx, hqy, hx, hy⟩ := hg
    obtain ⟨its, rv, p, _⟩ := I.tuple hqx
    obtain ⟨its2, rv2, p2, _⟩ := I.list hqy
    have pt : s.heap.IsTuple a its.toArray := p
    obtain ⟨u, hu, ru⟩ := rv.get hx
    obtain ⟨u2, hu2, ru2⟩ := rv2.get hy
    have hzl : z < s.heap.objs.size := Heap.lt_size hz
    have D1 := Draws.tuple (prog := X.prog) (w := X.w) (A := X.A.in1) (by exact I.ok.hd hc) i1 a (apart pt h1) its.toArray
    have D2 := Draws.list (prog := X.prog) (w := X.w) (A := X.A.in1) (by exact I.ok.hd hc) i2 b (apartL p2.isList h2) its2.toArray
    refine wpAny_pyNext_zipD2_item S D1 D2 hz hTI hTO ⟨h1, pt⟩ ⟨h2, p2.isList⟩ (by simpa using (List.getElem?_eq_some_iff.mp hu).1) (by simpa using (List.getElem?_eq_some_iff.mp hu2).1) fun v v2 h' tk hv hv2 z' TO' s1' s2' hT hsz hk => ?_
    have ev : v = u := by
      have q : its[i]? = some v := by simpa using hv
      rw [q] at hu
      exact Option.some.inj hu
    have ev2 : v2 = u2 := by
      have q : its2[i]? = some v2 := by simpa using hv2
      rw [q] at hu2
      exact Option.some.inj hu2
    subst ev
    subst ev2
    refine ⟨_, rfl, wpAny_letOwnedTupleGo_zip (s := { s with heap := h', toks := tk }) z' fun h'' z'' sb => ?_⟩
    have hT2 : h''.get? s.heap.objs.size = some { cls := .type "tuple", data := .seq #[v, v2] } := (sb.2 _ (Nat.ne_of_gt hzl)).trans hT
    have new : ObjOk X.prog X.w (upd H s.heap.objs.size (.tup [x, y])) h'' s.heap.objs.size (.tup [x, y]) :=
      ⟨by show 2 ≤ sizeLine; decide, [v, v2], .cons ru (.cons ru2 .nil), ⟨_, hT2, rfl, _, rfl⟩⟩
    have I1 : Inv X pins σ (upd H s.heap.objs.size (.tup [x, y])) { s with heap := h'', toks := tk } :=
      I.turnedNew (t' := tk) (ch := [z, TI, TO, i1, i2]) (fun c o hb q => (sb.2 c (fun q' => hb (by simp [q']))).trans (hk c o (fun q' => hb (by simp [q'])) (fun q' => hb (by simp [q'])) (fun q' => hb (by simp [q'])) (fun q' => hb (by simp [q'])) q)) hf (Nat.le_refl _) new
    refine ⟨.ref s.heap.objs.size, _, I1, rfl, ⟨_, x, y, rfl, I.hok.fresh (Nat.le_refl _), rfl, fun l hl => by rw [I.tuple_inj hl hqx]; exact hx, fun l hl => by rw [I.list_inj hl hqy]; exact hy⟩, ⟨z'', ?_, ⟨v, v2, ?_⟩, ?_, ?_⟩, fun c hcm => ?_⟩
    · exact (sb.2 _ S.TIz).trans (hk _ _ S.TIz S.TITO S.TIi1 S.TIi2 hTI)
    · exact (sb.2 _ S.TOz).trans TO'
    · exact s1'.1.at fun o q => (sb.2 _ (Ne.symm S.zi1)).trans q
    · exact s2'.1.at fun o q => (sb.2 _ (Ne.symm S.zi2)).trans q
    · have hlt : c < s.heap.objs.size := by
        rcases (show c = z ∨ c = TI ∨ c = TO ∨ c = i1 ∨ c = i2 by simpa using hcm) with q | q | q | q | q
        · rw [q]; exact hzl
        · rw [q]; exact Heap.lt_size hTI
        · rw [q]; exact Heap.lt_size hTO
        · rw [q]; obtain ⟨_, e1, _⟩ := h1; exact Heap.lt_size e1
        · rw [q]; obtain ⟨_, e2, _⟩ := h2; exact Heap.lt_size e2
      rw [upd_ne (Nat.ne_of_lt hlt)]
      exact (hf c hcm).1
  done := by
    intro X hP hw hK hc i pins s σ H E I hf st hg
    subst hP hw hK
    obtain ⟨hz, hTI, ⟨x0, y0, hTO⟩, h1, h2⟩ := st
    obtain ⟨xs, ys, hqx, hqy, l1, l2⟩ := hg
    obtain ⟨its, rv, p, _⟩ := I.tuple hqx
    obtain ⟨its2, rv2, p2, _⟩ := I.list hqy
    have pt : s.heap.IsTuple a its.toArray := p
    have e1 : its.toArray.size = i := by rw [← l1]; simp [rv.length]
    have e2 : its2.toArray.size = i := by rw [← l2]; simp [rv2.length]
    have D1 := Draws.tuple (prog := X.prog) (w := X.w) (A := X.A.in1) (by exact I.ok.hd hc) i1 a (apart pt h1) its.toArray
    have D2 := Draws.list (prog := X.prog) (w := X.w) (A := X.A.in1) (by exact I.ok.hd hc) i2 b (apartL p2.isList h2) its2.toArray
    exact wpAny_pyNext_zipD2_end S D1 D2 hz hTI hTO ⟨h1, pt⟩ ⟨h2, p2.isList⟩ (Nat.le_of_eq e1.symm) (Nat.le_of_eq e2.symm) (.inl e1.symm) fun h' tk hk => ⟨rfl, I.turnedL (t' := tk) (ch := [z, TI, TO, i1, i2]) (fun c o hb q =>
      hk c o (fun q' => hb (by simp [q'])) (fun q' => hb (by simp [q'])) (fun q' => hb (by simp [q'])) (fun q' => hb (by simp [q'])) q) hf⟩
  self := fun A i s Q E st h => wpAny_pyIter_zip st.1 h
def iZipTL (K : PySem.W.Frag) (ta : TA) : TI := fun σ H R => ta σ H fun vs H1 => ∃ a b xs ys, vs = [.ref a, .ref b] ∧ SqT K H1 a xs ∧ SqL K H1 b ys ∧ R (IzTL K a b) H1
theorem pi_zipTL {X : Cx} {e e2 : Expr} {ta : TA} {p pos tpos : Pos} {elts : List Expr} {kk : Nat} (hm : X.mg "zip" = none) (ha : PA X [e, e2] ta) (hg : Gl X "zip" := by rfl)
    (hs : starEach [e, e2] X.env = (false, eval e X.env) :: starEach [e2] X.env := by rfl) (hpl : (backTo pos (starEach [e2] X.env)).any (·.1) = false := by rfl) :
    PI X (.Tuple elts kk tpos) (.Call (.Name "zip" p) [e, e2] [] pos) (iZipTL X.K ta) := by
  refine ⟨fun pins s σ H R I h => ?_⟩
  refine Call_ (ld_blt I hg hm PyProof.Rows.boot_zip (PyProof.Rows.callWith_type1 (thn (ha.run pos pins s σ H _ I h) fun us s1 ⟨vs, H1, I1, r1, q1⟩ => ?_) hs hpl))
  obtain ⟨a, b, xs, ys, rfl, hqx, hqy, q⟩ := q1
  obtain ⟨u1, u2, rfl, r, r'⟩ := vals2 r1
  cases r
  cases r'
  obtain ⟨its, rv, p1, _⟩ := I1.tuple hqx
  obtain ⟨its2, rv2, p2, _⟩ := I1.list hqy
  have pt : s1.heap.IsTuple a its.toArray := p1
  have hal : a < s1.heap.objs.size := by obtain ⟨_, e, _⟩ := pt; exact Heap.lt_size e
  have hbl : b < s1.heap.objs.size := p2.lt
  have ge : ∀ (n : Nat) (c : Addr), c = s1.heap.objs.size + n → s1.heap.objs.size ≤ c := fun n c z => by rw [z]; exact Nat.le_add_right _ _
  have ne : ∀ (n m : Nat), n ≠ m → s1.heap.objs.size + n ≠ s1.heap.objs.size + m := fun n m h z => h (Nat.add_left_cancel z)
  have na : ∀ (n : Nat), s1.heap.objs.size + n ≠ a := fun n z => Nat.lt_irrefl _ (Nat.lt_of_lt_of_le hal (by rw [← z]; exact Nat.le_add_right _ _))
  have nb : ∀ (n : Nat), s1.heap.objs.size + n ≠ b := fun n z => Nat.lt_irrefl _ (Nat.lt_of_lt_of_le hbl (by rw [← z]; exact Nat.le_add_right _ _))
  have S : ZipSep2 (s1.heap.objs.size + 4) (s1.heap.objs.size + 2) (s1.heap.objs.size + 3) (s1.heap.objs.size + 0) (s1.heap.objs.size + 1) [s1.heap.objs.size + 0, a] [s1.heap.objs.size + 1, b] := by
    refine ⟨ne _ _ (by decide), ne _ _ (by decide), ne _ _ (by decide), ne _ _ (by decide), by simp, ?_, ?_, ne _ _ (by decide), by simp, ?_, ?_, ?_, ?_⟩
    all_goals
      intro z
      rcases List.mem_cons.mp z with z | z
      · exact ne _ _ (by decide) z
      · rcases List.mem_cons.mp z with z | z
        · first | exact na _ z | exact nb _ z
        · cases z
  refine zip_begins2 (begins_tuple a its.toArray) (begins_list b its2.toArray) pt p2.isList fun h' hz hTI hTO h1 h2 hsz hk => wpAny_pyIter_zip hz ?_
  refine ⟨s1.heap.objs.size + 4, [s1.heap.objs.size + 4, s1.heap.objs.size + 2, s1.heap.objs.size + 3, s1.heap.objs.size + 0, s1.heap.objs.size + 1], _, _, H1, rfl, I1.kept (t' := s1.toks) hk, turn_zipTL S, ⟨hz, hTI, ⟨_, _, hTO⟩, ⟨_, h1, rfl, rfl⟩, ⟨_, h2, rfl, rfl⟩⟩, fun c hc => ?_, q⟩
  have hle : s1.heap.objs.size ≤ c := by
    rcases (show c = s1.heap.objs.size + 4 ∨ c = s1.heap.objs.size + 2 ∨ c = s1.heap.objs.size + 3 ∨ c = s1.heap.objs.size + 0 ∨ c = s1.heap.objs.size + 1 by simpa using hc) with z | z | z | z | z <;> exact ge _ _ z
  exact I1.fpOk hle (I1.hok.fresh hle)
/-! ### loops over these -/
theorem for_enumT {K : PySem.W.Frag} {a : Addr} {xs : List V} {g : TG} {tb : TS} {D : Ends} {σ : L2.St} {H : Hp} (Pv : Nat → L2.St → Hp → Prop) (h0 : Pv 0 σ H) (hl : ∀ i σ H, Pv i σ H → SqT K H a xs)
    (hs : ∀ (i : Nat) (x : V) (T : Addr) (σ : L2.St) (H : Hp), xs[i]? = some x → Pv i σ H → H T = none → g (.ref T) σ (upd H T (.tup [.int (i : Nat), x])) fun σ2 H2 => tb { D with nx := Pv (i + 1), ct := Pv (i + 1), bk := D.nx } σ2 H2) (hd : ∀ σ H, Pv xs.length σ H → D.nx σ H) :
    ∃ W : Nat → Nat → L2.St → Hp → Prop, (∃ m, W 0 m σ H) ∧ ∀ i m σ H, W i m σ H →
      ((IteT K a).stop i H ∧ D.nx σ H) ∨ ((IteT K a).go i H ∧ ∃ N : L2.St → Hp → Prop, (∀ σ' H', N σ' H' → ∃ m', m' < m ∧ W (i + 1) m' σ' H') ∧ ∀ v H', (IteT K a).yld i H v H' → g v σ H' fun σ2 H2 => tb { D with nx := N, ct := N, bk := D.nx } σ2 H2) := by
  refine ⟨fun i m σ H => m = xs.length - i ∧ i ≤ xs.length ∧ Pv i σ H, ⟨xs.length, rfl, Nat.zero_le _, h0⟩, ?_⟩
  rintro i m σ H ⟨rfl, hi, p⟩
  have q := hl i σ H p
  by_cases hlt : i < xs.length
  · refine .inr ⟨⟨xs, xs[i], q, List.getElem?_eq_getElem hlt⟩, Pv (i + 1), fun σ' H' p' => ⟨xs.length - (i + 1), by omega, rfl, hlt, p'⟩, fun v H' y => ?_⟩
    obtain ⟨T, x, rfl, hT, rfl, f⟩ := y
    exact hs i x T σ H (f xs q) p hT
  · have e : i = xs.length := by omega
    subst e
    exact .inl ⟨⟨xs, q, Nat.le_refl _⟩, hd σ H p⟩
theorem for_zipTL {K : PySem.W.Frag} {a b : Addr} {xs ys : List V} {g : TG} {tb : TS} {D : Ends} {σ : L2.St} {H : Hp} (hl : xs.length = ys.length) (Pv : Nat → L2.St → Hp → Prop) (h0 : Pv 0 σ H) (hq : ∀ i σ H, Pv i σ H → SqT K H a xs ∧ SqL K H b ys)
    (hs : ∀ (i : Nat) (x y : V) (T : Addr) (σ : L2.St) (H : Hp), xs[i]? = some x → ys[i]? = some y → Pv i σ H → H T = none → g (.ref T) σ (upd H T (.tup [x, y])) fun σ2 H2 => tb { D with nx := Pv (i + 1), ct := Pv (i + 1), bk := D.nx } σ2 H2) (hd : ∀ σ H, Pv xs.length σ H → D.nx σ H) :
    ∃ W : Nat → Nat → L2.St → Hp → Prop, (∃ m, W 0 m σ H) ∧ ∀ i m σ H, W i m σ H →
      ((IzTL K a b).stop i H ∧ D.nx σ H) ∨ ((IzTL K a b).go i H ∧ ∃ N : L2.St → Hp → Prop, (∀ σ' H', N σ' H' → ∃ m', m' < m ∧ W (i + 1) m' σ' H') ∧ ∀ v H', (IzTL K a b).yld i H v H' → g v σ H' fun σ2 H2 => tb { D with nx := N, ct := N, bk := D.nx } σ2 H2) := by
  refine ⟨fun i m σ H => m = xs.length - i ∧ i ≤ xs.length ∧ Pv i σ H, ⟨xs.length, rfl, Nat.zero_le _, h0⟩, ?_⟩
  rintro i m σ H ⟨rfl, hi, p⟩
  obtain ⟨qx, qy⟩ := hq i σ H p
  by_cases hlt : i < xs.length
  · have hlt2 : i < ys.length := by omega
    refine .inr ⟨⟨xs, ys, _, _, qx, qy, List.getElem?_eq_getElem hlt, List.getElem?_eq_getElem hlt2⟩, Pv (i + 1), fun σ' H' p' => ⟨xs.length - (i + 1), by omega, rfl, hlt, p'⟩, fun v H' y => ?_⟩
    obtain ⟨T, x', y', rfl, hT, rfl, f1, f2⟩ := y
    exact hs i x' y' T σ H (f1 xs qx) (f2 ys qy) p hT
  · have e : i = xs.length := by omega
    subst e
    exact .inl ⟨⟨xs, ys, qx, qy, rfl, hl.symm⟩, hd σ H p⟩
end EZ
end
section
set_option Elab.async false
set_option linter.all false
set_option maxRecDepth 100000
set_option maxHeartbeats 2000000
/-! the text by places: each def's statement, its names by slot, its datum for the head -/
namespace OLT
open PySem PySem.Spec PyProof.Rows L2
def top (i : Nat) : Stmt := PySem.Challenge.pw_onelife_k10_whole_papers.main.body.getD i (.Pass ⟨0, 0, 0, 0⟩)

abbrev sNumber : Stmt := top 11
abbrev nNumber : List Str := ["value", "low", "high"]
abbrev pNumber : List Str := ["value", "low", "high"]
theorem scNumber : FnScope nNumber pNumber (defScope sNumber) := ⟨rfl, rfl, rfl, by decide +kernel, rfl, by decide +kernel, by decide +kernel⟩
def dNumber : He.DefD := ⟨("is_number", none), "is_number", "is_number", defArgs sNumber, defBody sNumber, defScope sNumber, [], []⟩
abbrev sWord : Stmt := top 12
abbrev nWord : List Str := ["value", "sign"]
abbrev pWord : List Str := ["value"]
theorem scWord : FnScope nWord pWord (defScope sWord) := ⟨rfl, rfl, rfl, by decide +kernel, rfl, by decide +kernel, by decide +kernel⟩
def dWord : He.DefD := ⟨("is_word", none), "is_word", "is_word", defArgs sWord, defBody sWord, defScope sWord, [], []⟩
abbrev sOption : Stmt := top 13
abbrev nOption : List Str := ["value", "many"]
abbrev pOption : List Str := ["value", "many"]
theorem scOption : FnScope nOption pOption (defScope sOption) := ⟨rfl, rfl, rfl, by decide +kernel, rfl, by decide +kernel, by decide +kernel⟩
def dOption : He.DefD := ⟨("is_option", none), "is_option", "is_option", defArgs sOption, defBody sOption, defScope sOption, [], []⟩
abbrev sNMach : Stmt := top 14
abbrev nNMach : List Str := ["value", "index", "state", "option"]
abbrev pNMach : List Str := ["value"]
theorem scNMach : FnScope nNMach pNMach (defScope sNMach) := ⟨rfl, rfl, rfl, by decide +kernel, rfl, by decide +kernel, by decide +kernel⟩
def dNMach : He.DefD := ⟨("need_machine", none), "need_machine", "need_machine", defArgs sNMach, defBody sNMach, defScope sNMach, [], []⟩
abbrev sNMarks : Stmt := top 18
abbrev nNMarks : List Str := ["value"]
abbrev pNMarks : List Str := ["value"]
theorem scNMarks : FnScope nNMarks pNMarks (defScope sNMarks) := ⟨rfl, rfl, rfl, by decide +kernel, rfl, by decide +kernel, by decide +kernel⟩
def dNMarks : He.DefD := ⟨("need_marks", none), "need_marks", "need_marks", defArgs sNMarks, defBody sNMarks, defScope sNMarks, [], []⟩
abbrev sIsRow : Stmt := top 19
abbrev nIsRow : List Str := ["value", "marks", "most", "mark"]
abbrev pIsRow : List Str := ["value", "marks", "most"]
theorem scIsRow : FnScope nIsRow pIsRow (defScope sIsRow) := ⟨rfl, rfl, rfl, by decide +kernel, rfl, by decide +kernel, by decide +kernel⟩
def dIsRow : He.DefD := ⟨("is_row", none), "is_row", "is_row", defArgs sIsRow, defBody sIsRow, defScope sIsRow, [.int 8], []⟩
abbrev sNTable : Stmt := top 20
abbrev nNTable : List Str := ["machine", "marks", "value", "index", "rows", "row"]
abbrev pNTable : List Str := ["machine", "marks", "value"]
theorem scNTable : FnScope nNTable pNTable (defScope sNTable) := ⟨rfl, rfl, rfl, by decide +kernel, rfl, by decide +kernel, by decide +kernel⟩
def dNTable : He.DefD := ⟨("need_table", none), "need_table", "need_table", defArgs sNTable, defBody sNTable, defScope sNTable, [], []⟩
abbrev sHouse : Stmt := top 21
abbrev nHouse : List Str := ["machine", "marks", "table"]
abbrev pHouse : List Str := ["machine", "marks", "table"]
theorem scHouse : FnScope nHouse pHouse (defScope sHouse) := ⟨rfl, rfl, rfl, by decide +kernel, rfl, by decide +kernel, by decide +kernel⟩
def dHouse : He.DefD := ⟨("need_house", none), "need_house", "need_house", defArgs sHouse, defBody sHouse, defScope sHouse, [], []⟩
abbrev sWInit : Stmt := inClass (top 25) 0
abbrev nWInit : List Str := ["self", "machine", "table", "_", "state"]
abbrev pWInit : List Str := ["self", "machine", "table"]
theorem scWInit : FnScope nWInit pWInit (defScope sWInit) := ⟨rfl, rfl, rfl, by decide +kernel, rfl, by decide +kernel, by decide +kernel⟩
def dWInit : He.DefD := ⟨("Walk", some "__init__"), "__init__", "Walk.__init__", defArgs sWInit, defBody sWInit, defScope sWInit, [], []⟩
abbrev sWNear : Stmt := inClass (top 25) 1
abbrev nWNear : List Str := ["self", "state", "option", "after", "word", "marks"]
abbrev pWNear : List Str := ["self", "state"]
theorem scWNear : FnScope nWNear pWNear (defScope sWNear) := ⟨rfl, rfl, rfl, by decide +kernel, rfl, by decide +kernel, by decide +kernel⟩
def dWNear : He.DefD := ⟨("Walk", some "bring_near"), "bring_near", "Walk.bring_near", defArgs sWNear, defBody sWNear, defScope sWNear, [], []⟩
abbrev sWMtw : Stmt := inClass (top 25) 2
abbrev nWMtw : List Str := ["self", "place", "state", "option", "done", "left", "after", "word"]
abbrev pWMtw : List Str := ["self", "place"]
theorem scWMtw : FnScope nWMtw pWMtw (defScope sWMtw) := ⟨rfl, rfl, rfl, by decide +kernel, rfl, by decide +kernel, by decide +kernel⟩
def dWMtw : He.DefD := ⟨("Walk", some "marks_to_word"), "marks_to_word", "Walk.marks_to_word", defArgs sWMtw, defBody sWMtw, defScope sWMtw, [], []⟩
abbrev sWChoices : Stmt := inClass (top 25) 3
abbrev nWChoices : List Str := ["self", "place", "option"]
abbrev pWChoices : List Str := ["self", "place"]
theorem scWChoices : FnScope nWChoices pWChoices (defScope sWChoices) := ⟨rfl, rfl, rfl, by decide +kernel, rfl, by decide +kernel, by decide +kernel⟩
def dWChoices : He.DefD := ⟨("Walk", some "choices"), "choices", "Walk.choices", defArgs sWChoices, defBody sWChoices, defScope sWChoices, [], []⟩
abbrev sWNext : Stmt := inClass (top 25) 4
abbrev nWNext : List Str := ["self", "place"]
abbrev pWNext : List Str := ["self", "place"]
theorem scWNext : FnScope nWNext pWNext (defScope sWNext) := ⟨rfl, rfl, rfl, by decide +kernel, rfl, by decide +kernel, by decide +kernel⟩
def dWNext : He.DefD := ⟨("Walk", some "next_mark"), "next_mark", "Walk.next_mark", defArgs sWNext, defBody sWNext, defScope sWNext, [], []⟩
abbrev sWGone : Stmt := inClass (top 25) 5
abbrev nWGone : List Str := ["self", "place", "state", "option", "done", "after", "word"]
abbrev pWGone : List Str := ["self", "place"]
theorem scWGone : FnScope nWGone pWGone (defScope sWGone) := ⟨rfl, rfl, rfl, by decide +kernel, rfl, by decide +kernel, by decide +kernel⟩
def dWGone : He.DefD := ⟨("Walk", some "gone_on"), "gone_on", "Walk.gone_on", defArgs sWGone, defBody sWGone, defScope sWGone, [], []⟩
abbrev sWTog : Stmt := inClass (top 25) 6
abbrev nWTog : List Str := ["self", "pair", "one", "other", "mine", "theirs"]
abbrev pWTog : List Str := ["self", "pair"]
theorem scWTog : FnScope nWTog pWTog (defScope sWTog) := ⟨rfl, rfl, rfl, by decide +kernel, rfl, by decide +kernel, by decide +kernel⟩
def dWTog : He.DefD := ⟨("Walk", some "together"), "together", "Walk.together", defArgs sWTog, defBody sWTog, defScope sWTog, [], []⟩
abbrev sWChosen : Stmt := inClass (top 25) 7
abbrev nWChosen : List Str := ["self", "pair", "one", "other", "found", "place"]
abbrev pWChosen : List Str := ["self", "pair"]
theorem scWChosen : FnScope nWChosen pWChosen (defScope sWChosen) := ⟨rfl, rfl, rfl, by decide +kernel, rfl, by decide +kernel, by decide +kernel⟩
def dWChosen : He.DefD := ⟨("Walk", some "chosen"), "chosen", "Walk.chosen", defArgs sWChosen, defBody sWChosen, defScope sWChosen, [], []⟩
abbrev sWPart : Stmt := inClass (top 25) 8
abbrev nWPart : List Str := ["self", "places", "words"]
abbrev pWPart : List Str := ["self", "places", "words"]
theorem scWPart : FnScope nWPart pWPart (defScope sWPart) := ⟨rfl, rfl, rfl, by decide +kernel, rfl, by decide +kernel, by decide +kernel⟩
def dWPart : He.DefD := ⟨("Walk", some "marks_to_part"), "marks_to_part", "Walk.marks_to_part", defArgs sWPart, defBody sWPart, defScope sWPart, [], []⟩
abbrev sWPlace : Stmt := inClass (top 25) 9
abbrev nWPlace : List Str := ["self", "value"]
abbrev pWPlace : List Str := ["self", "value"]
theorem scWPlace : FnScope nWPlace pWPlace (defScope sWPlace) := ⟨rfl, rfl, rfl, by decide +kernel, rfl, by decide +kernel, by decide +kernel⟩
def dWPlace : He.DefD := ⟨("Walk", some "is_place"), "is_place", "Walk.is_place", defArgs sWPlace, defBody sWPlace, defScope sWPlace, [], []⟩
abbrev sOrder : Stmt := top 26
abbrev nOrder : List Str := ["pair", "place", "part"]
abbrev pOrder : List Str := ["pair"]
theorem scOrder : FnScope nOrder pOrder (defScope sOrder) := ⟨rfl, rfl, rfl, by decide +kernel, rfl, by decide +kernel, by decide +kernel⟩
def dOrder : He.DefD := ⟨("order_of", none), "order_of", "order_of", defArgs sOrder, defBody sOrder, defScope sOrder, [], []⟩
abbrev sPaperOf : Stmt := top 27
abbrev nPaperOf : List Str := ["walk", "found", "seen", "at", "pair", "goes", "places", "words", "longer", "one"]
abbrev pPaperOf : List Str := ["walk"]
theorem scPaperOf : FnScope nPaperOf pPaperOf (defScope sPaperOf) := ⟨rfl, rfl, rfl, by decide +kernel, rfl, by decide +kernel, by decide +kernel⟩
def dPaperOf : He.DefD := ⟨("paper_of", none), "paper_of", "paper_of", defArgs sPaperOf, defBody sPaperOf, defScope sPaperOf, [], []⟩
abbrev sSafe : Stmt := top 28
abbrev nSafe : List Str := ["machine", "marks", "table"]
abbrev pSafe : List Str := ["machine", "marks", "table"]
theorem scSafe : FnScope nSafe pSafe (defScope sSafe) := ⟨rfl, rfl, rfl, by decide +kernel, rfl, by decide +kernel, by decide +kernel⟩
def dSafe : He.DefD := ⟨("is_safe", none), "is_safe", "is_safe", defArgs sSafe, defBody sSafe, defScope sSafe, [], []⟩
abbrev sClosed : Stmt := top 29
abbrev nClosed : List Str := ["machine", "marks", "table", "found"]
abbrev pClosed : List Str := ["machine", "marks", "table"]
theorem scClosed : FnScope nClosed pClosed (defScope sClosed) := ⟨rfl, rfl, rfl, by decide +kernel, rfl, by decide +kernel, by decide +kernel⟩
def dClosed : He.DefD := ⟨("closed_paper", none), "closed_paper", "closed_paper", defArgs sClosed, defBody sClosed, defScope sClosed, [], []⟩
abbrev sIsPaper : Stmt := top 30
abbrev nIsPaper : List Str := ["walk", "value", "pair", "orders", "place", "one", "other"]
abbrev pIsPaper : List Str := ["walk", "value"]
theorem scIsPaper : FnScope nIsPaper pIsPaper (defScope sIsPaper) := ⟨rfl, rfl, rfl, by decide +kernel, rfl, by decide +kernel, by decide +kernel⟩
def dIsPaper : He.DefD := ⟨("is_paper", none), "is_paper", "is_paper", defArgs sIsPaper, defBody sIsPaper, defScope sIsPaper, [], []⟩
abbrev sShows : Stmt := top 31
abbrev nShows : List Str := ["machine", "marks", "table", "value", "walk", "pair", "longer", "goes", "places", "words", "there", "one"]
abbrev pShows : List Str := ["machine", "marks", "table", "value"]
theorem scShows : FnScope nShows pShows (defScope sShows) := ⟨rfl, rfl, rfl, by decide +kernel, rfl, by decide +kernel, by decide +kernel⟩
def dShows : He.DefD := ⟨("shows_closed", none), "shows_closed", "shows_closed", defArgs sShows, defBody sShows, defScope sShows, [], []⟩
abbrev sLTaken : Stmt := top 33
abbrev nLTaken : List Str := ["_law_row_here", "_law_many", "_law_found", "_law_cell"]
abbrev pLTaken : List Str := ["_law_row_here", "_law_many"]
theorem scLTaken : FnScope nLTaken pLTaken (defScope sLTaken) := ⟨rfl, rfl, rfl, by decide +kernel, rfl, by decide +kernel, by decide +kernel⟩
def dLTaken : He.DefD := ⟨("_law_taken", none), "_law_taken", "_law_taken", defArgs sLTaken, defBody sLTaken, defScope sLTaken, [], []⟩
abbrev sLPick : Stmt := top 34
abbrev nLPick : List Str := ["_law_row_here", "_law_things"]
abbrev pLPick : List Str := ["_law_row_here", "_law_things"]
theorem scLPick : FnScope nLPick pLPick (defScope sLPick) := ⟨rfl, rfl, rfl, by decide +kernel, rfl, by decide +kernel, by decide +kernel⟩
def dLPick : He.DefD := ⟨("_law_pick", none), "_law_pick", "_law_pick", defArgs sLPick, defBody sLPick, defScope sLPick, [], []⟩
abbrev sLMach : Stmt := top 35
abbrev nLMach : List Str := ["_law_row_here", "_law_most", "_law_options", "_law_many", "_law_found", "_law_words", "_law_way", "_law_state", "_law_lot", "_law_least", "_law_option", "_law_word"]
abbrev pLMach : List Str := ["_law_row_here", "_law_most", "_law_options"]
theorem scLMach : FnScope nLMach pLMach (defScope sLMach) := ⟨rfl, rfl, rfl, by decide +kernel, rfl, by decide +kernel, by decide +kernel⟩
def dLMach : He.DefD := ⟨("_law_machine", none), "_law_machine", "_law_machine", defArgs sLMach, defBody sLMach, defScope sLMach, [], []⟩
abbrev sLRow : Stmt := top 36
abbrev nLRow : List Str := ["_law_row_here", "_law_marks", "_law_most", "_law_place"]
abbrev pLRow : List Str := ["_law_row_here", "_law_marks", "_law_most"]
theorem scLRow : FnScope nLRow pLRow (defScope sLRow) := ⟨rfl, rfl, rfl, by decide +kernel, rfl, by decide +kernel, by decide +kernel⟩
def dLRow : He.DefD := ⟨("_law_row", none), "_law_row", "_law_row", defArgs sLRow, defBody sLRow, defScope sLRow, [], []⟩
abbrev sLEvery : Stmt := top 37
abbrev nLEvery : List Str := ["_law_marks", "_law_length", "_law_found", "_law_place", "_law_longer", "_law_one", "_law_mark"]
abbrev pLEvery : List Str := ["_law_marks", "_law_length"]
theorem scLEvery : FnScope nLEvery pLEvery (defScope sLEvery) := ⟨rfl, rfl, rfl, by decide +kernel, rfl, by decide +kernel, by decide +kernel⟩
def dLEvery : He.DefD := ⟨("_law_every", none), "_law_every", "_law_every", defArgs sLEvery, defBody sLEvery, defScope sLEvery, [], []⟩
abbrev sLTable : Stmt := top 38
abbrev nLTable : List Str := ["_law_row_here", "_law_machine_here", "_law_marks", "_law_most", "_law_way", "_law_found", "_law_state", "_law_option", "_law_rows", "_law_length", "_law_every_here"]
abbrev pLTable : List Str := ["_law_row_here", "_law_machine_here", "_law_marks", "_law_most"]
theorem scLTable : FnScope nLTable pLTable (defScope sLTable) := ⟨rfl, rfl, rfl, by decide +kernel, rfl, by decide +kernel, by decide +kernel⟩
def dLTable : He.DefD := ⟨("_law_table", none), "_law_table", "_law_table", defArgs sLTable, defBody sLTable, defScope sLTable, [], []⟩
abbrev sLSay : Stmt := top 39
abbrev nLSay : List Str := ["_law_machine_here", "_law_found", "_law_state", "_law_there", "_law_some", "_law_turn", "_law_place", "_law_after", "_law_word"]
abbrev pLSay : List Str := ["_law_machine_here"]
theorem scLSay : FnScope nLSay pLSay (defScope sLSay) := ⟨rfl, rfl, rfl, by decide +kernel, rfl, by decide +kernel, by decide +kernel⟩
def dLSay : He.DefD := ⟨("_law_can_say", none), "_law_can_say", "_law_can_say", defArgs sLSay, defBody sLSay, defScope sLSay, [], []⟩
abbrev sLBehind : Stmt := top 40
abbrev nLBehind : List Str := ["_law_machine_here", "_law_table_here", "_law_pair", "_law_found", "_law_loud", "_law_side", "_law_state", "_law_option", "_law_done", "_law_one", "_law_place", "_law_lines", "_law_places", "_law_words", "_law_left", "_law_line", "_law_after", "_law_word", "_law_whole"]
abbrev pLBehind : List Str := ["_law_machine_here", "_law_table_here", "_law_pair"]
theorem scLBehind : FnScope nLBehind pLBehind (defScope sLBehind) := ⟨rfl, rfl, rfl, by decide +kernel, rfl, by decide +kernel, by decide +kernel⟩
def dLBehind : He.DefD := ⟨("_law_pairs_behind", none), "_law_pairs_behind", "_law_pairs_behind", defArgs sLBehind, defBody sLBehind, defScope sLBehind, [], []⟩
abbrev sLPaper : Stmt := top 41
abbrev nLPaper : List Str := ["_law_machine_here", "_law_table_here", "_law_start", "_law_found", "_law_last", "_law_longer", "_law_pair", "_law_behind", "_law_bad", "_law_one", "_law_keys", "_law_numbers", "_law_part", "_law_key"]
abbrev pLPaper : List Str := ["_law_machine_here", "_law_table_here"]
theorem scLPaper : FnScope nLPaper pLPaper (defScope sLPaper) := ⟨rfl, rfl, rfl, by decide +kernel, rfl, by decide +kernel, by decide +kernel⟩
def dLPaper : He.DefD := ⟨("_law_paper", none), "_law_paper", "_law_paper", defArgs sLPaper, defBody sLPaper, defScope sLPaper, [], []⟩
abbrev sLAlike : Stmt := top 42
abbrev nLAlike : List Str := ["_law_found", "_law_due", "_law_k"]
abbrev pLAlike : List Str := ["_law_found", "_law_due"]
theorem scLAlike : FnScope nLAlike pLAlike (defScope sLAlike) := ⟨rfl, rfl, rfl, by decide +kernel, rfl, by decide +kernel, by decide +kernel⟩
def dLAlike : He.DefD := ⟨("_law_alike", none), "_law_alike", "_law_alike", defArgs sLAlike, defBody sLAlike, defScope sLAlike, [], []⟩
abbrev sLaw : Stmt := top 43
abbrev nLaw : List Str := ["_law_script", "_law_row_here", "_law_machine_here", "_law_marks", "_law_table_here", "_law_due", "_law_found"]
abbrev pLaw : List Str := ["_law_script"]
theorem scLaw : FnScope nLaw pLaw (defScope sLaw) := ⟨rfl, rfl, rfl, by decide +kernel, rfl, by decide +kernel, by decide +kernel⟩
def dLaw : He.DefD := ⟨("law", none), "law", "law", defArgs sLaw, defBody sLaw, defScope sLaw, [], []⟩
def fn : List He.DefD := [dNumber, dWord, dOption, dNMach, dNMarks, dIsRow, dNTable, dHouse, dWInit, dWNear, dWMtw, dWChoices, dWNext, dWGone, dWTog, dWChosen, dWPart, dWPlace, dOrder, dPaperOf, dSafe, dClosed, dIsPaper, dShows, dLTaken, dLPick, dLMach, dLRow, dLEvery, dLTable, dLSay, dLBehind, dLPaper, dLAlike, dLaw]
end OLT
end
section
set_option Elab.async false
set_option linter.all false
set_option maxRecDepth 100000
set_option maxHeartbeats 2000000
/-! what all walks share: a def's rule, a call, data in the heap -/
namespace OLC
open PySem PySem.Spec PyProof.Rows L2 OLT
abbrev FnP (K : PySem.W.Frag) (x q : Str) (st : Stmt) (f : Addr) (fd : FuncData) : Prop := FunD K x q (defArgs st) (defBody st) (defScope st) [] [] f fd
section
variable {P : Program} {w : World} {K : PySem.W.Frag} {mg : Str → Option Value} {base : Heap} {x qual : Str} {st : Stmt} {dvs : List V} {kws : List (Str × V)} {f : Addr} {fd : FuncData}
/-- a def that nothing leaves by raising -/
theorem okN {N ps : List Str} {k : Nat} {sp : Sp} (F : FunD K x qual (defArgs st) (defBody st) (defScope st) dvs kws f fd) (S : FnScope N ps (defScope st)) (len : ∀ vs H Q E, sp vs H Q E → vs.length = ps.length)
    (hbody : ∀ (cdv : Value) (A : Around) (outer : List Env) (s : Shared) (H : Hp) (vs : List V) (Q : VK) (E : XK), Room k (A.deeper (envOfC qual (defScope st) s.heap.objs.size f cdv)) → sp vs H Q E →
      ∃ t, PSs (cxOf CX0 P w K mg base N qual (defScope st) f cdv A outer s H E).nox (defBody st) t ∧ t { nx := fun _ H' => Q .non H', rt := Q } (start N vs) H) : FnOk P w K mg base CX0 (k + 1) f fd ps sp :=
  F.ok S len fun cdv A outer s H vs Q E hr h => by
    obtain ⟨t, h1, h2⟩ := hbody cdv A outer s H vs Q E hr h
    exact ⟨t, h1.nox, h2⟩
/-- .. its code object stands at c -/
theorem okC {N ps : List Str} {k : Nat} {sp : Sp} {c : Addr} (F : FunD K x qual (defArgs st) (defBody st) (defScope st) dvs kws f fd) (hc : fd.code = .ref c) (S : FnScope N ps (defScope st)) (len : ∀ vs H Q E, sp vs H Q E → vs.length = ps.length)
    (hbody : ∀ (A : Around) (outer : List Env) (s : Shared) (H : Hp) (vs : List V) (Q : VK) (E : XK), Room k (A.deeper (envOfC qual (defScope st) s.heap.objs.size f (.ref c))) → sp vs H Q E →
      ∃ t, PSs (cxOf CX0 P w K mg base N qual (defScope st) f (.ref c) A outer s H E).nox (defBody st) t ∧ t { nx := fun _ H' => Q .non H', rt := Q } (start N vs) H) : FnOk P w K mg base CX0 (k + 1) f fd ps sp := by
  obtain ⟨oc, od, dV, kV, doc, pm, an, cdv, ct, osl, rfl, lk, hcd, _, _⟩ := F.ex
  have e : cdv = .ref c := hc
  subst e
  refine fn_of lk hcd S len fun A outer s H vs Q E hr h => ?_
  obtain ⟨t, h1, h2⟩ := hbody A outer s H vs Q E hr h
  exact ⟨t, h1.nox, h2⟩
/-- what a caller wants of a def by its name -/
structure Cal (P : Program) (w : World) (K : PySem.W.Frag) (mg : Str → Option Value) (base : Heap) (x : Str) (k : Nat) (ps : List Str) (sp : Sp) (f : Addr) (fd : FuncData) (dvs : List V) (ds : List Value) : Prop where
  ok : FnOk P w K mg base CX0 k f fd ps sp
  g : mg x = some (.ref f)
  kp : PySem.W.keepIn K (.ref f) = true
  b : Binds K fd ps ds
  d : Vals dvs ds
structure CalM (P : Program) (w : World) (K : PySem.W.Frag) (mg : Str → Option Value) (base : Heap) (C : Addr) (m : Str) (k : Nat) (ps : List Str) (sp : Sp) (f : Addr) (fd : FuncData) : Prop where
  ok : FnOk P w K mg base CX0 k f fd ps sp
  m : Meth K C m f
  b : Binds K fd ps []
end
section
variable {X : Cx} {k : Nat} {ps : List Str} {sp : Sp} {f C : Addr} {fd : FuncData} {dvs : List V} {ds : List Value} {x m : Str} {e o : Expr} {es : List Expr} {ta : TE} {t : TA} {p pos apos : Pos}
theorem pe_cal (G : Cal X.prog X.w X.K X.mg X.base x k ps sp f fd dvs ds) (hr : Room k X.A) (ha : PA X (e :: es) t) (hg : Gl X x := by rfl)
    (hdb : (x == ("__debug__" : Str)) = false := by decide) (he : starEach (e :: es) X.env = (false, eval e X.env) :: starEach es X.env := by rfl) (hpl : (backTo pos (starEach es X.env)).any (·.1) = false := by rfl) :
    PE X (.Call (.Name x p) (e :: es) [] pos) (tCall sp dvs E0 t) := pe_call G.ok hr hg G.g G.kp G.b G.d pass0 ha hdb he hpl
theorem pe_calm {pl : Sem Bool} (he : PE X o ta) (c : Cls X.K C) (G : CalM X.prog X.w X.K X.mg X.base C m k ps sp f fd) (hr : Room k X.A) (ha : PA X (e :: es) t)
    (hst : starEach (e :: es) X.env = (false, eval e X.env) :: starEach es X.env := by rfl) (hpl : (backTo pos (starEach es X.env)).any (·.1) = false := by rfl)
    (ht : eval (.Call (.Attribute o m apos) (e :: es) [] pos) X.env = (do
      let ov ← eval o X.env
      standAt apos.atName
      let (f, first) ← holding [ov] (getMethod ov m pl)
      callWith pos f first (backTo pos (starEach (e :: es) X.env)) (backToKw pos (keywordEach [] X.env))) := by rfl) :
    PE X (.Call (.Attribute o m apos) (e :: es) [] pos) (tMeth C m sp [] E0 ta t) := pe_meth he c G.m G.ok hr G.b .nil pass0 ha hst hpl ht
/-- isinstance(x, T), T a built-in class -/
def rIs (K : PySem.W.Frag) (n : String) : List V → Hp → VK → Prop := fun xs H Q => ∃ (v : V) (t : String) (b : Bool), xs = [v, .ty n] ∧ TyX K H v (.type t) ∧ kitB t n = some b ∧ Q (.bl b) H
theorem call_is {n : String} : CallR X (.builtin "isinstance") (rIs X.K n) := fun pins s σ H xs us Q I r h => by
  obtain ⟨v, t, b, rfl, ty, e, q⟩ := h
  exact call_isi pins s σ H _ us Q I r ⟨v, .ty n, .type t, .type n, b, rfl, .ty n, ty, kit_ty e, q⟩
theorem pe_is {T : Str} (n : String) (he : PE X e ta) (h1 : X.mg "isinstance" = none) (h2 : X.mg T = none) (h3 : bootBuiltins T = some (.type n) := by decide +kernel) (hg : Gl X "isinstance" := by rfl) (hg2 : Gl X T := by rfl)
    (hn : T ≠ "__name__" := by decide) (hdb : (T == ("__debug__" : Str)) = false := by decide)
    (hst : starEach [e, .Name T p] X.env = (false, eval e X.env) :: starEach [.Name T p] X.env := by rfl) (hst2 : starEach [.Name T p] X.env = (false, eval (.Name T p) X.env) :: starEach [] X.env := by rfl) (hpl : (backTo pos (starEach [.Name T p] X.env)).any (·.1) = false := by rfl) :
    PE X (.Call (.Name "isinstance" apos) [e, .Name T p] [] pos) (tCB (rIs X.K n) (tCons ta (tCons (tC (.ty n)) tNil))) :=
  pe_callB (pos := pos) (p := apos) call_is hg h1 (by decide +kernel) (pa_cons he (pa_cons (pe_bltn (v := .ty n) (pos := p) hg2 h2 h3 rfl hn hdb) pa_nil hst2) hst) (by decide) (by decide) hst hpl
end
end OLC
end
section
set_option Elab.async false
set_option linter.all false
set_option maxRecDepth 100000
set_option maxHeartbeats 2000000
/-! data in the heap: machines, tables, places, pairs (all of them tuples of tuples) -/
namespace OLC
open PySem PySem.Spec PyProof.Rows L2 OLT
abbrev Fr := PySem.W.Frag
/-- the value v is the data k -/
abbrev At (K : Fr) (H : Hp) (v : V) (k : NestedKey) : Prop := Dp K H v (NestedKey.data k)
abbrev Ats (K : Fr) (H : Hp) (vs : List V) (ks : List NestedKey) : Prop := DpAll K H vs (NestedKey.datas ks)
/-- tuples stay -/
def Keep (K : Fr) (H H' : Hp) : Prop := ∀ (b : Addr) (xs : List V), SqT K H b xs → SqT K H' b xs
section
variable {K : Fr} {H H' H'' : Hp}
theorem Keep.refl : Keep K H H := fun _ _ h => h
theorem Keep.trans (a : Keep K H H') (b : Keep K H' H'') : Keep K H H'' := fun c xs h => b c xs (a c xs h)
theorem keep_same (e : Same H H') : Keep K H H' := fun b xs q => q.elim (fun q => .inl (q.elim (fun q => .inl (e _ _ q)) fun ⟨o, q⟩ => .inr ⟨o, e _ _ q⟩)) fun q => .inr q
theorem same_new {p : Addr} {o : HO} (h : H p = none) : Same H (upd H p o) := fun b u e => by rw [upd_ne (ne_of_none e h)]; exact e
theorem Same.tup {a : Addr} {xs : List V} (e : Same H H') (h : SqT K H a xs) : SqT K H' a xs := keep_same e a xs h
theorem At.keep {v : V} {k : NestedKey} (h : At K H v k) (e : Keep K H H') : At K H' v k := ND.key_stays e k v h
theorem Ats.keep {vs : List V} {ks : List NestedKey} (h : Ats K H vs ks) (e : Keep K H H') : Ats K H' vs ks := ND.keys_stay e ks vs h
/-- but for the tables of code objects nothing that was there has changed -/
def Kept (H H' : Hp) : Prop := ∀ b o, H b = some o → (∀ ps, o ≠ .tbl ps) → H' b = some o
theorem Kept.refl : Kept H H := fun _ _ h _ => h
theorem Kept.trans (a : Kept H H') (b : Kept H' H'') : Kept H H'' := fun c o h n => b c o (a c o h n) n
theorem Same.kept (e : Same H H') : Kept H H' := fun b o h _ => e b o h
theorem keep_kept (e : Kept H H') : Keep K H H' := fun b xs q => q.elim (fun q => .inl (q.elim (fun q => .inl (e _ _ q (by intro ps z; cases z))) fun ⟨o, q⟩ => .inr ⟨o, e _ _ q (by intro ps z; cases z)⟩)) fun q => .inr q
theorem tabbed_kept {P : Addr} (t : GxR.TabG H P) (h : GxR.Tabbed P H H') : Kept H H' := fun b o e n => by
  obtain ⟨ps, z, _⟩ := t
  rw [h.2 b (fun q => by rw [q, z] at e; cases e; exact n _ rfl)]
  exact e
/-- nothing but what stands at r has changed -/
def But (r : Addr) (H H' : Hp) : Prop := ∀ b o, b ≠ r → H b = some o → H' b = some o
theorem But.refl {r : Addr} : But r H H := fun _ _ _ h => h
theorem But.trans {r : Addr} (a : But r H H') (b : But r H' H'') : But r H H'' := fun c o n h => b c o n (a c o n h)
theorem Same.but {r : Addr} (e : Same H H') : But r H H' := fun b o _ h => e b o h
theorem but_upd {r : Addr} {o : HO} : But r H (upd H r o) := fun b u n h => by rw [upd_ne n]; exact h
theorem But.tup' {r : Addr} {o : HO} (hr : H r = some o) (h1 : ∀ xs, o ≠ .tup xs) (h2 : ∀ q u, o ≠ .frz q u) (e : But r H H') : Keep K H H' := fun b xs q => q.elim (fun q => .inl (q.elim
  (fun q => .inl (e _ _ (fun z => by rw [z, hr] at q; cases q; exact h1 _ rfl) q)) fun ⟨o, q⟩ => .inr ⟨o, e _ _ (fun z => by rw [z, hr] at q; cases q; exact h2 _ _ rfl) q⟩)) fun q => .inr q
theorem But.tup {r : Addr} {ys : List V} (hr : H r = some (.lst ys)) (e : But r H H') : Keep K H H' := e.tup' hr (fun _ z => by cases z) fun _ _ z => by cases z
theorem But.tupD {r : Addr} {ys : List (Key × V)} (hr : H r = some (.dK ys)) (e : But r H H') : Keep K H H' := e.tup' hr (fun _ z => by cases z) fun _ _ z => by cases z
theorem But.seq {r : Addr} {a : Addr} {xs : List V} (e : But r H H') (n : a ≠ r) (h : SqL K H a xs) : SqL K H' a xs := by
  rcases h with (h | ⟨o, h⟩) | h
  · exact .inl (.inl (e _ _ n h))
  · exact .inl (.inr ⟨o, e _ _ n h⟩)
  · exact .inr h
theorem Kept.seq {a : Addr} {xs : List V} (e : Kept H H') (h : SqL K H a xs) : SqL K H' a xs := by
  rcases h with (h | ⟨o, h⟩) | h
  · exact .inl (.inl (e _ _ h (by intro ps z; cases z)))
  · exact .inl (.inr ⟨o, e _ _ h (by intro ps z; cases z)⟩)
  · exact .inr h
/-! ### taking data apart, putting it together -/
theorem at_tup {v : V} {ks : List NestedKey} : At K H v (.tup ks) ↔ ∃ (a : Addr) (xs : List V), v = .ref a ∧ SqT K H a xs ∧ Ats K H xs ks := by
  constructor
  · intro h
    have h : Dp K H v (.tuple (NestedKey.datas ks)) := by have := h; unfold At at this; rwa [NestedKey.data] at this
    cases h with
    | tup a b => exact ⟨_, _, rfl, a, b⟩
  · rintro ⟨a, xs, rfl, h1, h2⟩
    show Dp K H _ (NestedKey.data _)
    rw [NestedKey.data]
    exact .tup h1 h2
theorem at_num {v : V} {i : Int} : At K H v (.num i) ↔ v = .int i := by
  constructor
  · intro h
    have h : Dp K H v (.int i) := by have := h; unfold At at this; rwa [NestedKey.data] at this
    cases h; rfl
  · rintro rfl
    show Dp K H _ (NestedKey.data _)
    rw [NestedKey.data]
    exact .int i
theorem at_text {v : V} {x : Str} : At K H v (.text x) ↔ v = .str x := by
  constructor
  · intro h
    have h : Dp K H v (.str x) := by have := h; unfold At at this; rwa [NestedKey.data] at this
    cases h; rfl
  · rintro rfl
    show Dp K H _ (NestedKey.data _)
    rw [NestedKey.data]
    exact .str x
theorem at_none {v : V} : At K H v .none ↔ v = .non := by
  constructor
  · intro h
    have h : Dp K H v .none := by have := h; unfold At at this; rwa [NestedKey.data] at this
    cases h; rfl
  · rintro rfl
    show Dp K H _ (NestedKey.data _)
    rw [NestedKey.data]
    exact .non
theorem ats_nil {vs : List V} : Ats K H vs [] ↔ vs = [] := by
  constructor
  · intro h
    have h : DpAll K H vs [] := by have := h; unfold Ats at this; rwa [NestedKey.datas] at this
    cases h; rfl
  · rintro rfl
    show DpAll K H _ (NestedKey.datas _)
    rw [NestedKey.datas]
    exact .nil
theorem ats_cons {vs : List V} {k : NestedKey} {ks : List NestedKey} : Ats K H vs (k :: ks) ↔ ∃ x xs, vs = x :: xs ∧ At K H x k ∧ Ats K H xs ks := by
  constructor
  · intro h
    have h : DpAll K H vs (NestedKey.data k :: NestedKey.datas ks) := by have := h; unfold Ats at this; rwa [NestedKey.datas] at this
    cases h with
    | cons a b => exact ⟨_, _, rfl, a, b⟩
  · rintro ⟨x, xs, rfl, h1, h2⟩
    show DpAll K H _ (NestedKey.datas _)
    rw [NestedKey.datas]
    exact .cons h1 h2
theorem Ats.cons' {x : V} {xs : List V} {k : NestedKey} {ks : List NestedKey} (h1 : At K H x k) (h2 : Ats K H xs ks) : Ats K H (x :: xs) (k :: ks) := ats_cons.mpr ⟨_, _, rfl, h1, h2⟩
theorem Ats.nil' : Ats K H [] [] := ats_nil.mpr rfl
theorem Ats.len : ∀ {ks : List NestedKey} {vs : List V}, Ats K H vs ks → vs.length = ks.length
  | [], vs, h => by rw [ats_nil.mp h]; rfl
  | k :: ks, vs, h => by
    obtain ⟨x, xs, rfl, h1, h2⟩ := ats_cons.mp h
    rw [List.length_cons, List.length_cons, Ats.len h2]
theorem Ats.get : ∀ {ks : List NestedKey} {vs : List V} {i : Nat} {k : NestedKey}, Ats K H vs ks → ks[i]? = some k → ∃ x, vs[i]? = some x ∧ At K H x k
  | [], vs, i, k, h, e => by simp at e
  | k' :: ks, vs, i, k, h, e => by
    obtain ⟨x, xs, rfl, h1, h2⟩ := ats_cons.mp h
    cases i with
    | zero =>
      simp at e
      subst e
      exact ⟨x, rfl, h1⟩
    | succ i =>
      simp at e
      obtain ⟨y, h3, h4⟩ := Ats.get h2 e
      exact ⟨y, by simpa using h3, h4⟩
theorem Ats.got {ks : List NestedKey} {vs : List V} {i : Nat} {x : V} (h : Ats K H vs ks) (e : vs[i]? = some x) : ∃ k, ks[i]? = some k ∧ At K H x k := by
  have hi : i < ks.length := by rw [← h.len]; exact (List.getElem?_eq_some_iff.mp e).1
  obtain ⟨y, h1, h2⟩ := h.get (List.getElem?_eq_getElem hi)
  rw [e] at h1
  cases h1
  exact ⟨_, List.getElem?_eq_getElem hi, h2⟩
theorem Ats.append : ∀ {ks : List NestedKey} {vs ws : List V} {js : List NestedKey}, Ats K H vs ks → Ats K H ws js → Ats K H (vs ++ ws) (ks ++ js)
  | [], vs, ws, js, h, h' => by
    rw [ats_nil.mp h]
    exact h'
  | k :: ks, vs, ws, js, h, h' => by
    obtain ⟨x, xs, rfl, h1, h2⟩ := ats_cons.mp h
    exact Ats.cons' h1 (Ats.append h2 h')
theorem Ats.snoc {ks : List NestedKey} {vs : List V} {x : V} {k : NestedKey} (h : Ats K H vs ks) (h' : At K H x k) : Ats K H (vs ++ [x]) (ks ++ [k]) := h.append (.cons' h' .nil')
/-! ### the data -/
def kW : Option Str → NestedKey
  | none => .none
  | some x => .text x
def vW : Option Str → V
  | none => .non
  | some x => .str x
def kN : Option Nat → NestedKey
  | none => .none
  | some n => .num n
def vN : Option Nat → V
  | none => .non
  | some n => .int n
theorem at_kW {v : V} {w : Option Str} : At K H v (kW w) ↔ v = vW w := by cases w <;> simp only [kW, vW, at_none, at_text]
theorem at_kN {v : V} {n : Option Nat} : At K H v (kN n) ↔ v = vN n := by cases n <;> simp only [kN, vN, at_none, at_num]
abbrev Mc := OL.Mc Str
def kOpt (o : Nat × Option Str) : NestedKey := .tup [.num o.1, kW o.2]
def kSt (st : List (Nat × Option Str)) : NestedKey := .tup (st.map kOpt)
def kMc (M : Mc) : NestedKey := .tup (M.map kSt)
def kRow (r : List Nat) : NestedKey := .tup (r.map fun m : Nat => .num m)
def kRows (rs : List (List Nat)) : NestedKey := .tup (rs.map kRow)
def kTb (T : OL.Tb) : NestedKey := .tup (T.map kRows)
def kPl (p : OL.Pl) : NestedKey := .tup [.num p.1, kN p.2.1, .num p.2.2]
def kPr (p : OL.Pr) : NestedKey := .tup [kPl p.1, kPl p.2]
theorem kN_inj {a b : Option Nat} (h : kN a = kN b) : a = b := by
  cases a with
  | none => cases b with
    | none => rfl
    | some n => simp [kN] at h
  | some m => cases b with
    | none => simp [kN] at h
    | some n =>
      simp only [kN, NestedKey.num.injEq] at h
      rw [show m = n by omega]
theorem kPl_inj {p q : OL.Pl} (h : kPl p = kPl q) : p = q := by
  obtain ⟨a, b, c⟩ := p
  obtain ⟨a', b', c'⟩ := q
  simp only [kPl, NestedKey.tup.injEq, List.cons.injEq, NestedKey.num.injEq, and_true] at h
  obtain ⟨h1, h2, h3⟩ := h
  rw [show a = a' by omega, kN_inj h2, show c = c' by omega]
theorem kPr_inj {p q : OL.Pr} (h : kPr p = kPr q) : p = q := by
  obtain ⟨a, b⟩ := p
  obtain ⟨a', b'⟩ := q
  simp only [kPr, NestedKey.tup.injEq, List.cons.injEq, and_true] at h
  rw [kPl_inj h.1, kPl_inj h.2]
theorem kPr_mem {p : OL.Pr} {l : List OL.Pr} : kPr p ∈ l.map kPr ↔ p ∈ l := by
  constructor
  · intro h
    obtain ⟨q, hq, e⟩ := List.mem_map.mp h
    rwa [← kPr_inj e]
  · exact fun h => List.mem_map.mpr ⟨p, h, rfl⟩
theorem kPr_nodup {l : List OL.Pr} (h : l.Nodup) : (l.map kPr).Nodup := by
  induction l with
  | nil => exact List.nodup_nil
  | cons p l ih =>
    have := List.nodup_cons.mp h
    rw [List.map_cons]
    exact List.nodup_cons.mpr ⟨fun z => this.1 (kPr_mem.mp z), ih this.2⟩
theorem kPl_depth (p : OL.Pl) : (kPl p).depth ≤ 4 := by
  obtain ⟨a, b, c⟩ := p
  cases b <;> simp [kPl, kN, NestedKey.depth, NestedKey.depthAll]
theorem kPr_depth (p : OL.Pr) : (kPr p).depth ≤ 8 := by
  obtain ⟨⟨a, b, c⟩, ⟨a', b', c'⟩⟩ := p
  cases b <;> cases b' <;> simp [kPr, kPl, kN, NestedKey.depth, NestedKey.depthAll]
theorem at_pl {v : V} {p : OL.Pl} : At K H v (kPl p) ↔ ∃ a, v = .ref a ∧ SqT K H a [.int p.1, vN p.2.1, .int p.2.2] := by
  unfold kPl
  rw [at_tup]
  constructor
  · rintro ⟨a, xs, rfl, h1, h2⟩
    obtain ⟨x, xs, rfl, e1, h2⟩ := ats_cons.mp h2
    obtain ⟨y, xs, rfl, e2, h2⟩ := ats_cons.mp h2
    obtain ⟨z, xs, rfl, e3, h2⟩ := ats_cons.mp h2
    rw [ats_nil.mp h2] at h1
    rw [at_num.mp e1, at_kN.mp e2, at_num.mp e3] at h1
    exact ⟨a, rfl, h1⟩
  · rintro ⟨a, rfl, h⟩
    exact ⟨a, _, rfl, h, .cons' (at_num.mpr rfl) (.cons' (at_kN.mpr rfl) (.cons' (at_num.mpr rfl) .nil'))⟩
theorem at_pr {v : V} {p : OL.Pr} : At K H v (kPr p) ↔ ∃ a x y, v = .ref a ∧ SqT K H a [x, y] ∧ At K H x (kPl p.1) ∧ At K H y (kPl p.2) := by
  unfold kPr
  rw [at_tup]
  constructor
  · rintro ⟨a, xs, rfl, h1, h2⟩
    obtain ⟨x, xs, rfl, e1, h2⟩ := ats_cons.mp h2
    obtain ⟨y, xs, rfl, e2, h2⟩ := ats_cons.mp h2
    rw [ats_nil.mp h2] at h1
    exact ⟨a, x, y, rfl, h1, e1, e2⟩
  · rintro ⟨a, x, y, rfl, h, h1, h2⟩
    exact ⟨a, _, rfl, h, .cons' h1 (.cons' h2 .nil')⟩
theorem at_opt {v : V} {o : Nat × Option Str} : At K H v (kOpt o) ↔ ∃ a, v = .ref a ∧ SqT K H a [.int o.1, vW o.2] := by
  unfold kOpt
  rw [at_tup]
  constructor
  · rintro ⟨a, xs, rfl, h1, h2⟩
    obtain ⟨x, xs, rfl, e1, h2⟩ := ats_cons.mp h2
    obtain ⟨y, xs, rfl, e2, h2⟩ := ats_cons.mp h2
    rw [ats_nil.mp h2] at h1
    rw [at_num.mp e1, at_kW.mp e2] at h1
    exact ⟨a, rfl, h1⟩
  · rintro ⟨a, rfl, h⟩
    exact ⟨a, _, rfl, h, .cons' (at_num.mpr rfl) (.cons' (at_kW.mpr rfl) .nil')⟩
/-- a tuple of things of one kind -/
theorem at_each {α : Type} {f : α → NestedKey} {l : List α} {v : V} (h : At K H v (.tup (l.map f))) : ∃ (a : Addr) (xs : List V), v = .ref a ∧ SqT K H a xs ∧ xs.length = l.length ∧ ∀ (i : Nat) (x : α), l[i]? = some x → ∃ y : V, xs[i]? = some y ∧ At K H y (f x) := by
  obtain ⟨a, xs, rfl, h1, h2⟩ := at_tup.mp h
  refine ⟨a, xs, rfl, h1, by rw [h2.len, List.length_map], fun i x e => h2.get (by rw [List.getElem?_map, e]; rfl)⟩
theorem at_st {v : V} {st : List (Nat × Option Str)} (h : At K H v (kSt st)) : ∃ (a : Addr) (xs : List V), v = .ref a ∧ SqT K H a xs ∧ xs.length = st.length ∧ ∀ (i : Nat) (o : Nat × Option Str), st[i]? = some o → ∃ b : Addr, xs[i]? = some (.ref b) ∧ SqT K H b [.int o.1, vW o.2] := by
  obtain ⟨a, xs, e, h1, h2, h3⟩ := at_each h
  refine ⟨a, xs, e, h1, h2, fun i o q => ?_⟩
  obtain ⟨y, q1, q2⟩ := h3 i o q
  obtain ⟨b, rfl, q3⟩ := at_opt.mp q2
  exact ⟨b, q1, q3⟩
theorem ats_ints : ∀ {r : List Nat} {xs : List V}, Ats K H xs (r.map fun m : Nat => NestedKey.num m) → xs = r.map fun m : Nat => V.int m
  | [], xs, h => ats_nil.mp h
  | m :: r, xs, h => by
    obtain ⟨x, ys, rfl, h1, h2⟩ := ats_cons.mp h
    rw [at_num.mp h1, ats_ints h2]
    rfl
theorem ints_ats : ∀ {r : List Nat}, Ats K H (r.map fun m : Nat => V.int m) (r.map fun m : Nat => NestedKey.num m)
  | [] => .nil'
  | m :: r => .cons' (at_num.mpr rfl) ints_ats
theorem at_row {v : V} {r : List Nat} : At K H v (kRow r) ↔ ∃ a, v = .ref a ∧ SqT K H a (r.map fun m : Nat => V.int m) := by
  unfold kRow
  rw [at_tup]
  constructor
  · rintro ⟨a, xs, rfl, h1, h2⟩
    rw [ats_ints h2] at h1
    exact ⟨a, rfl, h1⟩
  · rintro ⟨a, rfl, h⟩
    exact ⟨a, _, rfl, h, ints_ats⟩
/-- the machine's state s -/
theorem mc_at {v : V} {M : Mc} (h : At K H v (kMc M)) : ∃ (a : Addr) (xs : List V), v = .ref a ∧ SqT K H a xs ∧ xs.length = M.length ∧ ∀ s : Nat, s < M.length → ∃ (b : Addr) (ys : List V), xs[s]? = some (.ref b) ∧ SqT K H b ys ∧ ys.length = (OL.opts M s).length ∧
    ∀ o : Nat, o < (OL.opts M s).length → ∃ c : Addr, ys[o]? = some (.ref c) ∧ SqT K H c [.int (OL.optOf M s o).1, vW (OL.optOf M s o).2] := by
  obtain ⟨a, xs, e, h1, h2, h3⟩ := at_each h
  refine ⟨a, xs, e, h1, h2, fun s hs => ?_⟩
  have e1 : OL.opts M s = M[s] := by unfold OL.opts; rw [List.getElem?_eq_getElem hs]; rfl
  obtain ⟨y, q1, q2⟩ := h3 s M[s] (List.getElem?_eq_getElem hs)
  obtain ⟨b, ys, rfl, q3, q4, q5⟩ := at_st q2
  refine ⟨b, ys, q1, q3, by rw [e1]; exact q4, fun o ho => ?_⟩
  have e2 : OL.optOf M s o = (OL.opts M s)[o] := by unfold OL.optOf; rw [List.getElem?_eq_getElem ho]; rfl
  rw [e2]
  exact q5 o _ (by rw [← e1]; exact List.getElem?_eq_getElem ho)
/-- the table's rows of s -/
theorem tb_at {v : V} {T : OL.Tb} (h : At K H v (kTb T)) : ∃ (a : Addr) (xs : List V), v = .ref a ∧ SqT K H a xs ∧ xs.length = T.length ∧ ∀ s : Nat, s < T.length → ∃ (b : Addr) (ys : List V), xs[s]? = some (.ref b) ∧ SqT K H b ys ∧ ys.length = (OL.rowsOf T s).length ∧
    ∀ o : Nat, o < (OL.rowsOf T s).length → ∃ c : Addr, ys[o]? = some (.ref c) ∧ SqT K H c ((OL.rowOf T s o).map fun m : Nat => V.int m) := by
  obtain ⟨a, xs, e, h1, h2, h3⟩ := at_each h
  refine ⟨a, xs, e, h1, h2, fun s hs => ?_⟩
  have e1 : OL.rowsOf T s = T[s] := by unfold OL.rowsOf; rw [List.getElem?_eq_getElem hs]; rfl
  obtain ⟨y, q1, q2⟩ := h3 s T[s] (List.getElem?_eq_getElem hs)
  obtain ⟨b, ys, rfl, q3, q4, q5⟩ := at_each q2
  refine ⟨b, ys, q1, q3, by rw [e1]; exact q4, fun o ho => ?_⟩
  have e2 : OL.rowOf T s o = (OL.rowsOf T s)[o] := by unfold OL.rowOf; rw [List.getElem?_eq_getElem ho]; rfl
  obtain ⟨z, z1, z2⟩ := q5 o ((OL.rowsOf T s)[o]) (by rw [← e1]; exact List.getElem?_eq_getElem ho)
  obtain ⟨c, rfl, z3⟩ := at_row.mp z2
  rw [e2]
  exact ⟨c, z1, z3⟩
/-! ### types -/
theorem tyT {a : Addr} {xs : List V} (h : SqT K H a xs) : TyX K H (.ref a) (.type "tuple") := by
  rcases h with (h | ⟨o, h⟩) | ⟨o, its, n, h, hc, _⟩
  · exact .base (.tup h)
  · exact .fTuple h
  · exact .kTuple h hc
end
end OLC
end
section
set_option Elab.async false
set_option linter.all false
set_option maxRecDepth 100000
set_option maxHeartbeats 2000000
/-! walks by a number of turns: all(..), for, comprehensions; tables of code objects -/
namespace OLC
open PySem PySem.Spec PyProof.Rows L2
theorem all_walk {J : It} {g : TG} {te : TE} {vs : List Nat} {σ : L2.St} {H : Hp} {Q : VK} (n : Nat) (Pv : Nat → Hp → Prop) (h0 : Pv 0 H) (hgo : ∀ i H, i < n → Pv i H → J.go i H) (hst : ∀ H, Pv n H → J.stop n H)
    (hs : ∀ i x H H', i < n → Pv i H → J.yld i H x H' → g x (wipe σ vs) H' fun σ2 H3 => wipe σ2 vs = wipe σ vs ∧ te σ2 H3 fun y H4 => ∃ b, y = .bl b ∧ if b = true then Pv (i + 1) H4 else Q (.bl false) H4) (hd : ∀ H, Pv n H → Q (.bl true) H) :
    RG.AllW J g te vs σ H Q := by
  refine ⟨fun i m H => m = n - i ∧ i ≤ n ∧ Pv i H, ⟨n, rfl, Nat.zero_le _, h0⟩, ?_⟩
  rintro i m H ⟨rfl, hi, p⟩
  by_cases hlt : i < n
  · exact .inr ⟨hgo i H hlt p, Pv (i + 1), fun H' p' => ⟨n - (i + 1), by omega, rfl, hlt, p'⟩, fun x H' y => hs i x H H' hlt p y⟩
  · have e : i = n := by omega
    subst e
    exact .inl ⟨hst H p, hd H p⟩
theorem for_walk {J : It} {g : TG} {tb : TS} {D : Ends} {σ : L2.St} {H : Hp} (n : Nat) (Pv : Nat → L2.St → Hp → Prop) (h0 : Pv 0 σ H) (hgo : ∀ i σ H, i < n → Pv i σ H → J.go i H) (hst : ∀ σ H, Pv n σ H → J.stop n H)
    (hs : ∀ i x σ H H', i < n → Pv i σ H → J.yld i H x H' → g x σ H' fun σ2 H2 => tb { D with nx := Pv (i + 1), ct := Pv (i + 1), bk := D.nx } σ2 H2) (hd : ∀ σ H, Pv n σ H → D.nx σ H) :
    ∃ W : Nat → Nat → L2.St → Hp → Prop, (∃ m, W 0 m σ H) ∧ ∀ i m σ H, W i m σ H →
      (J.stop i H ∧ D.nx σ H) ∨ (J.go i H ∧ ∃ N : L2.St → Hp → Prop, (∀ σ' H', N σ' H' → ∃ m', m' < m ∧ W (i + 1) m' σ' H') ∧ ∀ x H', J.yld i H x H' → g x σ H' fun σ2 H2 => tb { D with nx := N, ct := N, bk := D.nx } σ2 H2) := by
  refine ⟨fun i m σ H => m = n - i ∧ i ≤ n ∧ Pv i σ H, ⟨n, rfl, Nat.zero_le _, h0⟩, ?_⟩
  rintro i m σ H ⟨rfl, hi, p⟩
  by_cases hlt : i < n
  · exact .inr ⟨hgo i σ H hlt p, Pv (i + 1), fun σ' H' p' => ⟨n - (i + 1), by omega, rfl, hlt, p'⟩, fun x H' y => hs i x σ H H' hlt p y⟩
  · have e : i = n := by omega
    subst e
    exact .inl ⟨hst σ H p, hd σ H p⟩
theorem iteD {c A B : Prop} [Decidable c] (hc : c) (h : A) : if decide c = true then A else B := by
  rw [decide_eq_true hc]
  exact iteT h
theorem iteDN {c A B : Prop} [Decidable c] (hc : ¬ c) (h : B) : if decide c = true then A else B := by
  rw [decide_eq_false hc]
  exact iteF h
theorem iteN {c A B : Prop} [Decidable c] (hc : ¬ c) (h : A) : if (!decide c) = true then A else B := by
  rw [decide_eq_false hc]
  exact iteT h
/-- the item of a tuple's walk -/
theorem itt_go {K : Fr} {a : Addr} {xs : List V} {i : Nat} {H : Hp} (h : SqT K H a xs) (hi : i < xs.length) : (Itt K a).go i H := ⟨xs, xs[i], h, List.getElem?_eq_getElem hi⟩
theorem itt_stop {K : Fr} {a : Addr} {xs : List V} {H : Hp} (h : SqT K H a xs) : (Itt K a).stop xs.length H := ⟨xs, h, Nat.le_refl _⟩
theorem itl_go {K : Fr} {a : Addr} {xs : List V} {i : Nat} {H : Hp} (h : SqL K H a xs) (hi : i < xs.length) : (Itl K a).go i H := ⟨xs, xs[i], h, List.getElem?_eq_getElem hi⟩
theorem itl_stop {K : Fr} {a : Addr} {xs : List V} {H : Hp} (h : SqL K H a xs) : (Itl K a).stop xs.length H := ⟨xs, h, Nat.le_refl _⟩
theorem for_rng {lo j : Int} {g : TG} {tb : TS} {D : Ends} {σ : L2.St} {H : Hp} (n : Nat) (hn : j = n) (Pv : Nat → L2.St → Hp → Prop) (h0 : Pv 0 σ H)
    (hs : ∀ i σ H, i < n → Pv i σ H → g (.int (lo + i)) σ H fun σ2 H2 => tb { D with nx := Pv (i + 1), ct := Pv (i + 1), bk := D.nx } σ2 H2) (hd : ∀ σ H, Pv n σ H → D.nx σ H) :
    ∃ W : Nat → Nat → L2.St → Hp → Prop, (∃ m, W 0 m σ H) ∧ ∀ i m σ H, W i m σ H →
      ((Itr lo j.toNat).stop i H ∧ D.nx σ H) ∨ ((Itr lo j.toNat).go i H ∧ ∃ N : L2.St → Hp → Prop, (∀ σ' H', N σ' H' → ∃ m', m' < m ∧ W (i + 1) m' σ' H') ∧ ∀ x H', (Itr lo j.toNat).yld i H x H' → g x σ H' fun σ2 H2 => tb { D with nx := N, ct := N, bk := D.nx } σ2 H2) := by
  subst hn
  exact for_range (n := n) Pv h0 hs hd
/-- a comprehension -/
theorem lc_walk {J : It} {g : TG} {tt : TT} {te : TE} {vs : List Nat} {σ : L2.St} {H1 : Hp} {D : Addr} {Qd : Hp → Prop} (n : Nat) (Pv : Nat → Hp → Prop) (h0 : Pv 0 (upd H1 D (.lst []))) (hgo : ∀ i H, i < n → Pv i H → J.go i H) (hst : ∀ H, Pv n H → J.stop n H)
    (hs : ∀ i x H H', i < n → Pv i H → J.yld i H x H' → g x (wipe σ vs) H' fun σ2 H2 => wipe σ2 vs = wipe σ vs ∧ tt σ2 H2 fun b H3 => if b = true then te σ2 H3 fun y H4 => ∃ acc, H4 D = some (.lst acc) ∧ acc.length < sizeLine ∧ Pv (i + 1) (upd H4 D (.lst (acc ++ [y]))) else Pv (i + 1) H3)
    (hd : ∀ H, Pv n H → Qd H) :
    ∃ W : Nat → Nat → Hp → Prop, (∃ m, W 0 m (upd H1 D (.lst []))) ∧ ∀ i m H, W i m H →
      (J.stop i H ∧ Qd H) ∨ (J.go i H ∧ ∃ Nx : Hp → Prop, (∀ H', Nx H' → ∃ m', m' < m ∧ W (i + 1) m' H') ∧ ∀ x H', J.yld i H x H' → g x (wipe σ vs) H' fun σ2 H2 => wipe σ2 vs = wipe σ vs ∧ tt σ2 H2 fun b H3 =>
        if b = true then te σ2 H3 fun y H4 => ∃ acc, H4 D = some (.lst acc) ∧ acc.length < sizeLine ∧ Nx (upd H4 D (.lst (acc ++ [y]))) else Nx H3) := by
  refine ⟨fun i m H => m = n - i ∧ i ≤ n ∧ Pv i H, ⟨n, rfl, Nat.zero_le _, h0⟩, ?_⟩
  rintro i m H ⟨rfl, hi, p⟩
  by_cases hlt : i < n
  · exact .inr ⟨hgo i H hlt p, Pv (i + 1), fun H' p' => ⟨n - (i + 1), by omega, rfl, hlt, p'⟩, fun x H' y => hs i x H H' hlt p y⟩
  · have e : i = n := by omega
    subst e
    exact .inl ⟨hst H p, hd H p⟩
theorem keep_lst {K : Fr} {H : Hp} {D : Addr} {acc acc' : List V} (h : H D = some (.lst acc)) : Keep K H (upd H D (.lst acc')) := (but_upd (r := D)).tup h
theorem same_lst {H H' : Hp} {D : Addr} {o : HO} (s : Same H H') (h : H D = none) : Same H (upd H' D o) := fun b u e => by
  rw [upd_ne (ne_of_none e h)]
  exact s b u e
theorem lenLine {n : Nat} (h : n ≤ 1000) : n ≤ sizeLine := Nat.le_of_lt (small1000 h)
/-- any such walk -/
theorem walkG {J : It} {H0 : Hp} {Qd : Hp → Prop} {B : (Hp → Prop) → V → Hp → Prop} (n : Nat) (Pv : Nat → Hp → Prop) (h0 : Pv 0 H0) (hgo : ∀ i H, i < n → Pv i H → J.go i H) (hst : ∀ H, Pv n H → J.stop n H) (hs : ∀ i x H H', i < n → Pv i H → J.yld i H x H' → B (Pv (i + 1)) x H') (hd : ∀ H, Pv n H → Qd H) :
    ∃ W : Nat → Nat → Hp → Prop, (∃ m, W 0 m H0) ∧ ∀ i m H, W i m H → (J.stop i H ∧ Qd H) ∨ (J.go i H ∧ ∃ Nx : Hp → Prop, (∀ H', Nx H' → ∃ m', m' < m ∧ W (i + 1) m' H') ∧ ∀ x H', J.yld i H x H' → B Nx x H') := by
  refine ⟨fun i m H => m = n - i ∧ i ≤ n ∧ Pv i H, ⟨n, rfl, Nat.zero_le _, h0⟩, ?_⟩
  rintro i m H ⟨rfl, hi, p⟩
  by_cases hlt : i < n
  · exact .inr ⟨hgo i H hlt p, Pv (i + 1), fun H' p' => ⟨n - (i + 1), by omega, rfl, hlt, p'⟩, fun x H' y => hs i x H H' hlt p y⟩
  · have e : i = n := by omega
    subst e
    exact .inl ⟨hst H p, hd H p⟩
/-! ### rules whose reading does not name the frame -/
section
variable {X : Cx} {K : Fr}
theorem call_lenK (h : X.K = K := by rfl) : CallR X (.builtin "len") (fun xs H Q => ∃ x n, xs = [x] ∧ LenV K x H n ∧ Q (.int n) H) := by
  subst h
  exact call_len
theorem ix_tupK (h : X.K = K := by rfl) : IxR X (rIxT K) := by
  subst h
  exact ix_tup
theorem pi_tupK {tg l : Expr} {tl : TE} (hl : PE X l tl) (h : X.K = K := by rfl) : PI X tg l (iTup K tl) := by
  subst h
  exact pi_tup hl
theorem pg_tupK {es : List Expr} {k : Nat} {t : TGs} {n : Nat} {pos : Pos} (hc : X.calm = true) (h : PGs X es t) (hK : X.K = K := by rfl)
    (hn : (assignEach es X.env).length = n := by rfl) (hst : (assignEach es X.env).findIdx? (·.1) = none := by rfl) : PG X (.Tuple es k pos) (gTup K n t) := by
  subst hK
  exact pg_tup hc h hn hst
theorem op_catAK (h : X.K = K := by rfl) : OpR X (binaryOp .Add) (rCatA K) := by
  subst h
  exact op_catA
theorem op_ltTK (hu : X.A.units < cLine) (h : X.K = K := by rfl) : OpR X (compareOp .Lt) (rLtT K) := by
  subst h
  exact op_ltT hu
theorem op_inNK {P : Program} {w : World} (hu : X.A.units + 64 < cLine) (h : X.K = K := by rfl) (h2 : X.prog = P := by rfl) (h3 : X.w = w := by rfl) : OpR X (compareOp .In) (ND.rInN K P w false) := by
  subst h h2 h3
  exact ND.op_inN hu
end
/-! ### tables -/
def Tabs (Ps : List Addr) (H : Hp) : Prop := ∀ P ∈ Ps, GxR.TabG H P
section
variable {Ps : List Addr} {P : Addr} {H H' H'' : Hp}
theorem Tabs.same (t : Tabs Ps H) (e : Same H H') : Tabs Ps H' := fun P hP => by
  obtain ⟨ps, h1, h2⟩ := t P hP
  exact ⟨ps, e _ _ h1, h2⟩
theorem Tabs.upd {p : Addr} {o : HO} (t : Tabs Ps H) (h : H p = none) : Tabs Ps (upd H p o) := t.same (same_new h)
theorem Tabs.tabbed (t : Tabs Ps H) (h : GxR.Tabbed P H H') : Tabs Ps H' := fun P' hP => by
  by_cases e : P' = P
  · rw [e]; exact h.1
  · obtain ⟨ps, h1, h2⟩ := t P' hP
    exact ⟨ps, by rw [h.2 _ e]; exact h1, h2⟩
theorem Tabs.but {r : Addr} {o : HO} (t : Tabs Ps H) (hr : H r = some o) (ho : ∀ ps, o ≠ .tbl ps) (e : But r H H') : Tabs Ps H' := fun P hP => by
  obtain ⟨ps, h1, h2⟩ := t P hP
  exact ⟨ps, e _ _ (fun z => by rw [z, hr] at h1; cases h1; exact ho _ rfl) h1, h2⟩
end
end OLC
end
section
set_option Elab.async false
set_option linter.all false
set_option maxRecDepth 100000
set_option maxHeartbeats 2000000
/-! the checks: is_number .. need_house -/
namespace OLC
open PySem PySem.Spec PyProof.Rows L2 OLT
/-- what the walks ask of the top -/
structure Tx (K : Fr) (mg : Str → Option Value) (C S : Addr) : Prop where
  isi : mg "isinstance" = none
  len : mg "len" = none
  all : mg "all" = none
  enum : mg "enumerate" = none
  rng : mg "range" = none
  tup : mg "tuple" = none
  lst : mg "list" = none
  srt : mg "sorted" = none
  zip : mg "zip" = none
  int : mg "int" = none
  str : mg "str" = none
  bool : mg "bool" = none
  states : ∃ t, mg "MOST_STATES" = some (.int 40 t)
  options : ∃ t, mg "MOST_OPTIONS" = some (.int 6 t)
  letters : ∃ t, mg "MOST_LETTERS" = some (.int 8 t)
  abc : ∃ t, mg "LETTERS" = some (.str "abcdefghijklmnopqrstuvwxyz" t)
  marks : ∃ t, mg "MOST_MARKS" = some (.int 4 t)
  pairs : ∃ t, mg "MOST_PAIRS" = some (.int 4000 t)
  cl : Cls K C
  nM : NoAttr K C "machine"
  nT : NoAttr K C "table"
  nN : NoAttr K C "near"
  walk : mg "Walk" = some (.ref C)
  start : mg "START" = some (.ref S)
  startAt : ∀ H, At K H (.ref S) (kPr OL.START)
section
variable {P : Program} {w : World} {K : Fr} {mg : Str → Option Value} {base : Heap} {C S f : Addr} {fd : FuncData}
def spNumber : Sp := fun vs H Q _ => ∃ n lo hi : Int, vs = [.int n, .int lo, .int hi] ∧ Q (.bl (decide (lo ≤ n ∧ n ≤ hi))) H
theorem ok_number (T : Tx K mg C S) (F : FnP K "is_number" "is_number" sNumber f fd) : FnOk P w K mg base CX0 1 f fd pNumber spNumber := by
  refine okN F scNumber (fun vs H Q E h => ?_) (fun cdv A outer s H vs Q E hr h => ?_)
  · obtain ⟨n, lo, hi, rfl, _⟩ := h
    rfl
  · obtain ⟨n, lo, hi, rfl, q⟩ := h
    refine ⟨_, pss_one (ps_ret (pe_and (pe_is "int" (pv 0) T.isi T.int) (pe_and (pe_not (pe_is "bool" (pv 0) T.isi T.bool)) (pe_one (pe_chain op_le op_le (pv 1) (pv 0) (pv 2)))))), ?_⟩
    refine ⟨_, rfl, _, _, true, rfl, .base (.int _), (by decide +kernel), _, rfl, ?_⟩
    refine iteT ?_
    refine ⟨_, rfl, _, _, false, rfl, .base (.int _), (by decide +kernel), _, rfl, _, rfl, ?_⟩
    refine iteT ?_
    refine ⟨_, rfl, _, rfl, _, _, rfl, rfl, _, rfl, ?_⟩
    by_cases h : lo ≤ n
    · rw [if_pos (decide_eq_true h)]
      refine ⟨_, rfl, _, _, rfl, rfl, ?_⟩
      have e : decide (n ≤ hi) = decide (lo ≤ n ∧ n ≤ hi) := by simp [h]
      show Q (.bl (decide (n ≤ hi))) H
      rw [e]
      exact q
    · rw [if_neg (by simp [h])]
      have e : false = decide (lo ≤ n ∧ n ≤ hi) := by simp [h]
      show Q (.bl false) H
      rw [e]
      exact q
/-- a plain word -/
def Plain (x : Str) : Prop := 1 ≤ x.length ∧ x.length ≤ 8 ∧ ∀ c ∈ x.cps.toList, c ∈ ("abcdefghijklmnopqrstuvwxyz" : Str).cps.toList
def spWord (Ps : List Addr) : Sp := fun vs H Q _ => ∃ x : Str, vs = [.str x] ∧ Plain x ∧ Tabs Ps H ∧ ∀ H', Kept H H' → Tabs Ps H' → Q (.bl true) H'
theorem ok_word {c P0 : Addr} {Ps : List Addr} (T : Tx K mg C S) (F : FnP K "is_word" "is_word" sWord f fd) (hc : fd.code = .ref c) (TB : GxR.TabB base mg c P0) (hP : P0 ∈ Ps) : FnOk P w K mg base CX0 2 f fd pWord (spWord Ps) := by
  refine okC F hc scWord (fun vs H Q E h => ?_) (fun A outer s H vs Q E hr h => ?_)
  · obtain ⟨x, rfl, _⟩ := h
    rfl
  · obtain ⟨x, rfl, ⟨h1, h2, h3⟩, tb, q⟩ := h
    obtain ⟨tl, hl⟩ := T.letters
    obtain ⟨ta, ha⟩ := T.abc
    refine ⟨_, pss_one (ps_ret (pe_and (pe_is "str" (pv 0) T.isi T.str) (pe_and (pe_chain op_le op_le pe_int (pe_callB call_len (by rfl) T.len boot_len (pa_cons (pv 0) pa_nil)) (pe_glob (v := .int 8) rfl hl ⟨_, rfl⟩))
      (pe_one (RG.pe_allG (own := [("sign", 1)]) (g := gName 1) hr (by rfl) T.all TB rfl rfl scWord.nd (blkOk_by (N := nWord) (sc := defScope sWord) (by decide +kernel)) (by decide +kernel) (by decide +kernel) rfl (pi_str (pv 0))
        (fun _ _ _ _ _ _ _ => pg_name (i := 1) scWord.nd rfl (Or.inl rfl)) (fun _ _ _ _ _ _ _ _ => pe_cmpR op_in_sign (pv 1) (pe_glob (v := .str "abcdefghijklmnopqrstuvwxyz") rfl ha ⟨_, rfl⟩) (by rfl)) (fun _ => rfl)))))), ?_⟩
    refine ⟨_, rfl, _, _, true, rfl, .base (.str _), (by decide +kernel), _, rfl, iteT ?_⟩
    refine ⟨_, rfl, _, _, rfl, ⟨small1000 (by omega) |> Nat.le_of_lt, rfl⟩, _, _, rfl, rfl, _, rfl, iteD (by omega) ?_⟩
    refine ⟨_, _, rfl, rfl, _, rfl, iteD (by omega) ?_⟩
    refine ⟨_, rfl, x, rfl, tb _ hP, fun H2 t2 => ?_⟩
    refine all_walk x.length (fun i H => H = H2) rfl (fun i H hi _ => hi) (fun H _ => Nat.le_refl _) (fun i y H H' hi e y => ?_) fun H e => ?_
    · obtain ⟨rfl, d, hd, rfl⟩ := y
      subst e
      refine ⟨rfl, _, rfl, d, _, rfl, rfl, _, rfl, ?_⟩
      rw [if_pos]
      exact decide_eq_true (h3 d (List.mem_of_getElem? (by simpa using hd)))
    · subst e
      exact q _ (tabbed_kept (tb _ hP) t2) (tb.tabbed t2)
def WordOk (w : Option Str) : Prop := ∀ x, w = some x → Plain x
def spOption (Ps : List Addr) (K : Fr) : Sp := fun vs H Q _ => ∃ (a : Addr) (o : Nat × Option Str) (m : Nat), vs = [.ref a, .int m] ∧ SqT K H a [.int o.1, vW o.2] ∧ o.1 < m ∧ WordOk o.2 ∧ Tabs Ps H ∧ ∀ H', Kept H H' → Tabs Ps H' → Q (.bl true) H'
theorem ok_option {Ps : List Addr} {fN fW : Addr} {dN dW : FuncData} (T : Tx K mg C S) (F : FnP K "is_option" "is_option" sOption f fd) (GN : Cal P w K mg base "is_number" 1 pNumber spNumber fN dN [] []) (GW : Cal P w K mg base "is_word" 2 pWord (spWord Ps) fW dW [] []) :
    FnOk P w K mg base CX0 3 f fd pOption (spOption Ps K) := by
  refine okN F scOption (fun vs H Q E h => ?_) (fun cdv A outer s H vs Q E hr h => ?_)
  · obtain ⟨a, o, m, rfl, _⟩ := h
    rfl
  · obtain ⟨a, o, m, rfl, ht, h1, h2, tb, q⟩ := h
    refine ⟨_, pss_cons (ps_if (PW.pt (pw_or (pt_not (pt_val (pe_is "tuple" (pv 0) T.isi T.tup))) (pw_or (pt_cmpR op_ne (pe_callB call_len (by rfl) T.len boot_len (pa_cons (pv 0) pa_nil)) pe_int (nomark _))
        (pw_or1 (pt_not (pt_val (pe_cal GN (hr.mono (by decide)) (pa_cons (pe_ix ix_tup (pv 0) pe_int (fun _ _ => rfl)) (pa_cons pe_int (pa_cons (pe_op op_sub (pv 1) pe_int) pa_nil)))))))))) (pss_one (ps_ret pe_bl)) pss_nil)
      (pss_one (ps_ret (pe_or (pe_cmp (pc_isN (pe_ix ix_tup (pv 0) pe_int (fun _ _ => rfl))) rfl) (pe_one (pe_cal GW hr (pa_cons (pe_ix ix_tup (pv 0) pe_int (fun _ _ => rfl)) pa_nil)))))), ?_⟩
    refine ⟨_, rfl, _, _, true, rfl, tyT ht, (by decide +kernel), _, rfl, iteF ?_⟩
    refine ⟨_, rfl, _, 2, rfl, .inr ⟨_, ht, rfl⟩, ?_⟩
    refine ⟨rfl, _, rfl, iteF ?_⟩
    refine ⟨_, rfl, a, _, _, _, rfl, rfl, ht, rfl, ?_⟩
    refine ⟨_, rfl, _, _, rfl, rfl, ?_⟩
    refine ⟨_, _, _, rfl, _, rfl, iteNS ⟨by omega, by omega⟩ ?_⟩
    have hi1 : ∀ n : V, atI [V.int o.1, n] 1 = some n := fun n => atI_nat (j := 1) rfl
    refine ⟨_, rfl, a, _, _, _, rfl, rfl, ht, hi1 _, ?_⟩
    refine ⟨_, rfl, ?_⟩
    obtain ⟨on, ow⟩ := o
    cases ow with
    | none =>
      refine iteD rfl ?_
      exact q H Kept.refl tb
    | some x =>
      refine iteDN (by intro z; cases z) ?_
      refine ⟨_, rfl, a, _, _, _, rfl, rfl, ht, hi1 _, ?_⟩
      exact ⟨x, rfl, h2 x rfl, tb, q⟩
/-- a machine as the law lays it -/
structure McOk (M : Mc) : Prop where
  ok : OL.MOk M
  words : ∀ st ∈ M, ∀ o ∈ st, WordOk o.2
def spNMach (Ps : List Addr) (K : Fr) : Sp := fun vs H Q _ => ∃ (v : V) (M : Mc), vs = [v] ∧ At K H v (kMc M) ∧ McOk M ∧ Tabs Ps H ∧ ∀ H', Kept H H' → Tabs Ps H' → Q .non H'
theorem ok_nmach {c P0 : Addr} {Ps : List Addr} {fO : Addr} {dO : FuncData} (T : Tx K mg C S) (F : FnP K "need_machine" "need_machine" sNMach f fd) (hc : fd.code = .ref c) (TB : GxR.TabB base mg c P0) (hP : P0 ∈ Ps)
    (GO : Cal P w K mg base "is_option" 3 pOption (spOption Ps K) fO dO [] []) : FnOk P w K mg base CX0 5 f fd pNMach (spNMach Ps K) := by
  refine okC F hc scNMach (fun vs H Q E h => ?_) (fun A outer s H vs Q E hr h => ?_)
  · obtain ⟨v, M, rfl, _⟩ := h
    rfl
  · obtain ⟨v, M, rfl, hM, ok, tb, q⟩ := h
    obtain ⟨ts, hts⟩ := T.states
    obtain ⟨to, hto⟩ := T.options
    refine ⟨_, pss_cons (ps_if (PW.pt (pw_or (pt_not (pt_val (pe_is "tuple" (pv 0) T.isi T.tup))) (pw_or1 (pt_not (pt_chain op_le op_le pe_int (pe_callB call_len (by rfl) T.len boot_len (pa_cons (pv 0) pa_nil)) (pe_glob (v := .int 40) rfl hts ⟨_, rfl⟩)))))) (pss_one (ps_never)) pss_nil)
      (pss_one (ps_for PassesOwn.never rfl (EZ.pi_enumT T.enum (pa_cons (pv 0) pa_nil)) (pg_tup rfl (pgs_cons (pg_name (i := 1) scNMach.nd rfl (.inl rfl)) (pgs_cons (pg_name (i := 2) scNMach.nd rfl (.inl rfl)) pgs_nil)))
        (pss_cons (ps_if (PW.pt (pw_or (pt_not (pt_val (pe_is "tuple" (pv 2) T.isi T.tup))) (pw_or1 (pt_cmpR op_gt (pe_callB call_len (by rfl) T.len boot_len (pa_cons (pv 2) pa_nil)) (pe_glob (v := .int 6) rfl hto ⟨_, rfl⟩) (nomark _))))) (pss_one (ps_never)) pss_nil)
          (pss_one (ps_if (pt_not (pt_val (RG.pe_allG (own := [("option", 3)]) (g := gName 3) hr (by rfl) T.all TB rfl rfl scNMach.nd (blkOk_by (N := nNMach) (sc := defScope sNMach) (by decide +kernel)) (by decide +kernel) (by decide +kernel) rfl (pi_tup (pv 2))
            (fun _ _ _ _ _ _ _ => pg_name (i := 3) scNMach.nd rfl (Or.inl rfl)) (fun _ _ _ _ _ _ _ hr' => pe_cal GO hr' (pa_cons (pv 3) (pa_cons (pe_callB (call_lenK (K := K)) (by rfl) T.len boot_len (pa_cons (pv 0) pa_nil)) pa_nil))) (fun _ => rfl)))) (pss_one (ps_never)) pss_nil))))), ?_⟩
    obtain ⟨a, xs, rfl, hs, hl, hx⟩ := mc_at hM
    have hpos := ok.ok.pos
    have hmost := ok.ok.most
    refine ⟨_, rfl, _, _, true, rfl, tyT hs, (by decide +kernel), _, rfl, iteF ?_⟩
    refine ⟨_, rfl, _, _, rfl, .inr ⟨_, hs, rfl⟩, _, _, rfl, rfl, _, rfl, iteD (by rw [hl]; omega) ?_⟩
    refine ⟨_, _, rfl, rfl, _, rfl, iteNS (by rw [hl]; omega) ?_⟩
    refine ⟨_, rfl, a, xs, rfl, hs, EZ.for_enumT (K := K) (fun i σ H' => ∃ x y, σ = [some (.ref a), x, y, none] ∧ Kept H H' ∧ Tabs Ps H') ⟨_, _, rfl, Kept.refl, tb⟩ (fun i σ H' ⟨x, y, _, h1, _⟩ => keep_kept h1 _ _ hs) ?_ ?_⟩
    · rintro i x p σ H1 hi ⟨u1, u2, rfl, hk, htb⟩ hp
      have his : i < M.length := by rw [← hl]; exact (List.getElem?_eq_some_iff.mp hi).1
      obtain ⟨b, ys, e1, hb, hlen, hopt⟩ := hx i his
      rw [hi] at e1
      cases e1
      have s1 : Same H1 (upd H1 p (.tup [.int (i : Nat), .ref b])) := same_new hp
      have hb1 := keep_same s1 _ _ (keep_kept hk _ _ hb)
      have hfew : (OL.opts M i).length ≤ 4 := by
        unfold OL.opts
        rw [List.getElem?_eq_getElem his]
        exact ok.ok.few _ (List.getElem_mem his)
      refine ⟨p, _, rfl, .inl (.inl upd_same), rfl, _, _, rfl, _, _, rfl, rfl, ?_⟩
      refine ⟨_, rfl, _, _, true, rfl, tyT hb1, (by decide +kernel), _, rfl, iteF ?_⟩
      refine ⟨_, rfl, _, _, rfl, .inr ⟨_, hb1, rfl⟩, _, _, rfl, rfl, _, rfl, iteDN (by rw [hlen]; omega) ?_⟩
      refine ⟨_, rfl, _, rfl, ⟨_, hb1⟩, (htb.same s1) _ hP, fun H2 t2 => ?_⟩
      have tb2 := (htb.same s1).tabbed t2
      have k2 : Kept H H2 := (hk.trans (Same.kept s1)).trans (tabbed_kept ((htb.same s1) _ hP) t2)
      refine all_walk ys.length (fun i H' => Kept H H' ∧ Tabs Ps H') ⟨k2, tb2⟩ (fun j H' hj h' => itt_go (keep_kept h'.1 _ _ hb) hj) (fun H' h' => itt_stop (keep_kept h'.1 _ _ hb)) ?_ ?_
      · rintro j y H3 H4 hj ⟨k3, tb3⟩ ⟨rfl, y'⟩
        have ey := y' _ (keep_kept k3 _ _ hb)
        obtain ⟨c', e2, hc'⟩ := hopt j (by rw [← hlen]; exact hj)
        rw [e2] at ey
        cases ey
        refine ⟨rfl, _, rfl, _, rfl, _, M.length, rfl, .inr ⟨_, keep_kept k3 _ _ hs, hl.symm⟩, ?_⟩
        have hmem := OL.optOf_mem (M := M) (s := i) (o := j) (by rw [← hlen]; exact hj)
        refine ⟨c', _, M.length, rfl, keep_kept k3 _ _ hc', OL.opts_lead ok.ok hmem, ?_, tb3, fun H5 k5 t5 => ?_⟩
        · obtain ⟨st, m1, m2⟩ := OL.opts_mem hmem
          exact ok.words st m1 _ m2
        · exact ⟨true, rfl, iteT ⟨k3.trans k5, t5⟩⟩
      · rintro H3 ⟨k3, tb3⟩
        exact ⟨true, rfl, iteF ⟨_, _, rfl, k3, tb3⟩⟩
    · rintro σ H1 ⟨u1, u2, rfl, hk, htb⟩
      exact q _ hk htb
def spNMarks : Sp := fun vs H Q _ => ∃ k : Nat, vs = [.int k] ∧ 1 ≤ k ∧ k ≤ 4 ∧ Q .non H
theorem ok_nmarks {fN : Addr} {dN : FuncData} (T : Tx K mg C S) (F : FnP K "need_marks" "need_marks" sNMarks f fd) (GN : Cal P w K mg base "is_number" 1 pNumber spNumber fN dN [] []) : FnOk P w K mg base CX0 2 f fd pNMarks spNMarks := by
  refine okN F scNMarks (fun vs H Q E h => ?_) (fun cdv A outer s H vs Q E hr h => ?_)
  · obtain ⟨k, rfl, _⟩ := h
    rfl
  · obtain ⟨k, rfl, h1, h2, q⟩ := h
    obtain ⟨tm, htm⟩ := T.marks
    refine ⟨_, pss_one (ps_if (pt_not (pt_val (pe_cal GN hr (pa_cons (pv 0) (pa_cons pe_int (pa_cons (pe_glob (v := .int 4) rfl htm ⟨_, rfl⟩) pa_nil)))))) (pss_one ps_never) pss_nil), ?_⟩
    refine ⟨_, rfl, _, _, _, rfl, _, rfl, iteNS ⟨by omega, by omega⟩ q⟩
def spRow (Ps : List Addr) (K : Fr) : Sp := fun vs H Q _ => ∃ (a : Addr) (r : List Nat) (k : Nat), vs = [.ref a, .int k, .int 8] ∧ SqT K H a (r.map fun m : Nat => V.int m) ∧ 1 ≤ r.length ∧ r.length ≤ 8 ∧ (∀ m ∈ r, m < k) ∧ Tabs Ps H ∧ ∀ H', Kept H H' → Tabs Ps H' → Q (.bl true) H'
theorem ok_row {c P0 : Addr} {Ps : List Addr} {fN : Addr} {dN : FuncData} (T : Tx K mg C S) (F : FunD K "is_row" "is_row" (defArgs sIsRow) (defBody sIsRow) (defScope sIsRow) [.int 8] [] f fd) (hc : fd.code = .ref c) (TB : GxR.TabB base mg c P0) (hP : P0 ∈ Ps)
    (GN : Cal P w K mg base "is_number" 1 pNumber spNumber fN dN [] []) : FnOk P w K mg base CX0 3 f fd pIsRow (spRow Ps K) := by
  refine okC F hc scIsRow (fun vs H Q E h => ?_) (fun A outer s H vs Q E hr h => ?_)
  · obtain ⟨a, r, k, rfl, _⟩ := h
    rfl
  · obtain ⟨a, r, k, rfl, hs, h1, h2, h3, tb, q⟩ := h
    refine ⟨_, pss_cons (ps_if (PW.pt (pw_or (pt_not (pt_val (pe_is "tuple" (pv 0) T.isi T.tup))) (pw_or1 (pt_not (pt_chain op_le op_le pe_int (pe_callB call_len (by rfl) T.len boot_len (pa_cons (pv 0) pa_nil)) (pv 2)))))) (pss_one (ps_ret pe_bl)) pss_nil)
      (pss_one (ps_ret (RG.pe_allG (own := [("mark", 3)]) (g := gName 3) hr (by rfl) T.all TB rfl rfl scIsRow.nd (blkOk_by (N := nIsRow) (sc := defScope sIsRow) (by decide +kernel)) (by decide +kernel) (by decide +kernel) rfl (pi_tup (pv 0))
            (fun _ _ _ _ _ _ _ => pg_name (i := 3) scIsRow.nd rfl (Or.inl rfl)) (fun _ _ _ _ _ _ _ hr' => pe_cal GN hr' (pa_cons (pv 3) (pa_cons pe_int (pa_cons (pe_op op_sub (pv 1) pe_int) pa_nil)))) (fun _ => rfl)))), ?_⟩
    refine ⟨_, rfl, _, _, true, rfl, tyT hs, (by decide +kernel), _, rfl, iteF ?_⟩
    refine ⟨_, rfl, _, r.length, rfl, .inr ⟨_, hs, by rw [List.length_map]⟩, _, _, rfl, rfl, _, rfl, iteD (by omega) ?_⟩
    refine ⟨_, rfl, _, _, rfl, rfl, _, rfl, iteNS (by omega) ?_⟩
    refine ⟨_, rfl, _, rfl, ⟨_, hs⟩, tb _ hP, fun H2 t2 => ?_⟩
    have k2 := tabbed_kept (tb _ hP) t2
    refine all_walk (r.map fun m : Nat => V.int m).length (fun i H' => H' = H2) rfl (fun j H' hj h' => itt_go (by rw [h']; exact keep_kept k2 _ _ hs) hj) (fun H' h' => itt_stop (by rw [h']; exact keep_kept k2 _ _ hs)) ?_ ?_
    · rintro j y H3 H4 hj rfl ⟨rfl, y'⟩
      have ey := y' _ (keep_kept k2 _ _ hs)
      rw [List.getElem?_map] at ey
      cases e : r[j]? with
      | none => rw [e] at ey; cases ey
      | some m =>
        rw [e] at ey
        cases ey
        have hm := h3 m (List.mem_of_getElem? e)
        refine ⟨rfl, _, rfl, _, rfl, _, _, rfl, rfl, _, _, _, rfl, _, rfl, iteD ⟨by omega, by omega⟩ rfl⟩
    · rintro H3 rfl
      exact q _ k2 (tb.tabbed t2)
/-- a table of the machine -/
def spNTable (Ps : List Addr) (K : Fr) : Sp := fun vs H Q _ => ∃ (v u : V) (M : Mc) (k : Nat) (Tb : OL.Tb), vs = [v, .int k, u] ∧ At K H v (kMc M) ∧ At K H u (kTb Tb) ∧ McOk M ∧ OL.TOk M k Tb ∧ Tabs Ps H ∧ ∀ H', Kept H H' → Tabs Ps H' → Q .non H'
theorem ok_ntable {c P0 : Addr} {Ps : List Addr} {fR : Addr} {dR : FuncData} {du : List Value} (T : Tx K mg C S) (F : FnP K "need_table" "need_table" sNTable f fd) (hc : fd.code = .ref c) (TB : GxR.TabB base mg c P0) (hP : P0 ∈ Ps)
    (GR : Cal P w K mg base "is_row" 3 pIsRow (spRow Ps K) fR dR [.int 8] du) : FnOk P w K mg base CX0 5 f fd pNTable (spNTable Ps K) := by
  refine okC F hc scNTable (fun vs H Q E h => ?_) (fun A outer s H vs Q E hr h => ?_)
  · obtain ⟨v, u, M, k, Tb, rfl, _⟩ := h
    rfl
  · obtain ⟨v, u, M, k, Tb, rfl, hM, hT, ok, okT, tb, q⟩ := h
    refine ⟨_, pss_cons (ps_if (PW.pt (pw_or (pt_not (pt_val (pe_is "tuple" (pv 2) T.isi T.tup))) (pw_or1 (pt_cmpR op_ne (pe_callB call_len (by rfl) T.len boot_len (pa_cons (pv 2) pa_nil)) (pe_callB call_len (by rfl) T.len boot_len (pa_cons (pv 0) pa_nil)) (nomark _))))) (pss_one ps_never) pss_nil)
      (pss_one (ps_for PassesOwn.never rfl (EZ.pi_enumT T.enum (pa_cons (pv 2) pa_nil)) (pg_tup rfl (pgs_cons (pg_name (i := 3) scNTable.nd rfl (.inl rfl)) (pgs_cons (pg_name (i := 4) scNTable.nd rfl (.inl rfl)) pgs_nil)))
        (pss_cons (ps_if (PW.pt (pw_or (pt_not (pt_val (pe_is "tuple" (pv 4) T.isi T.tup))) (pw_or1 (pt_cmpR op_ne (pe_callB call_len (by rfl) T.len boot_len (pa_cons (pv 4) pa_nil)) (pe_callB call_len (by rfl) T.len boot_len (pa_cons (pe_ix ix_tup (pv 0) (pv 3) (fun _ _ => rfl)) pa_nil)) (nomark _))))) (pss_one ps_never) pss_nil)
          (pss_one (ps_if (pt_not (pt_val (RG.pe_allG (own := [("row", 5)]) (g := gName 5) hr (by rfl) T.all TB rfl rfl scNTable.nd (blkOk_by (N := nNTable) (sc := defScope sNTable) (by decide +kernel)) (by decide +kernel) (by decide +kernel) rfl (pi_tup (pv 4))
            (fun _ _ _ _ _ _ _ => pg_name (i := 5) scNTable.nd rfl (Or.inl rfl)) (fun _ _ _ _ _ _ _ hr' => pe_cal GR hr' (pa_cons (pv 5) (pa_cons (pv 1) pa_nil))) (fun _ => rfl)))) (pss_one ps_never) pss_nil))))), ?_⟩
    obtain ⟨a, xs, rfl, hs, hl, hx⟩ := mc_at hM
    obtain ⟨a', xs', rfl, hs', hl', hx'⟩ := tb_at hT
    refine ⟨_, rfl, _, _, true, rfl, tyT hs', (by decide +kernel), _, rfl, iteF ?_⟩
    refine ⟨_, rfl, _, _, rfl, .inr ⟨_, hs', rfl⟩, _, rfl, _, _, rfl, .inr ⟨_, hs, rfl⟩, rfl, _, rfl, iteNS (by rw [hl, hl', okT.len]) ?_⟩
    refine ⟨_, rfl, a', xs', rfl, hs', EZ.for_enumT (K := K) (fun i σ H' => ∃ x y, σ = [some (.ref a), some (.int k), some (.ref a'), x, y, none] ∧ Kept H H' ∧ Tabs Ps H') ⟨_, _, rfl, Kept.refl, tb⟩ (fun i σ H' ⟨x, y, _, h1, _⟩ => keep_kept h1 _ _ hs') ?_ ?_⟩
    · rintro i x p σ H1 hi ⟨u1, u2, rfl, hk, htb⟩ hp
      have his' : i < Tb.length := by rw [← hl']; exact (List.getElem?_eq_some_iff.mp hi).1
      have his : i < M.length := by rw [← okT.len]; exact his'
      obtain ⟨b', ys', e1', hb', hlen', hopt'⟩ := hx' i his'
      obtain ⟨b, ys, e1, hb, hlen, hopt⟩ := hx i his
      rw [hi] at e1'
      cases e1'
      have s1 : Same H1 (upd H1 p (.tup [.int (i : Nat), .ref b'])) := same_new hp
      have hb1 := keep_same s1 _ _ (keep_kept hk _ _ hb)
      have hb1' := keep_same s1 _ _ (keep_kept hk _ _ hb')
      refine ⟨p, _, rfl, .inl (.inl upd_same), rfl, _, _, rfl, _, _, rfl, rfl, ?_⟩
      refine ⟨_, rfl, _, _, true, rfl, tyT hb1', (by decide +kernel), _, rfl, iteF ?_⟩
      refine ⟨_, rfl, _, _, rfl, .inr ⟨_, hb1', rfl⟩, _, rfl, _, rfl, a, _, _, _, rfl, rfl, keep_same s1 _ _ (keep_kept hk _ _ hs), atI_nat e1, _, _, rfl, .inr ⟨_, hb1, rfl⟩, rfl, _, rfl, iteNS (by rw [hlen, hlen', okT.each i his]) ?_⟩
      refine ⟨_, rfl, _, rfl, ⟨_, hb1'⟩, (htb.same s1) _ hP, fun H2 t2 => ?_⟩
      have tb2 := (htb.same s1).tabbed t2
      have k2 : Kept H H2 := (hk.trans (Same.kept s1)).trans (tabbed_kept ((htb.same s1) _ hP) t2)
      refine all_walk ys'.length (fun i H' => Kept H H' ∧ Tabs Ps H') ⟨k2, tb2⟩ (fun j H' hj h' => itt_go (keep_kept h'.1 _ _ hb') hj) (fun H' h' => itt_stop (keep_kept h'.1 _ _ hb')) ?_ ?_
      · rintro j y H3 H4 hj ⟨k3, tb3⟩ ⟨rfl, y'⟩
        have ey := y' _ (keep_kept k3 _ _ hb')
        have hj' : j < (OL.rowsOf Tb i).length := by rw [← hlen']; exact hj
        obtain ⟨c', e2, hc'⟩ := hopt' j hj'
        rw [e2] at ey
        cases ey
        refine ⟨rfl, _, rfl, _, rfl, ?_⟩
        have hmem : OL.rowOf Tb i j ∈ OL.rowsOf Tb i := by
          unfold OL.rowOf
          rw [List.getElem?_eq_getElem hj']
          exact List.getElem_mem hj'
        have hmem2 : OL.rowsOf Tb i ∈ Tb := by
          unfold OL.rowsOf
          rw [List.getElem?_eq_getElem his']
          exact List.getElem_mem his'
        obtain ⟨r1, r2, r3⟩ := okT.row _ hmem2 _ hmem
        refine ⟨c', _, k, rfl, keep_kept k3 _ _ hc', r1, Nat.le_trans r2 (by decide), r3, tb3, fun H5 k5 t5 => ?_⟩
        exact ⟨true, rfl, iteT ⟨k3.trans k5, t5⟩⟩
      · rintro H3 ⟨k3, tb3⟩
        exact ⟨true, rfl, iteF ⟨_, _, rfl, k3, tb3⟩⟩
    · rintro σ H1 ⟨u1, u2, rfl, hk, htb⟩
      exact q _ hk htb
/-- the three checks: all is well -/
def spHouse (Ps : List Addr) (K : Fr) : Sp := fun vs H Q _ => ∃ (v u : V) (M : Mc) (k : Nat) (Tb : OL.Tb), vs = [v, .int k, u] ∧ At K H v (kMc M) ∧ At K H u (kTb Tb) ∧ McOk M ∧ OL.TOk M k Tb ∧ 1 ≤ k ∧ k ≤ 4 ∧ Tabs Ps H ∧ ∀ H', Kept H H' → Tabs Ps H' → Q .non H'
theorem ok_house {Ps : List Addr} {f1 f2 f3 : Addr} {d1 d2 d3 : FuncData} (T : Tx K mg C S) (F : FnP K "need_house" "need_house" sHouse f fd) (G1 : Cal P w K mg base "need_machine" 5 pNMach (spNMach Ps K) f1 d1 [] [])
    (G2 : Cal P w K mg base "need_marks" 2 pNMarks spNMarks f2 d2 [] []) (G3 : Cal P w K mg base "need_table" 5 pNTable (spNTable Ps K) f3 d3 [] []) : FnOk P w K mg base CX0 6 f fd pHouse (spHouse Ps K) := by
  refine okN F scHouse (fun vs H Q E h => ?_) (fun cdv A outer s H vs Q E hr h => ?_)
  · obtain ⟨v, u, M, k, Tb, rfl, _⟩ := h
    rfl
  · obtain ⟨v, u, M, k, Tb, rfl, hM, hT, ok, okT, h1, h2, tb, q⟩ := h
    refine ⟨_, pss_cons (ps_expr (pe_cal G1 hr (pa_cons (pv 0) pa_nil))) (pss_cons (ps_expr (pe_cal G2 (hr.mono (by decide)) (pa_cons (pv 1) pa_nil))) (pss_one (ps_expr (pe_cal G3 hr (pa_cons (pv 0) (pa_cons (pv 1) (pa_cons (pv 2) pa_nil))))))), ?_⟩
    refine ⟨_, rfl, v, M, rfl, hM, ok, tb, fun H1 k1 t1 => ?_⟩
    refine ⟨_, rfl, k, rfl, h1, h2, ?_⟩
    refine ⟨_, rfl, _, rfl, _, rfl, v, u, M, k, Tb, rfl, hM.keep (keep_kept k1), hT.keep (keep_kept k1), ok, okT, t1, fun H2 k2 t2 => q _ (k1.trans k2) t2⟩
end
end OLC
end
section
set_option Elab.async false
set_option linter.all false
set_option maxRecDepth 100000
set_option maxHeartbeats 2000000
/-! the dict «near»: which states can say a word -/
namespace OLC
open PySem PySem.Spec PyProof.Rows L2
def keys {κ : Type} (kvs : List (κ × V)) : List κ := kvs.map (·.1)
theorem val_in {κ : Type} [DecidableEq κ] {k : κ} : ∀ {kvs : List (κ × V)}, (valV kvs k).isSome = true ↔ k ∈ keys kvs
  | [] => by simp [valV, keys]
  | p :: r => by
    by_cases e : p.1 = k
    · rw [valV_pos e]
      simp [keys, e]
    · rw [valV_neg e]
      have ih := val_in (k := k) (kvs := r)
      rw [ih]
      have e' : ¬ k = p.1 := fun z => e z.symm
      simp [keys, e']
theorem val_none {κ : Type} [DecidableEq κ] {k : κ} {kvs : List (κ × V)} : valV kvs k = none ↔ k ∉ keys kvs := by
  rw [← val_in]
  cases valV kvs k <;> simp
theorem keys_put {κ : Type} [DecidableEq κ] (kvs : List (κ × V)) (k : κ) (y : V) : keys (putK kvs k y) = if k ∈ keys kvs then keys kvs else keys kvs ++ [k] := by
  by_cases h : k ∈ keys kvs
  · rw [if_pos h]
    unfold putK
    rw [valV_any, val_in.mpr h, if_pos rfl]
    unfold keys
    rw [List.map_map]
    refine List.map_congr_left fun q _ => ?_
    by_cases e : q.1 = k <;> simp [e]
  · rw [if_neg h, putK_new _ (val_none.mpr h)]
    simp [keys]
abbrev kI (s : Nat) : Key := Sum.inl (s : Int)
theorem kI_inj {a b : Nat} (h : kI a = kI b) : a = b := by
  have : (a : Int) = b := Sum.inl.inj h
  omega
/-- only what is so is told -/
structure NI (M : Mc) (kvs : List (Key × V)) : Prop where
  nd : (keys kvs).Nodup
  each : ∀ k ∈ keys kvs, ∃ s : Nat, s < M.length ∧ k = kI s ∧ OL.CanSay M s ∧ ∃ i : Int, valV kvs k = some (.int i)
theorem NI.nil {M : Mc} : NI M [] := ⟨List.nodup_nil, fun k h => by cases h⟩
theorem NI.few {M : Mc} {kvs : List (Key × V)} (h : NI M kvs) : kvs.length ≤ M.length := by
  have h1 := OL.nodup_len (keys kvs) ((List.range M.length).map kI) h.nd fun k hk => by
    obtain ⟨s, h1, rfl, _⟩ := h.each k hk
    exact List.mem_map.mpr ⟨s, List.mem_range.mpr h1, rfl⟩
  simpa [keys] using h1
theorem nodup_snoc {α : Type} {l : List α} {x : α} (h : l.Nodup) (hx : x ∉ l) : (l ++ [x]).Nodup := by
  induction l with
  | nil => simp
  | cons y l ih =>
    have h1 := List.nodup_cons.mp h
    rw [List.cons_append]
    refine List.nodup_cons.mpr ⟨fun z => ?_, ih h1.2 fun z => hx (List.mem_cons_of_mem _ z)⟩
    rcases List.mem_append.mp z with z | z
    · exact h1.1 z
    · exact hx (by rw [List.mem_singleton.mp z]; exact List.mem_cons_self)
theorem NI.put {M : Mc} {kvs : List (Key × V)} (h : NI M kvs) {s : Nat} (hs : s < M.length) (hc : OL.CanSay M s) (i : Int) : NI M (putK kvs (kI s) (.int i)) := by
  refine ⟨?_, fun k hk => ?_⟩
  · rw [keys_put]
    by_cases e : kI s ∈ keys kvs
    · rw [if_pos e]; exact h.nd
    · rw [if_neg e]; exact nodup_snoc h.nd e
  · rw [valV_put]
    by_cases e : k = kI s
    · exact ⟨s, hs, e, hc, i, by rw [if_pos e]⟩
    · have hk' : k ∈ keys kvs := by
        rw [keys_put] at hk
        split at hk
        · exact hk
        · rcases List.mem_append.mp hk with z | z
          · exact z
          · exact absurd (List.mem_singleton.mp z) e
      obtain ⟨t, h1, h2, h3, j, h4⟩ := h.each k hk'
      exact ⟨t, h1, h2, h3, j, by rw [if_neg e]; exact h4⟩
theorem mem_put {kvs : List (Key × V)} {k j : Key} {v : V} : j ∈ keys (putK kvs k v) ↔ j = k ∨ j ∈ keys kvs := by
  rw [keys_put]
  by_cases h : k ∈ keys kvs
  · rw [if_pos h]
    exact ⟨.inr, fun z => z.elim (fun z => by rw [z]; exact h) id⟩
  · rw [if_neg h, List.mem_append, List.mem_singleton]
    exact ⟨fun z => z.symm, fun z => z.symm⟩
/-- an option of s that gets it near -/
def Way (M : Mc) (kvs : List (Key × V)) (s : Nat) : Prop := ∃ a w, (a, w) ∈ OL.opts M s ∧ (w ≠ none ∨ kI a ∈ keys kvs)
/-- .. everything that is so is told -/
def Told (M : Mc) (kvs : List (Key × V)) : Prop := ∀ s, s < M.length → OL.CanSay M s → kI s ∈ keys kvs
theorem told_or {M : Mc} (ok : OL.MOk M) {kvs kvs' : List (Key × V)} (h : NI M kvs) (h' : NI M kvs') (mono : ∀ k ∈ keys kvs, k ∈ keys kvs') (way : ∀ s, s < M.length → Way M kvs s → kI s ∈ keys kvs') {j : Nat} (e : Told M kvs ∨ j ≤ kvs.length) :
    Told M kvs' ∨ j + 1 ≤ kvs'.length := by
  rcases e with e | e
  · exact .inl fun s hs hc => mono _ (e s hs hc)
  · by_cases q : ∃ s, s < M.length ∧ Way M kvs s ∧ kI s ∉ keys kvs
    · obtain ⟨s, hs, hw, hn⟩ := q
      have h1 := OL.nodup_len (kI s :: keys kvs) (keys kvs') (List.nodup_cons.mpr ⟨hn, h.nd⟩) fun k hk => by
        rcases List.mem_cons.mp hk with z | z
        · rw [z]; exact way s hs hw
        · exact mono k z
      have h2 : kvs.length + 1 ≤ kvs'.length := by simpa [keys] using h1
      exact .inr (by omega)
    · refine .inl fun s hs hc => mono _ ?_
      have key : ∀ {t}, OL.CanSay M t → t < M.length → kI t ∈ keys kvs := fun {t} hc => by
        induction hc with
        | @here t a x hm =>
          intro ht
          by_cases z : kI t ∈ keys kvs
          · exact z
          · exact absurd ⟨t, ht, ⟨a, some x, hm, .inl (by intro z; cases z)⟩, z⟩ q
        | @on t a w hm _ ih =>
          intro ht
          by_cases z : kI t ∈ keys kvs
          · exact z
          · exact absurd ⟨t, ht, ⟨a, w, hm, .inr (ih (OL.opts_lead ok hm))⟩, z⟩ q
      exact key hc hs
theorem told_end {M : Mc} {kvs : List (Key × V)} (h : NI M kvs) (e : Told M kvs ∨ M.length + 1 ≤ kvs.length) : Told M kvs := by
  rcases e with e | e
  · exact e
  · exact absurd h.few (by omega)
/-- what a Walk knows -/
structure Near (M : Mc) (kvs : List (Key × V)) : Prop where
  ni : NI M kvs
  told : Told M kvs
theorem Near.yes {M : Mc} {kvs : List (Key × V)} (h : Near M kvs) {s : Nat} (hs : s < M.length) (hc : OL.CanSay M s) : ∃ i : Int, valV kvs (kI s) = some (.int i) := by
  obtain ⟨_, _, _, _, q⟩ := h.ni.each _ (h.told s hs hc)
  exact q
theorem Near.no {M : Mc} {kvs : List (Key × V)} (h : Near M kvs) {s : Nat} (hc : ¬ OL.CanSay M s) : valV kvs (kI s) = none := val_none.mpr fun z => by
  obtain ⟨t, _, e, q, _⟩ := h.ni.each _ z
  rw [← kI_inj e] at q
  exact hc q
/-- a Walk at p -/
def flds (vm vt : V) (d : Addr) : List (Str × V) := [("machine", vm), ("table", vt), ("near", .ref d)]
structure WalkAt (K : Fr) (C : Addr) (H : Hp) (p : Addr) (M : Mc) (Tb : OL.Tb) (d : Addr) (vm vt : V) (kvs : List (Key × V)) : Prop where
  ob : ∃ dx, H p = some (.ins C dx (flds vm vt d))
  m : At K H vm (kMc M)
  t : At K H vt (kTb Tb)
  d : H d = some (.dK kvs)
theorem WalkAt.kept {K : Fr} {C : Addr} {H H' : Hp} {p : Addr} {M : Mc} {Tb : OL.Tb} {d : Addr} {vm vt : V} {kvs : List (Key × V)} (h : WalkAt K C H p M Tb d vm vt kvs) (e : Kept H H') : WalkAt K C H' p M Tb d vm vt kvs := by
  obtain ⟨⟨dx, h1⟩, h2, h3, h4⟩ := h
  exact ⟨⟨dx, e _ _ h1 (by intro ps z; cases z)⟩, h2.keep (keep_kept e), h3.keep (keep_kept e), e _ _ h4 (by intro ps z; cases z)⟩
theorem WalkAt.put {K : Fr} {C : Addr} {H : Hp} {p : Addr} {M : Mc} {Tb : OL.Tb} {d : Addr} {vm vt : V} {kvs : List (Key × V)} (h : WalkAt K C H p M Tb d vm vt kvs) (kvs' : List (Key × V)) : WalkAt K C (upd H d (.dK kvs')) p M Tb d vm vt kvs' := by
  obtain ⟨⟨dx, h1⟩, h2, h3, h4⟩ := h
  have n : p ≠ d := ne_of h1 h4 (by intro z; cases z)
  have kp : Keep K H (upd H d (.dK kvs')) := (but_upd (r := d)).tupD h4
  exact ⟨⟨dx, by rw [upd_ne n]; exact h1⟩, h2.keep kp, h3.keep kp, upd_same⟩
/-- a Walk that is made -/
def IsWalk (K : Fr) (C : Addr) (H : Hp) (p : Addr) (M : Mc) (Tb : OL.Tb) : Prop := ∃ d vm vt kvs, WalkAt K C H p M Tb d vm vt kvs ∧ Near M kvs
theorem IsWalk.kept {K : Fr} {C : Addr} {H H' : Hp} {p : Addr} {M : Mc} {Tb : OL.Tb} (h : IsWalk K C H p M Tb) (e : Kept H H') : IsWalk K C H' p M Tb := by
  obtain ⟨d, vm, vt, kvs, h1, h2⟩ := h
  exact ⟨d, vm, vt, kvs, h1.kept e, h2⟩
end OLC
end
section
set_option Elab.async false
set_option linter.all false
set_option maxRecDepth 100000
set_option maxHeartbeats 2000000
/-! the class Walk -/
namespace OLC
open PySem PySem.Spec PyProof.Rows L2 OLT
section
variable {P : Program} {w : World} {K : Fr} {mg : Str → Option Value} {base : Heap} {C S f : Addr} {fd : FuncData}
theorem fl_m {vm vt : V} {d : Addr} : (flds vm vt d).lookup ("machine" : Str) = some vm := rfl
theorem fl_t {vm vt : V} {d : Addr} : (flds vm vt d).lookup ("table" : Str) = some vt := rfl
theorem fl_n {vm vt : V} {d : Addr} : (flds vm vt d).lookup ("near" : Str) = some (.ref d) := rfl
def spWNear (K : Fr) (C : Addr) : Sp := fun vs H Q _ => ∃ (p : Addr) (s k : Nat) (M : Mc) (Tb : OL.Tb) (d : Addr) (vm vt : V) (kvs : List (Key × V)), vs = [.ref p, .int s] ∧ WalkAt K C H p M Tb d vm vt kvs ∧ NI M kvs ∧ OL.MOk M ∧ OL.TOk M k Tb ∧ s < M.length ∧
  ∀ H' kvs', But d H H' → WalkAt K C H' p M Tb d vm vt kvs' → NI M kvs' → (∀ k ∈ keys kvs, k ∈ keys kvs') → (Way M kvs s → kI s ∈ keys kvs') → Q .non H'
/-- what a turn keeps -/
structure NT (K : Fr) (C : Addr) (H : Hp) (p : Addr) (M : Mc) (Tb : OL.Tb) (d : Addr) (vm vt : V) (kvs : List (Key × V)) (s i : Nat) (H' : Hp) (kvs' : List (Key × V)) : Prop where
  but : But d H H'
  walk : WalkAt K C H' p M Tb d vm vt kvs'
  ni : NI M kvs'
  mono : ∀ k ∈ keys kvs, k ∈ keys kvs'
  way : ∀ o, o < i → ((OL.optOf M s o).2 ≠ none ∨ kI (OL.optOf M s o).1 ∈ keys kvs) → kI s ∈ keys kvs'
theorem ok_wnear (T : Tx K mg C S) (F : FnP K "bring_near" "Walk.bring_near" sWNear f fd) : FnOk P w K mg base CX0 1 f fd pWNear (spWNear K C) := by
  refine okN F scWNear (fun vs H Q E h => ?_) (fun cdv A outer s H vs Q E hr h => ?_)
  · obtain ⟨p, s, k, M, Tb, d, vm, vt, kvs, rfl, _⟩ := h
    rfl
  · obtain ⟨p, s, k, M, Tb, d, vm, vt, kvs, rfl, W, ni, ok, okT, hs, q⟩ := h
    have hu := hu_of hr
    refine ⟨_, pss_one (ps_for PassesOwn.never rfl (EZ.pi_enumT T.enum (pa_cons (pe_ix ix_tup (pe_fld (pv 0) rfl) (pv 1) (fun _ _ => rfl)) pa_nil))
      (pg_tup rfl (pgs_cons (pg_name (i := 2) scWNear.nd rfl (.inl rfl)) (pgs_cons (pg_tup rfl (pgs_cons (pg_name (i := 3) scWNear.nd rfl (.inl rfl)) (pgs_cons (pg_name (i := 4) scWNear.nd rfl (.inl rfl)) pgs_nil))) pgs_nil)))
      (pss_cons (ps_set (i := 5) scWNear.nd rfl (.inl rfl) (pe_callB call_len (by rfl) T.len boot_len (pa_cons (pe_ix ix_tup (pe_ix ix_tup (pe_fld (pv 0) rfl) (pv 1) (fun _ _ => rfl)) (pv 2) (fun _ _ => rfl)) pa_nil)))
      (pss_cons (ps_if (pt_cmpR op_isN (pv 4) pe_non (nomark _)) (pss_cons (ps_if (pt_cmp (pc_dnotin hu (pv 3) (pe_fld (pv 0) rfl))) (pss_one ps_continue) pss_nil) (pss_one (ps_aug (i := 5) scWNear.nd rfl (.inl rfl) (pe_dget hu (pe_fld (pv 0) rfl) (pv 3) (fun _ _ => rfl)) ip_add))) pss_nil)
      (pss_one (ps_if (pt_cmpR op_lt (pv 5) (pe_dget2 hu (pe_fld (pv 0) rfl) (pv 1) (pe_op op_add (pv 5) pe_int) ⟨rfl, rfl, rfl, rfl⟩) (nomark _)) (pss_one (ps_dput hu (pe_fld (pv 0) rfl) (pv 1) (pv 5) rfl)) pss_nil))))), ?_⟩
    obtain ⟨⟨dx, hob⟩, hm, ht, hd⟩ := id W
    obtain ⟨a, xs, rfl, hs1, hl, hx⟩ := mc_at hm
    obtain ⟨b, ys, e1, hb, hlen, hopt⟩ := hx s hs
    obtain ⟨a', xs', rfl, hs', hl', hx'⟩ := tb_at ht
    obtain ⟨b', ys', e1', hb', hlen', hopt'⟩ := hx' s (by rw [okT.len]; exact hs)
    refine ⟨_, rfl, p, C, dx, _, _, rfl, hob, T.cl, T.nM, fl_m, _, rfl, a, _, _, _, rfl, rfl, hs1, atI_nat e1, b, ys, rfl, hb,
      EZ.for_enumT (K := K) (fun i σ H' => ∃ x2 x3 x4 x5 kvs', σ = [some (.ref p), some (.int s), x2, x3, x4, x5] ∧ NT K C H p M Tb d (.ref a) (.ref a') kvs s i H' kvs') ⟨_, _, _, _, kvs, rfl, But.refl, W, ni, fun k h => h, fun o h => absurd h (Nat.not_lt_zero _)⟩
        (fun i σ H' ⟨_, _, _, _, kvs', _, h⟩ => h.but.tupD hd _ _ hb) ?_ ?_⟩
    · rintro i x T' σ H1 hi ⟨x2, x3, x4, x5, kvs', rfl, N⟩ hp
      have his : i < (OL.opts M s).length := by rw [← hlen]; exact (List.getElem?_eq_some_iff.mp hi).1
      obtain ⟨c, e2, hc⟩ := hopt i his
      rw [hi] at e2
      cases e2
      obtain ⟨c', e2', hc'⟩ := hopt' i (by rw [okT.each s hs]; exact his)
      have s1 : Same H1 (upd H1 T' (.tup [.int (i : Nat), .ref c])) := same_new hp
      have kp : Keep K H (upd H1 T' (.tup [.int (i : Nat), .ref c])) := (N.but.tupD hd).trans (keep_same s1)
      have W2 := N.walk.kept (Same.kept s1)
      obtain ⟨⟨dx2, hob2⟩, hm2, ht2, hd2⟩ := id W2
      have but2 : But d H (upd H1 T' (.tup [.int (i : Nat), .ref c])) := N.but.trans (Same.but s1)
      have hmem := OL.optOf_mem (M := M) (s := s) (o := i) his
      refine ⟨T', _, rfl, .inl (.inl upd_same), rfl, _, _, rfl, _, _, rfl, c, _, rfl, kp _ _ hc, rfl, _, _, rfl, _, _, rfl, rfl, rfl, ?_⟩
      refine ⟨_, rfl, p, C, dx2, _, _, rfl, hob2, T.cl, T.nT, fl_t, _, rfl, a', _, _, _, rfl, rfl, kp _ _ hs', atI_nat e1', _, rfl, b', _, _, _, rfl, rfl, kp _ _ hb', atI_nat e2', _, _, rfl, .inr ⟨_, kp _ _ hc', rfl⟩, ?_⟩
      generalize upd H1 T' (.tup [.int (i : Nat), .ref c]) = H2 at *
      generalize hL : (((OL.rowOf Tb s i).map fun m : Nat => V.int m).length : Int) = L
      refine ⟨_, rfl, rfl, _, rfl, ?_⟩
      cases hw : (OL.optOf M s i).2 with
      | none =>
        refine iteD rfl ?_
        refine ⟨_, rfl, _, rfl, p, C, dx2, _, _, rfl, hob2, T.cl, T.nN, fl_n, d, _, rfl, DGet.k (k := kI (OL.optOf M s i).1) hd2, _, rfl, ?_⟩
        cases e : valV kvs' (kI (OL.optOf M s i).1) with
        | none =>
          refine iteT ?_
          refine ⟨_, _, _, _, kvs', rfl, but2, W2, N.ni, N.mono, fun o ho z => ?_⟩
          by_cases z2 : o < i
          · exact N.way o z2 z
          · have z3 : o = i := by omega
            subst z3
            rcases z with z | z
            · exact absurd hw z
            · exact absurd (N.mono _ z) (val_none.mp e)
        | some v =>
          refine iteF ?_
          have hk : kI (OL.optOf M s i).1 ∈ keys kvs' := val_in.mp (by rw [e]; rfl)
          obtain ⟨t, _, et, hsay, j, ej⟩ := N.ni.each _ hk
          rw [e] at ej
          cases ej
          rw [← kI_inj et] at hsay
          have hcs : OL.CanSay M s := .on (w := (OL.optOf M s i).2) hmem hsay
          refine ⟨_, rfl, _, rfl, p, C, dx2, _, _, rfl, hob2, T.cl, T.nN, fl_n, _, rfl, d, _, rfl, (by rw [← e]; exact DGet.k (k := kI (OL.optOf M s i).1) hd2), _, _, rfl, rfl, ?_⟩
          cases e5 : valV kvs' (kI s) with
          | none =>
            refine ⟨_, rfl, _, rfl, p, C, dx2, _, _, rfl, hob2, T.cl, T.nN, fl_n, d, rfl, .inl ⟨_, .inl hd2⟩, _, rfl, _, rfl, _, _, rfl, rfl, none, (by rw [← e5]; exact DGet.k (k := kI s) hd2), _, _, rfl, rfl, _, rfl, iteD (by omega) ?_⟩
            refine ⟨_, rfl, _, rfl, p, C, dx2, _, _, rfl, hob2, T.cl, T.nN, fl_n, _, rfl, d, _, rfl, DPut.k (k := kI s) hd2 (small1000 (by have := N.ni.few; have := ok.most; omega)), ?_⟩
            exact ⟨_, _, _, _, _, rfl, but2.trans but_upd, W2.put _, N.ni.put hs hcs _, fun k hk => mem_put.mpr (.inr (N.mono k hk)), fun _ _ _ => mem_put.mpr (.inl rfl)⟩
          | some v5 =>
            have hk5 : kI s ∈ keys kvs' := val_in.mp (by rw [e5]; rfl)
            obtain ⟨_, _, _, _, j5, ej5⟩ := N.ni.each _ hk5
            rw [e5] at ej5
            cases ej5
            refine ⟨_, rfl, _, rfl, p, C, dx2, _, _, rfl, hob2, T.cl, T.nN, fl_n, d, rfl, .inl ⟨_, .inl hd2⟩, _, rfl, _, rfl, _, _, rfl, rfl, some _, (by rw [← e5]; exact DGet.k (k := kI s) hd2), _, _, rfl, rfl, _, rfl, ?_⟩
            by_cases hlt : L + j < j5
            · refine iteD hlt ?_
              refine ⟨_, rfl, _, rfl, p, C, dx2, _, _, rfl, hob2, T.cl, T.nN, fl_n, _, rfl, d, _, rfl, DPut.k (k := kI s) hd2 (small1000 (by have := N.ni.few; have := ok.most; omega)), ?_⟩
              exact ⟨_, _, _, _, _, rfl, but2.trans but_upd, W2.put _, N.ni.put hs hcs _, fun k hk => mem_put.mpr (.inr (N.mono k hk)), fun _ _ _ => mem_put.mpr (.inl rfl)⟩
            · refine iteDN hlt ?_
              exact ⟨_, _, _, _, kvs', rfl, but2, W2, N.ni, N.mono, fun _ _ _ => hk5⟩
      | some y =>
        refine iteDN (by intro z; cases z) ?_
        have hcs : OL.CanSay M s := .here (a := (OL.optOf M s i).1) (x := y) (by rw [← hw]; exact hmem)
        cases e5 : valV kvs' (kI s) with
        | none =>
          refine ⟨_, rfl, _, rfl, p, C, dx2, _, _, rfl, hob2, T.cl, T.nN, fl_n, d, rfl, .inl ⟨_, .inl hd2⟩, _, rfl, _, rfl, _, _, rfl, rfl, none, (by rw [← e5]; exact DGet.k (k := kI s) hd2), _, _, rfl, rfl, _, rfl, iteD (by omega) ?_⟩
          refine ⟨_, rfl, _, rfl, p, C, dx2, _, _, rfl, hob2, T.cl, T.nN, fl_n, _, rfl, d, _, rfl, DPut.k (k := kI s) hd2 (small1000 (by have := N.ni.few; have := ok.most; omega)), ?_⟩
          exact ⟨_, _, _, _, _, rfl, but2.trans but_upd, W2.put _, N.ni.put hs hcs _, fun k hk => mem_put.mpr (.inr (N.mono k hk)), fun _ _ _ => mem_put.mpr (.inl rfl)⟩
        | some v5 =>
          have hk5 : kI s ∈ keys kvs' := val_in.mp (by rw [e5]; rfl)
          obtain ⟨_, _, _, _, j5, ej5⟩ := N.ni.each _ hk5
          rw [e5] at ej5
          cases ej5
          refine ⟨_, rfl, _, rfl, p, C, dx2, _, _, rfl, hob2, T.cl, T.nN, fl_n, d, rfl, .inl ⟨_, .inl hd2⟩, _, rfl, _, rfl, _, _, rfl, rfl, some _, (by rw [← e5]; exact DGet.k (k := kI s) hd2), _, _, rfl, rfl, _, rfl, ?_⟩
          by_cases hlt : L < j5
          · refine iteD hlt ?_
            refine ⟨_, rfl, _, rfl, p, C, dx2, _, _, rfl, hob2, T.cl, T.nN, fl_n, _, rfl, d, _, rfl, DPut.k (k := kI s) hd2 (small1000 (by have := N.ni.few; have := ok.most; omega)), ?_⟩
            exact ⟨_, _, _, _, _, rfl, but2.trans but_upd, W2.put _, N.ni.put hs hcs _, fun k hk => mem_put.mpr (.inr (N.mono k hk)), fun _ _ _ => mem_put.mpr (.inl rfl)⟩
          · refine iteDN hlt ?_
            exact ⟨_, _, _, _, kvs', rfl, but2, W2, N.ni, N.mono, fun _ _ _ => hk5⟩
    · rintro σ H1 ⟨x2, x3, x4, x5, kvs', rfl, N⟩
      refine q _ kvs' N.but N.walk N.ni N.mono fun ⟨a0, w0, h1, h2⟩ => ?_
      obtain ⟨o, ho, e⟩ := List.mem_iff_getElem.mp h1
      have e3 : OL.optOf M s o = (a0, w0) := by unfold OL.optOf; rw [List.getElem?_eq_getElem ho, e]; rfl
      exact N.way o (by rw [hlen]; exact ho) (by rw [e3]; exact h2)
theorem kmt : ¬ (("machine" : Str) = "table") := by decide +kernel
theorem kmn : ¬ (("machine" : Str) = "near") := by decide +kernel
theorem ktn : ¬ (("table" : Str) = "near") := by decide +kernel
theorem flds_eq (vm vt : V) (d : Addr) : putF "near" (.ref d) (putF "table" vt (putF "machine" vm [])) = flds vm vt d := by
  show putF "near" (.ref d) (if ("machine" : Str) = "table" then [(("machine" : Str), vt)] else [("machine", vm), ("table", vt)]) = _
  rw [if_neg kmt]
  show (if ("machine" : Str) = "near" then _ else (("machine" : Str), vm) :: (if ("table" : Str) = "near" then _ else [(("table" : Str), vt), ("near", V.ref d)])) = flds vm vt d
  rw [if_neg kmn, if_neg ktn] <;> rfl
def spWInit (K : Fr) (C : Addr) : Sp := fun vs H Q _ => ∃ (p dx : Addr) (k : Nat) (M : Mc) (Tb : OL.Tb) (vm vt : V), vs = [.ref p, vm, vt] ∧ H p = some (.ins C dx []) ∧ At K H vm (kMc M) ∧ At K H vt (kTb Tb) ∧ OL.MOk M ∧ OL.TOk M k Tb ∧
  ∀ H', (∀ b o, H b = some o → b ≠ p → H' b = some o) → IsWalk K C H' p M Tb → Q .non H'
theorem ok_winit {fN : Addr} {dN : FuncData} (T : Tx K mg C S) (F : FnP K "__init__" "Walk.__init__" sWInit f fd) (GN : CalM P w K mg base C "bring_near" 1 pWNear (spWNear K C) fN dN) : FnOk P w K mg base CX0 2 f fd pWInit (spWInit K C) := by
  refine okN F scWInit (fun vs H Q E h => ?_) (fun cdv A outer s H vs Q E hr h => ?_)
  · obtain ⟨p, dx, k, M, Tb, vm, vt, rfl, _⟩ := h
    rfl
  · obtain ⟨p, dx, k, M, Tb, vm, vt, rfl, hp, hm, ht, ok, okT, q⟩ := h
    refine ⟨_, pss_cons (ps_fld (pv 0) (pv 1) rfl) (pss_cons (ps_fld (pv 0) (pv 2) rfl) (pss_cons (ps_fld (pv 0) pe_dnewK rfl)
      (pss_one (ps_for PassesOwn.never rfl (pi_range1 rfl T.rng (pa_cons (pe_op op_add (pe_callB call_len (by rfl) T.len boot_len (pa_cons (pv 1) pa_nil)) pe_int) pa_nil)) (pg_name (i := 3) scWInit.nd rfl (Or.inl rfl))
        (pss_one (ps_for PassesOwn.never rfl (pi_range1 rfl T.rng (pa_cons (pe_callB call_len (by rfl) T.len boot_len (pa_cons (pv 1) pa_nil)) pa_nil)) (pg_name (i := 4) scWInit.nd rfl (Or.inl rfl))
          (pss_one (ps_expr (pe_calm (pv 0) T.cl GN hr (pa_cons (pv 4) pa_nil)))))))))), ?_⟩
    obtain ⟨a, xs, rfl, hs1, hl, -⟩ := mc_at hm
    have hmost := ok.most
    refine ⟨_, rfl, _, rfl, p, C, dx, _, rfl, hp, T.cl, T.nM, (by show 0 < 1000; decide), ?_⟩
    refine ⟨_, rfl, _, rfl, p, C, dx, _, rfl, upd_same, T.cl, T.nT, (by show 1 < 1000; decide), ?_⟩
    intro d hd
    have npd : p ≠ d := ne_of_none upd_same hd
    refine ⟨_, rfl, p, C, dx, _, rfl, (by rw [upd_ne npd]; exact upd_same), T.cl, T.nN, (by rw [show putF "table" vt (putF "machine" (.ref a) []) = [(("machine" : Str), V.ref a), ("table", vt)] from by show (if ("machine" : Str) = "table" then _ else _) = _; rw [if_neg kmt] <;> rfl]; show 2 < 1000; decide), ?_⟩
    have old : ∀ b o, H b = some o → b ≠ p → upd (upd (upd (upd H p (.ins C dx (putF "machine" (.ref a) []))) p (.ins C dx (putF "table" vt (putF "machine" (.ref a) [])))) d (.dK [])) p (.ins C dx (putF "near" (.ref d) (putF "table" vt (putF "machine" (.ref a) [])))) b = some o := fun b o e n => by
      have nb : b ≠ d := fun z => by
        have hd2 := hd
        rw [upd_ne npd.symm, upd_ne npd.symm] at hd2
        rw [z, hd2] at e
        cases e
      rw [upd_ne n, upd_ne nb, upd_ne n, upd_ne n]
      exact e
    have hob0 : upd (upd (upd (upd H p (.ins C dx (putF "machine" (.ref a) []))) p (.ins C dx (putF "table" vt (putF "machine" (.ref a) [])))) d (.dK [])) p (.ins C dx (putF "near" (.ref d) (putF "table" vt (putF "machine" (.ref a) [])))) p = some (.ins C dx (flds (.ref a) vt d)) := by
      rw [upd_same, flds_eq]
    have hd0 : upd (upd (upd (upd H p (.ins C dx (putF "machine" (.ref a) []))) p (.ins C dx (putF "table" vt (putF "machine" (.ref a) [])))) d (.dK [])) p (.ins C dx (putF "near" (.ref d) (putF "table" vt (putF "machine" (.ref a) [])))) d = some (.dK []) := by
      rw [upd_ne npd.symm, upd_same]
    have hdn : H d = none := by
      rw [upd_ne npd.symm, upd_ne npd.symm] at hd
      exact hd
    generalize upd (upd (upd (upd H p (.ins C dx (putF "machine" (.ref a) []))) p (.ins C dx (putF "table" vt (putF "machine" (.ref a) [])))) d (.dK [])) p (.ins C dx (putF "near" (.ref d) (putF "table" vt (putF "machine" (.ref a) [])))) = H0 at old hob0 hd0 ⊢
    have kp0 : Keep K H H0 := fun b ys z => z.elim (fun z => .inl (z.elim (fun z => .inl (old _ _ z (fun q => by rw [q, hp] at z; cases z))) fun ⟨o, z⟩ => .inr ⟨o, old _ _ z (fun q => by rw [q, hp] at z; cases z)⟩)) fun z => .inr z
    have W0 : WalkAt K C H0 p M Tb d (.ref a) vt [] := ⟨⟨dx, hob0⟩, hm.keep kp0, ht.keep kp0, hd0⟩
    refine ⟨_, rfl, _, _, rfl, .inr ⟨_, kp0 _ _ hs1, hl.symm⟩, _, _, rfl, rfl, _, rfl, by omega, by omega, for_rng (M.length + 1) (by omega) (fun j σ H' => ∃ x3 x4 kvs, σ = [some (.ref p), some (.ref a), some vt, x3, x4] ∧ But d H0 H' ∧ WalkAt K C H' p M Tb d (.ref a) vt kvs ∧ NI M kvs ∧ (Told M kvs ∨ j ≤ kvs.length))
      ⟨_, _, [], rfl, But.refl, W0, NI.nil, .inr (Nat.zero_le _)⟩ ?_ ?_⟩
    · rintro j σ H1 hj ⟨x3, x4, kvs, rfl, hb, W1, ni, e⟩
      refine ⟨_, rfl, _, _, rfl, .inr ⟨_, hb.tupD hd0 _ _ (kp0 _ _ hs1), hl.symm⟩, _, rfl, by omega, by omega, for_rng M.length rfl (fun i σ H' => ∃ x3 x4 kvs', σ = [some (.ref p), some (.ref a), some vt, x3, x4] ∧ But d H0 H' ∧ WalkAt K C H' p M Tb d (.ref a) vt kvs' ∧ NI M kvs' ∧ (∀ k ∈ keys kvs, k ∈ keys kvs') ∧ ∀ t, t < i → Way M kvs t → kI t ∈ keys kvs')
        ⟨_, _, kvs, rfl, hb, W1, ni, fun k h => h, fun t h => absurd h (Nat.not_lt_zero _)⟩ ?_ ?_⟩
      · rintro i σ H2 hi ⟨x3', x4', kvs', rfl, hb', W2', ni', mono, way⟩
        obtain ⟨dx2, hob2⟩ := W2'.ob
        refine ⟨_, rfl, p, dx2, _, rfl, hob2, (by rfl), _, rfl, p, i, k, M, Tb, d, _, vt, kvs', by rw [Int.zero_add]; rfl, W2', ni', ok, okT, hi, fun H3 kvs3 b3 W3 ni3 mono3 way3 => ?_⟩
        refine ⟨_, _, kvs3, rfl, hb'.trans b3, W3, ni3, fun k hk => mono3 k (mono k hk), fun t ht ⟨a0, w0, z1, z2⟩ => ?_⟩
        by_cases z : t < i
        · exact mono3 _ (way t z ⟨a0, w0, z1, z2⟩)
        · have z3 : t = i := by omega
          subst z3
          exact way3 ⟨a0, w0, z1, z2.imp id fun z => mono _ z⟩
      · rintro σ H2 ⟨x3', x4', kvs', rfl, hb', W2', ni', mono, way⟩
        exact ⟨_, _, kvs', rfl, hb', W2', ni', told_or ok ni ni' mono way e⟩
    · rintro σ H1 ⟨x3, x4, kvs, rfl, hb, W1, ni, e⟩
      refine q _ (fun b o hbo n => hb _ _ (fun z => by rw [z, hdn] at hbo; cases hbo) (old _ _ hbo n)) ⟨d, _, vt, kvs, W1, ni, told_end ni e⟩
end
end OLC
end
section
set_option Elab.async false
set_option linter.all false
set_option maxRecDepth 100000
set_option maxHeartbeats 2000000
/-! the class Walk: places -/
namespace OLC
open PySem PySem.Spec PyProof.Rows L2 OLT
section
variable {P : Program} {w : World} {K : Fr} {mg : Str → Option Value} {base : Heap} {C S f : Addr} {fd : FuncData}
theorem gl_m {vm vt : V} {d : Addr} : (flds vm vt d).lookup ("machine" : Str) = some vm := rfl
theorem gl_t {vm vt : V} {d : Addr} : (flds vm vt d).lookup ("table" : Str) = some vt := rfl
theorem gl_n {vm vt : V} {d : Addr} : (flds vm vt d).lookup ("near" : Str) = some (.ref d) := rfl
def spWMtw (K : Fr) (C : Addr) : Sp := fun vs H Q _ => ∃ (p : Addr) (k : Nat) (v : V) (M : Mc) (Tb : OL.Tb) (pl : OL.Pl), vs = [.ref p, v] ∧ IsWalk K C H p M Tb ∧ OL.MOk M ∧ OL.TOk M k Tb ∧ OL.PlOk M Tb pl ∧ At K H v (kPl pl) ∧
  ∀ u, ((OL.CanFrom M pl ∧ ∃ i : Int, u = .int i) ∨ (¬ OL.CanFrom M pl ∧ u = .non)) → Q u H
theorem ok_wmtw (T : Tx K mg C S) (F : FnP K "marks_to_word" "Walk.marks_to_word" sWMtw f fd) : FnOk P w K mg base CX0 1 f fd pWMtw (spWMtw K C) := by
  refine okN F scWMtw (fun vs H Q E h => ?_) (fun cdv A outer s H vs Q E hr h => ?_)
  · obtain ⟨p, k, v, M, Tb, pl, rfl, _⟩ := h
    rfl
  · obtain ⟨p, k, v, M, Tb, pl, rfl, ⟨d, vm, vt, kvs, W, near⟩, ok, okT, hpl, hv, q⟩ := h
    have hu := hu_of hr
    refine ⟨_, pss_cons (ps_asg (pv 1) (pg_tup rfl (pgs_cons (pg_name (i := 2) scWMtw.nd rfl (.inl rfl)) (pgs_cons (pg_name (i := 3) scWMtw.nd rfl (.inl rfl)) (pgs_cons (pg_name (i := 4) scWMtw.nd rfl (.inl rfl)) pgs_nil)))))
      (pss_cons (ps_if (pt_cmpR op_isN (pv 3) pe_non (nomark _)) (pss_one (ps_ret (pe_dget1 hu (pe_fld (pv 0) rfl) (pv 2) ⟨rfl, rfl, rfl, rfl⟩))) pss_nil)
      (pss_cons (ps_set (i := 5) scWMtw.nd rfl (.inl rfl) (pe_op op_sub (pe_callB call_len (by rfl) T.len boot_len (pa_cons (pe_ix ix_tup (pe_ix ix_tup (pe_fld (pv 0) rfl) (pv 2) (fun _ _ => rfl)) (pv 3) (fun _ _ => rfl)) pa_nil)) (pv 4)))
      (pss_cons (ps_asg (pe_ix ix_tup (pe_ix ix_tup (pe_fld (pv 0) rfl) (pv 2) (fun _ _ => rfl)) (pv 3) (fun _ _ => rfl)) (pg_tup rfl (pgs_cons (pg_name (i := 6) scWMtw.nd rfl (.inl rfl)) (pgs_cons (pg_name (i := 7) scWMtw.nd rfl (.inl rfl)) pgs_nil))))
      (pss_cons (ps_if (pt_cmpR op_notN (pv 7) pe_non (nomark _)) (pss_one (ps_ret (pv 5))) pss_nil)
      (pss_one (ps_ret (pe_ifExp (pt_cmp (pc_dnotin hu (pv 6) (pe_fld (pv 0) rfl))) pe_non (pe_op op_add (pv 5) (pe_dget hu (pe_fld (pv 0) rfl) (pv 6) (fun _ _ => rfl)))))))))), ?_⟩
    obtain ⟨⟨dx, hob⟩, hm, ht, hd⟩ := id W
    obtain ⟨a, xs, rfl, hs1, hl, hx⟩ := mc_at hm
    obtain ⟨a', xs', rfl, hs', hl', hx'⟩ := tb_at ht
    obtain ⟨c, rfl, hc⟩ := at_pl.mp hv
    obtain ⟨st, op, dn⟩ := pl
    obtain ⟨b, ys, e1, hb, hlen, hopt⟩ := hx st hpl.1
    obtain ⟨b', ys', e1', hb', hlen', hopt'⟩ := hx' st (by rw [okT.len]; exact hpl.1)
    refine ⟨_, rfl, c, _, rfl, hc, rfl, _, _, rfl, _, _, rfl, _, _, rfl, rfl, ?_⟩
    refine ⟨_, rfl, rfl, _, rfl, ?_⟩
    cases op with
    | none =>
      refine iteD rfl ?_
      refine ⟨_, rfl, p, C, dx, _, _, rfl, hob, T.cl, T.nN, gl_n, d, rfl, .inl ⟨_, .inl hd⟩, _, rfl, _, DGet.k (k := kI st) hd, ?_⟩
      refine q _ ?_
      by_cases hcs : OL.CanSay M st
      · obtain ⟨i, ei⟩ := near.yes hpl.1 hcs
        exact .inl ⟨hcs, i, by rw [ei]; rfl⟩
      · exact .inr ⟨hcs, by rw [near.no hcs]; rfl⟩
    | some o =>
      refine iteDN (by intro z; cases z) ?_
      obtain ⟨ho, hdn⟩ : o < (OL.opts M st).length ∧ dn < (OL.rowOf Tb st o).length := hpl.2
      obtain ⟨c1, e2, hc1⟩ := hopt o ho
      obtain ⟨c2, e2', hc2⟩ := hopt' o (by rw [okT.each st hpl.1]; exact ho)
      have hmem := OL.optOf_mem (M := M) (s := st) (o := o) ho
      refine ⟨_, rfl, p, C, dx, _, _, rfl, hob, T.cl, T.nT, gl_t, _, rfl, a', _, _, _, rfl, rfl, hs', atI_nat e1', _, rfl, b', _, _, _, rfl, rfl, hb', atI_nat e2', _, _, rfl, .inr ⟨_, hc2, rfl⟩, _, rfl, _, _, rfl, rfl, ?_⟩
      refine ⟨_, rfl, p, C, dx, _, _, rfl, hob, T.cl, T.nM, gl_m, _, rfl, a, _, _, _, rfl, rfl, hs1, atI_nat e1, _, rfl, b, _, _, _, rfl, rfl, hb, atI_nat e2, c1, _, rfl, hc1, rfl, _, _, rfl, _, _, rfl, rfl, ?_⟩
      refine ⟨_, rfl, rfl, _, rfl, ?_⟩
      cases hw : (OL.optOf M st o).2 with
      | some y =>
        refine iteN (by intro z; cases z) ?_
        refine ⟨_, rfl, ?_⟩
        exact q _ (.inl ⟨.inl (by rw [hw]; intro z; cases z), _, rfl⟩)
      | none =>
        refine iteNS rfl ?_
        refine ⟨_, rfl, _, rfl, p, C, dx, _, _, rfl, hob, T.cl, T.nN, gl_n, d, _, rfl, DGet.k (k := kI (OL.optOf M st o).1) hd, _, rfl, ?_⟩
        have hlead := OL.opts_lead ok hmem
        by_cases hcs : OL.CanSay M (OL.optOf M st o).1
        · obtain ⟨i, ei⟩ := near.yes hlead hcs
          rw [ei]
          refine iteF ?_
          refine ⟨_, rfl, _, rfl, p, C, dx, _, _, rfl, hob, T.cl, T.nN, gl_n, _, rfl, d, _, rfl, (by rw [← ei]; exact DGet.k (k := kI (OL.optOf M st o).1) hd), _, _, rfl, rfl, ?_⟩
          exact q _ (.inl ⟨.inr hcs, _, rfl⟩)
        · rw [near.no hcs]
          refine iteT ?_
          refine q _ (.inr ⟨fun z => ?_, rfl⟩)
          rcases z with z | z
          · exact z hw
          · exact hcs z
theorem few_opts {M : Mc} (ok : OL.MOk M) {s : Nat} (hs : s < M.length) : (OL.opts M s).length ≤ 4 := by
  unfold OL.opts
  rw [List.getElem?_eq_getElem hs]
  exact ok.few _ (List.getElem_mem hs)
def spWChoices (K : Fr) (C : Addr) : Sp := fun vs H Q _ => ∃ (p : Addr) (v : V) (M : Mc) (Tb : OL.Tb) (pl : OL.Pl), vs = [.ref p, v] ∧ IsWalk K C H p M Tb ∧ OL.MOk M ∧ pl.1 < M.length ∧ At K H v (kPl pl) ∧
  ∀ (H' : Hp) (D : Addr) (xs : List V), Same H H' → H D = none → H' D = some (.lst xs) → Ats K H' xs ((OL.choices M pl.1).map kPl) → Q (.ref D) H'
theorem ok_wchoices (T : Tx K mg C S) (F : FnP K "choices" "Walk.choices" sWChoices f fd) : FnOk P w K mg base CX0 1 f fd pWChoices (spWChoices K C) := by
  refine okN F scWChoices (fun vs H Q E h => ?_) (fun cdv A outer s H vs Q E hr h => ?_)
  · obtain ⟨p, v, M, Tb, pl, rfl, _⟩ := h
    rfl
  · obtain ⟨p, v, M, Tb, pl, rfl, ⟨d, vm, vt, kvs, W, near⟩, ok, hpl, hv, q⟩ := h
    refine ⟨_, pss_one (ps_ret (pe_lc (own := [("option", 2)]) (g := gName 2) rfl scWChoices.nd (pi_range1 rfl T.rng (pa_cons (pe_callB call_len (by rfl) T.len boot_len (pa_cons (pe_ix ix_tup (pe_fld (pv 0) rfl) (pe_ix ix_tup (pv 1) pe_int (fun _ _ => rfl)) (fun _ _ => rfl)) pa_nil)) pa_nil))
      (blkOk_by (N := nWChoices) (sc := defScope sWChoices) (by decide +kernel)) (fun _ _ _ _ _ => pg_name (i := 2) scWChoices.nd rfl (Or.inl rfl)) (fun _ _ _ _ _ => pts_nil)
      (fun _ _ _ _ _ => pe_tup (pa_cons (pe_ix (ix_tupK (K := K)) (pv 1) pe_int (fun _ _ => rfl)) (pa_cons (pv 2) (pa_cons pe_int pa_nil)))))), ?_⟩
    obtain ⟨⟨dx, hob⟩, hm, ht, hd⟩ := id W
    obtain ⟨a, xs, rfl, hs1, hl, hx⟩ := mc_at hm
    obtain ⟨c, rfl, hc⟩ := at_pl.mp hv
    obtain ⟨st, op, dn⟩ := pl
    obtain ⟨b, ys, e1, hb, hlen, hopt⟩ := hx st hpl
    have few : (OL.opts M st).length ≤ 4 := few_opts ok hpl
    refine ⟨_, rfl, p, C, dx, _, _, rfl, hob, T.cl, T.nM, gl_m, _, rfl, c, _, _, _, rfl, rfl, hc, rfl, a, _, _, _, rfl, rfl, hs1, atI_nat e1, _, _, rfl, .inr ⟨_, hb, hlen.symm⟩, _, rfl, by omega, by omega, fun D hD => ?_⟩
    refine lc_walk (OL.opts M st).length (fun i H' => ∃ acc, H' D = some (.lst acc) ∧ Same H H' ∧ Ats K H' acc ((List.range i).map fun o => kPl (st, some o, 0))) ⟨[], upd_same, same_lst (Same.refl H) hD, .nil'⟩ (fun i H' hi _ => by show i < Int.toNat _; omega) (fun H' _ => by show Int.toNat _ ≤ _; omega) ?_ ?_
    · rintro i x H1 H2 hi ⟨acc, hacc, hsame, hall⟩ ⟨rfl, rfl⟩
      refine ⟨rfl, ?_⟩
      refine ⟨_, rfl, c, _, _, _, rfl, rfl, keep_same hsame _ _ hc, rfl, _, rfl, (by show 3 ≤ sizeLine; decide), fun p3 hp3 => ?_⟩
      have s3 : Same H2 (upd H2 p3 (.tup [.int st, .int (0 + (i : Nat)), .int 0])) := same_new hp3
      have hlacc : acc.length = i := by rw [hall.len]; simp
      refine ⟨acc, s3 _ _ hacc, small1000 (by omega), _, upd_same, same_lst (hsame.trans s3) hD, ?_⟩
      have kk : Keep K H2 (upd (upd H2 p3 (.tup [.int st, .int (0 + (i : Nat)), .int 0])) D (.lst (acc ++ [.ref p3]))) := (keep_same s3).trans (keep_lst (s3 _ _ hacc))
      rw [List.range_succ, List.map_append]
      refine (hall.keep kk).snoc (at_pl.mpr ⟨p3, rfl, keep_lst (s3 _ _ hacc) _ _ (.inl (.inl ?_))⟩)
      rw [upd_same, Int.zero_add] <;> rfl
    · rintro H1 ⟨acc, hacc, hsame, hall⟩
      refine q H1 D acc hsame hD hacc ?_
      unfold OL.choices
      rw [List.map_map]
      exact hall
def spWNext (K : Fr) (C : Addr) : Sp := fun vs H Q _ => ∃ (p : Addr) (k : Nat) (v : V) (M : Mc) (Tb : OL.Tb) (st o dn : Nat), vs = [.ref p, v] ∧ IsWalk K C H p M Tb ∧ OL.MOk M ∧ OL.TOk M k Tb ∧ OL.PlOk M Tb (st, some o, dn) ∧ At K H v (kPl (st, some o, dn)) ∧
  ∀ m : Nat, OL.nextMark Tb st o dn = some m → Q (.int m) H
theorem ok_wnext (T : Tx K mg C S) (F : FnP K "next_mark" "Walk.next_mark" sWNext f fd) : FnOk P w K mg base CX0 1 f fd pWNext (spWNext K C) := by
  refine okN F scWNext (fun vs H Q E h => ?_) (fun cdv A outer s H vs Q E hr h => ?_)
  · obtain ⟨p, k, v, M, Tb, st, o, dn, rfl, _⟩ := h
    rfl
  · obtain ⟨p, k, v, M, Tb, st, o, dn, rfl, ⟨d, vm, vt, kvs, W, near⟩, ok, okT, hpl, hv, q⟩ := h
    refine ⟨_, pss_one (ps_ret (pe_ix ix_tup (pe_ix ix_tup (pe_ix ix_tup (pe_fld (pv 0) rfl) (pe_ix ix_tup (pv 1) pe_int (fun _ _ => rfl)) (fun _ _ => rfl)) (pe_ix ix_tup (pv 1) pe_int (fun _ _ => rfl)) (fun _ _ => rfl)) (pe_ix ix_tup (pv 1) pe_int (fun _ _ => rfl)) (fun _ _ => rfl))), ?_⟩
    obtain ⟨⟨dx, hob⟩, hm, ht, hd⟩ := id W
    obtain ⟨a', xs', rfl, hs', hl', hx'⟩ := tb_at ht
    obtain ⟨c, rfl, hc⟩ := at_pl.mp hv
    obtain ⟨h1, h2, h3⟩ := hpl
    obtain ⟨b', ys', e1', hb', hlen', hopt'⟩ := hx' st (by rw [okT.len]; exact h1)
    obtain ⟨c2, e2', hc2⟩ := hopt' o (by rw [okT.each st h1]; exact h2)
    have e3 : (OL.rowOf Tb st o)[dn]? = some (OL.rowOf Tb st o)[dn] := List.getElem?_eq_getElem h3
    refine ⟨_, rfl, p, C, dx, _, _, rfl, hob, T.cl, T.nT, gl_t, _, rfl, c, _, _, _, rfl, rfl, hc, rfl, a', _, _, _, rfl, rfl, hs', atI_nat e1', _, rfl, c, _, _, _, rfl, rfl, hc, (atI_nat (j := 1) rfl), b', _, _, _, rfl, rfl, hb', atI_nat e2', _, rfl, c, _, _, _, rfl, rfl, hc, (atI_nat (j := 2) rfl), c2, _, _, _, rfl, rfl, hc2,
      atI_nat (by rw [List.getElem?_map, e3]; rfl), q _ e3⟩
def spWGone (K : Fr) (C : Addr) : Sp := fun vs H Q _ => ∃ (p : Addr) (k : Nat) (v : V) (M : Mc) (Tb : OL.Tb) (st o dn : Nat), vs = [.ref p, v] ∧ IsWalk K C H p M Tb ∧ OL.MOk M ∧ OL.TOk M k Tb ∧ OL.PlOk M Tb (st, some o, dn) ∧ At K H v (kPl (st, some o, dn)) ∧
  ∀ (H' : Hp) (D : Addr) (u : V), Same H H' → SqT K H' D [u, vW (OL.goneOn M Tb st o dn).2] → At K H' u (kPl (OL.goneOn M Tb st o dn).1) → Q (.ref D) H'
theorem ok_wgone (T : Tx K mg C S) (F : FnP K "gone_on" "Walk.gone_on" sWGone f fd) : FnOk P w K mg base CX0 1 f fd pWGone (spWGone K C) := by
  refine okN F scWGone (fun vs H Q E h => ?_) (fun cdv A outer s H vs Q E hr h => ?_)
  · obtain ⟨p, k, v, M, Tb, st, o, dn, rfl, _⟩ := h
    rfl
  · obtain ⟨p, k, v, M, Tb, st, o, dn, rfl, ⟨d, vm, vt, kvs, W, near⟩, ok, okT, hpl, hv, q⟩ := h
    refine ⟨_, pss_cons (ps_asg (pv 1) (pg_tup rfl (pgs_cons (pg_name (i := 2) scWGone.nd rfl (.inl rfl)) (pgs_cons (pg_name (i := 3) scWGone.nd rfl (.inl rfl)) (pgs_cons (pg_name (i := 4) scWGone.nd rfl (.inl rfl)) pgs_nil)))))
      (pss_cons (ps_if (pt_cmpR op_lt (pe_op op_add (pv 4) pe_int) (pe_callB call_len (by rfl) T.len boot_len (pa_cons (pe_ix ix_tup (pe_ix ix_tup (pe_fld (pv 0) rfl) (pv 2) (fun _ _ => rfl)) (pv 3) (fun _ _ => rfl)) pa_nil)) (nomark _))
        (pss_one (ps_ret (pe_tup (pa_cons (pe_tup (pa_cons (pv 2) (pa_cons (pv 3) (pa_cons (pe_op op_add (pv 4) pe_int) pa_nil)))) (pa_cons pe_non pa_nil))))) pss_nil)
      (pss_cons (ps_asg (pe_ix ix_tup (pe_ix ix_tup (pe_fld (pv 0) rfl) (pv 2) (fun _ _ => rfl)) (pv 3) (fun _ _ => rfl)) (pg_tup rfl (pgs_cons (pg_name (i := 5) scWGone.nd rfl (.inl rfl)) (pgs_cons (pg_name (i := 6) scWGone.nd rfl (.inl rfl)) pgs_nil))))
      (pss_one (ps_ret (pe_tup (pa_cons (pe_tup (pa_cons (pv 5) (pa_cons pe_non (pa_cons pe_int pa_nil)))) (pa_cons (pv 6) pa_nil))))))), ?_⟩
    obtain ⟨⟨dx, hob⟩, hm, ht, hd⟩ := id W
    obtain ⟨a, xs, rfl, hs1, hl, hx⟩ := mc_at hm
    obtain ⟨a', xs', rfl, hs', hl', hx'⟩ := tb_at ht
    obtain ⟨c, rfl, hc⟩ := at_pl.mp hv
    obtain ⟨h1, h2, h3⟩ := hpl
    obtain ⟨b, ys, e1, hb, hlen, hopt⟩ := hx st h1
    obtain ⟨c1, e2, hc1⟩ := hopt o h2
    obtain ⟨b', ys', e1', hb', hlen', hopt'⟩ := hx' st (by rw [okT.len]; exact h1)
    obtain ⟨c2, e2', hc2⟩ := hopt' o (by rw [okT.each st h1]; exact h2)
    refine ⟨_, rfl, c, _, rfl, hc, rfl, _, _, rfl, _, _, rfl, _, _, rfl, rfl, ?_⟩
    refine ⟨_, rfl, _, _, rfl, rfl, _, rfl, p, C, dx, _, _, rfl, hob, T.cl, T.nT, gl_t, _, rfl, a', _, _, _, rfl, rfl, hs', atI_nat e1', _, rfl, b', _, _, _, rfl, rfl, hb', atI_nat e2', _, _, rfl, .inr ⟨_, hc2, (List.length_map ..).symm⟩, _, _, rfl, rfl, _, rfl, ?_⟩
    unfold OL.goneOn at q
    by_cases hlt : dn + 1 < (OL.rowOf Tb st o).length
    · refine iteD (by show (dn : Int) + 1 < ((OL.rowOf Tb st o).length : Int); omega) ?_
      rw [if_pos hlt] at q
      refine ⟨_, rfl, _, rfl, _, rfl, _, _, rfl, rfl, (by show 3 ≤ sizeLine; decide), fun p1 hp1 => ⟨(by show 2 ≤ sizeLine; decide), fun p2 hp2 => ?_⟩⟩
      exact q _ p2 (.ref p1) ((same_new hp1).trans (same_new hp2)) (.inl (.inl upd_same)) (at_pl.mpr ⟨p1, rfl, keep_same (same_new hp2) _ _ (.inl (.inl upd_same))⟩)
    · refine iteDN (by show ¬ (dn : Int) + 1 < ((OL.rowOf Tb st o).length : Int); omega) ?_
      rw [if_neg hlt] at q
      refine ⟨_, rfl, p, C, dx, _, _, rfl, hob, T.cl, T.nM, gl_m, _, rfl, a, _, _, _, rfl, rfl, hs1, atI_nat e1, _, rfl, b, _, _, _, rfl, rfl, hb, atI_nat e2, c1, _, rfl, hc1, rfl, _, _, rfl, _, _, rfl, rfl, ?_⟩
      refine ⟨_, rfl, (by show 3 ≤ sizeLine; decide), fun p1 hp1 => ⟨_, rfl, (by show 2 ≤ sizeLine; decide), fun p2 hp2 => ?_⟩⟩
      exact q _ p2 (.ref p1) ((same_new hp1).trans (same_new hp2)) (.inl (.inl upd_same)) (at_pl.mpr ⟨p1, rfl, keep_same (same_new hp2) _ _ (.inl (.inl upd_same))⟩)
end
end OLC
end
section
set_option Elab.async false
set_option linter.all false
set_option maxRecDepth 100000
set_option maxHeartbeats 2000000
/-! the class Walk: pairs of places -/
namespace OLC
open PySem PySem.Spec PyProof.Rows L2 OLT
section
variable {P : Program} {w : World} {K : Fr} {mg : Str → Option Value} {base : Heap} {C S f : Addr} {fd : FuncData}
/-- what together hands back -/
def TogAt (K : Fr) (H : Hp) (D : Addr) (M : Mc) (Tb : OL.Tb) (pr : OL.Pr) : Prop :=
  (OL.together M Tb pr = none ∧ SqT K H D [.bl false, .non, .non]) ∨
  ∃ ps ws u a, OL.together M Tb pr = some (ps, ws) ∧ SqT K H D [.bl true, u, .ref a] ∧ At K H u (kPr ps) ∧ SqT K H a [vW ws.1, vW ws.2]
theorem vN_non {o : Option Nat} : vN o = .non ↔ o = none := by cases o <;> simp [vN]
def spWTog (K : Fr) (C : Addr) : Sp := fun vs H Q _ => ∃ (p : Addr) (k : Nat) (v : V) (M : Mc) (Tb : OL.Tb) (pr : OL.Pr), vs = [.ref p, v] ∧ IsWalk K C H p M Tb ∧ OL.MOk M ∧ OL.TOk M k Tb ∧ OL.PrOk M Tb pr ∧ At K H v (kPr pr) ∧
  ∀ (H' : Hp) (D : Addr), Same H H' → TogAt K H' D M Tb pr → Q (.ref D) H'
theorem ok_wtog {f1 f2 : Addr} {d1 d2 : FuncData} (T : Tx K mg C S) (F : FnP K "together" "Walk.together" sWTog f fd) (G1 : CalM P w K mg base C "next_mark" 1 pWNext (spWNext K C) f1 d1) (G2 : CalM P w K mg base C "gone_on" 1 pWGone (spWGone K C) f2 d2) :
    FnOk P w K mg base CX0 2 f fd pWTog (spWTog K C) := by
  refine okN F scWTog (fun vs H Q E h => ?_) (fun cdv A outer s H vs Q E hr h => ?_)
  · obtain ⟨p, k, v, M, Tb, pr, rfl, _⟩ := h
    rfl
  · obtain ⟨p, k, v, M, Tb, pr, rfl, hW, ok, okT, hpr, hv, q⟩ := h
    refine ⟨_, pss_cons (ps_asg (pv 1) (pg_tup rfl (pgs_cons (pg_name (i := 2) scWTog.nd rfl (.inl rfl)) (pgs_cons (pg_name (i := 3) scWTog.nd rfl (.inl rfl)) pgs_nil))))
      (pss_cons (ps_if (PW.pt (pw_or (pt_cmpR op_isN (pe_ix ix_tup (pv 2) pe_int (fun _ _ => rfl)) pe_non (nomark _)) (pw_or (pt_cmpR op_isN (pe_ix ix_tup (pv 3) pe_int (fun _ _ => rfl)) pe_non (nomark _))
          (pw_or1 (pt_cmpR op_ne (pe_calm (pv 0) T.cl G1 hr (pa_cons (pv 2) pa_nil)) (pe_calm (pv 0) T.cl G1 hr (pa_cons (pv 3) pa_nil)) (nomark _))))))
        (pss_one (ps_ret (pe_tup (pa_cons pe_bl (pa_cons pe_non (pa_cons pe_non pa_nil)))))) pss_nil)
      (pss_cons (ps_par (i := 4) (j := 5) (by rfl) scWTog.nd rfl rfl (by decide) rfl rfl (pa_cons (pe_calm (pv 0) T.cl G2 hr (pa_cons (pv 2) pa_nil)) (pa_cons (pe_calm (pv 0) T.cl G2 hr (pa_cons (pv 3) pa_nil)) pa_nil)) (by rfl))
      (pss_one (ps_ret (pe_tup (pa_cons pe_bl (pa_cons (pe_tup (pa_cons (pe_ix ix_tup (pv 4) pe_int (fun _ _ => rfl)) (pa_cons (pe_ix ix_tup (pv 5) pe_int (fun _ _ => rfl)) pa_nil)))
        (pa_cons (pe_tup (pa_cons (pe_ix ix_tup (pv 4) pe_int (fun _ _ => rfl)) (pa_cons (pe_ix ix_tup (pv 5) pe_int (fun _ _ => rfl)) pa_nil))) pa_nil)))))))), ?_⟩
    obtain ⟨c, x, y, rfl, hc, hx, hy⟩ := at_pr.mp hv
    obtain ⟨⟨s1, o1, n1⟩, ⟨s2, o2, n2⟩⟩ := pr
    obtain ⟨cx, rfl, hcx⟩ := at_pl.mp hx
    obtain ⟨cy, rfl, hcy⟩ := at_pl.mp hy
    have hins : ∃ dx fs, H p = some (.ins C dx fs) ∧ fs.lookup ("next_mark" : Str) = none ∧ fs.lookup ("gone_on" : Str) = none := by
      obtain ⟨d, vm, vt, kvs, ⟨⟨dx, hob⟩, _⟩, _⟩ := hW
      exact ⟨dx, _, hob, rfl, rfl⟩
    obtain ⟨dx, fs, hob, l1, l2⟩ := hins
    have no : OL.together M Tb ((s1, o1, n1), (s2, o2, n2)) = none → ∀ (D : Ends), D.rt = Q → tRet (tTup (tCons (tC (.bl false)) (tCons (tC .non) (tCons (tC .non) tNil)))) D ((L2.start nWTog [V.ref p, V.ref c]).set 2 (some (.ref cx)) |>.set 3 (some (.ref cy))) H := fun e D eD => by
      refine ⟨(by show 3 ≤ sizeLine; decide), fun p1 hp1 => ?_⟩
      rw [eD]
      exact q _ p1 (same_new hp1) (.inl ⟨e, .inl (.inl upd_same)⟩)
    refine ⟨_, rfl, c, _, rfl, hc, rfl, _, _, rfl, _, _, rfl, rfl, ?_⟩
    refine ⟨_, rfl, cx, _, _, _, rfl, rfl, hcx, (atI_nat (j := 1) rfl), rfl, _, rfl, ?_⟩
    cases o1 with
    | none =>
      refine iteD rfl ?_
      exact no (by simp [OL.together]) _ rfl
    | some o1 =>
      refine iteDN (by intro z; cases z) ?_
      refine ⟨_, rfl, cy, _, _, _, rfl, rfl, hcy, (atI_nat (j := 1) rfl), rfl, _, rfl, ?_⟩
      cases o2 with
      | none =>
        refine iteD rfl ?_
        exact no (by simp [OL.together]) _ rfl
      | some o2 =>
        refine iteDN (by intro z; cases z) ?_
        have m1 : ∃ m, OL.nextMark Tb s1 o1 n1 = some m := ⟨_, List.getElem?_eq_getElem hpr.1.2.2⟩
        have m2 : ∃ m, OL.nextMark Tb s2 o2 n2 = some m := ⟨_, List.getElem?_eq_getElem hpr.2.2.2⟩
        obtain ⟨m1, em1⟩ := m1
        obtain ⟨m2, em2⟩ := m2
        refine ⟨_, rfl, p, dx, fs, rfl, hob, l1, _, rfl, p, k, _, M, Tb, s1, o1, n1, rfl, hW, ok, okT, hpr.1, hx, fun m' em' => ?_⟩
        rw [em1] at em'
        cases em'
        refine ⟨_, rfl, p, dx, fs, rfl, hob, l1, _, rfl, p, k, _, M, Tb, s2, o2, n2, rfl, hW, ok, okT, hpr.2, hy, fun m' em' => ?_⟩
        rw [em2] at em'
        cases em'
        refine ⟨rfl, _, rfl, ?_⟩
        by_cases em : m1 = m2
        · refine iteNS (by rw [em]) ?_
          have et : OL.together M Tb ((s1, some o1, n1), (s2, some o2, n2)) = some (((OL.goneOn M Tb s1 o1 n1).1, (OL.goneOn M Tb s2 o2 n2).1), (OL.goneOn M Tb s1 o1 n1).2, (OL.goneOn M Tb s2 o2 n2).2) := by
            simp only [OL.together]
            rw [em1, em2, em, if_pos rfl]
          refine ⟨_, rfl, p, dx, fs, rfl, hob, l2, _, rfl, p, k, _, M, Tb, s1, o1, n1, rfl, hW, ok, okT, hpr.1, hx, fun H1 D1 u1 z1 q1 a1 => ?_⟩
          refine ⟨_, rfl, p, dx, fs, rfl, z1 _ _ hob, l2, _, rfl, p, k, _, M, Tb, s2, o2, n2, rfl, hW.kept (Same.kept z1), ok, okT, hpr.2, hy.keep (keep_same z1), fun H2 D2 u2 z2 q2 a2 => ?_⟩
          have q1' := keep_same z2 _ _ q1
          refine ⟨_, _, rfl, _, rfl, D1, _, _, _, rfl, rfl, q1', rfl, _, rfl, D2, _, _, _, rfl, rfl, q2, rfl, (by show 2 ≤ sizeLine; decide), fun p3 hp3 => ?_⟩
          have z3 := same_new (o := .tup [u1, u2]) hp3
          refine ⟨_, rfl, D1, _, _, _, rfl, rfl, keep_same z3 _ _ q1', (atI_nat (j := 1) rfl), _, rfl, D2, _, _, _, rfl, rfl, keep_same z3 _ _ q2, (atI_nat (j := 1) rfl), (by show 2 ≤ sizeLine; decide), fun p4 hp4 => ⟨(by show 3 ≤ sizeLine; decide), fun p5 hp5 => ?_⟩⟩
          have z4 := same_new (o := .tup [vW (OL.goneOn M Tb s1 o1 n1).2, vW (OL.goneOn M Tb s2 o2 n2).2]) hp4
          have z5 := same_new (o := .tup [.bl true, .ref p3, .ref p4]) hp5
          have z35 := z3.trans (z4.trans z5)
          refine q _ p5 (z1.trans (z2.trans z35)) (.inr ⟨_, _, .ref p3, p4, et, .inl (.inl upd_same), at_pr.mpr ⟨p3, u1, u2, rfl, keep_same (z4.trans z5) _ _ (.inl (.inl upd_same)), a1.keep (keep_same (z2.trans z35)), a2.keep (keep_same z35)⟩, keep_same z5 _ _ (.inl (.inl upd_same))⟩)
        · refine iteN (by intro z; cases z; exact em rfl) ?_
          refine no ?_ _ rfl
          simp only [OL.together]
          rw [em1, em2, if_neg (by intro z; cases z; exact em rfl)]
def spWChosen (K : Fr) (C : Addr) : Sp := fun vs H Q _ => ∃ (p : Addr) (v : V) (M : Mc) (Tb : OL.Tb) (pr : OL.Pr), vs = [.ref p, v] ∧ IsWalk K C H p M Tb ∧ OL.MOk M ∧ OL.PrOk M Tb pr ∧ At K H v (kPr pr) ∧
  ∀ (H' : Hp) (D : Addr) (xs : List V), Same H H' → H D = none → H' D = some (.lst xs) → Ats K H' xs ((OL.chosen M pr).map kPr) → Q (.ref D) H'
theorem ok_wchosen {f1 : Addr} {d1 : FuncData} (T : Tx K mg C S) (F : FnP K "chosen" "Walk.chosen" sWChosen f fd) (G1 : CalM P w K mg base C "choices" 1 pWChoices (spWChoices K C) f1 d1) : FnOk P w K mg base CX0 2 f fd pWChosen (spWChosen K C) := by
  refine okN F scWChosen (fun vs H Q E h => ?_) (fun cdv A outer s H vs Q E hr h => ?_)
  · obtain ⟨p, v, M, Tb, pr, rfl, _⟩ := h
    rfl
  · obtain ⟨p, v, M, Tb, pr, rfl, hW, ok, hpr, hv, q⟩ := h
    refine ⟨_, pss_cons (ps_asg (pv 1) (pg_tup rfl (pgs_cons (pg_name (i := 2) scWChosen.nd rfl (.inr rfl)) (pgs_cons (pg_name (i := 3) scWChosen.nd rfl (.inr rfl)) pgs_nil))))
      (pss_cons (ps_set (i := 4) scWChosen.nd rfl (.inl rfl) (pe_lst pa_nil))
      (pss_cons (ps_if (pt_cmpR op_isN (pe_ix ix_tup (pv 2) pe_int (fun _ _ => rfl)) pe_non (nomark _)) (pss_one (ps_aug (i := 4) scWChosen.nd rfl (.inl rfl) (pe_lc (own := [("place", 5)]) (g := gName 5) rfl scWChosen.nd (pi_list (pe_calm (pv 0) T.cl G1 hr (pa_cons (pv 2) pa_nil)))
          (blkOk_by (N := nWChosen) (sc := defScope sWChosen) (by decide +kernel)) (fun _ _ _ _ _ => pg_name (i := 5) scWChosen.nd rfl (Or.inl rfl)) (fun _ _ _ _ _ => pts_nil) (fun _ _ _ _ _ => pe_tup (pa_cons (pv 5) (pa_cons (pv 3) pa_nil)))) (fun pins s σ H x y v u Q => iop_ext pins s σ H x y v u Q))) pss_nil)
      (pss_cons (ps_if (pt_cmpR op_isN (pe_ix ix_tup (pv 3) pe_int (fun _ _ => rfl)) pe_non (nomark _)) (pss_one (ps_aug (i := 4) scWChosen.nd rfl (.inl rfl) (pe_lc (own := [("place", 5)]) (g := gName 5) rfl scWChosen.nd (pi_list (pe_calm (pv 0) T.cl G1 hr (pa_cons (pv 3) pa_nil)))
          (blkOk_by (N := nWChosen) (sc := defScope sWChosen) (by decide +kernel)) (fun _ _ _ _ _ => pg_name (i := 5) scWChosen.nd rfl (Or.inl rfl)) (fun _ _ _ _ _ => pts_nil) (fun _ _ _ _ _ => pe_tup (pa_cons (pv 2) (pa_cons (pv 5) pa_nil)))) (fun pins s σ H x y v u Q => iop_ext pins s σ H x y v u Q))) pss_nil)
      (pss_one (ps_ret (pv 4)))))), ?_⟩
    obtain ⟨c, x, y, rfl, hc, hx, hy⟩ := at_pr.mp hv
    obtain ⟨⟨s1, o1, n1⟩, ⟨s2, o2, n2⟩⟩ := pr
    obtain ⟨cx, rfl, hcx⟩ := at_pl.mp hx
    obtain ⟨cy, rfl, hcy⟩ := at_pl.mp hy
    have hins : ∃ dx fs, H p = some (.ins C dx fs) ∧ fs.lookup ("choices" : Str) = none := by
      obtain ⟨d, vm, vt, kvs, ⟨⟨dx, hob⟩, _⟩, _⟩ := hW
      exact ⟨dx, _, hob, rfl⟩
    obtain ⟨dx, fs, hob, l1⟩ := hins
    refine ⟨_, rfl, c, _, rfl, hc, rfl, _, _, rfl, _, _, rfl, rfl, ?_⟩
    refine ⟨Nat.zero_le _, fun l hl => ?_⟩
    have sl : Same H (upd H l (.lst [])) := same_new hl
    have hll : upd H l (.lst []) l = some (.lst []) := upd_same
    generalize upd H l (.lst []) = H1 at sl hll ⊢
    refine ⟨_, rfl, cx, _, _, _, rfl, rfl, keep_same sl _ _ hcx, (atI_nat (j := 1) rfl), rfl, _, rfl, ?_⟩
    have hn : H l = none := hl
    cases o1 with
    | some o1 =>
      refine iteDN (by intro z; cases z) ?_
      refine ⟨_, rfl, cy, _, _, _, rfl, rfl, keep_same sl _ _ hcy, (atI_nat (j := 1) rfl), rfl, _, rfl, ?_⟩
      cases o2 with
      | some o2 =>
        refine iteDN (by intro z; cases z) ?_
        refine ⟨_, rfl, ?_⟩
        refine q _ l _ sl hn hll ?_
        have e : OL.chosen M ((s1, some o1, n1), (s2, some o2, n2)) = [] := by simp [OL.chosen]
        rw [e]
        exact (.nil' : Ats K H1 [] (([] : List OL.Pr).map kPr))
      | none =>
        refine iteD rfl ?_
        refine ⟨_, rfl, _, rfl, p, dx, fs, rfl, sl _ _ hob, l1, _, rfl, p, _, M, Tb, (s2, none, n2), rfl, hW.kept (Same.kept sl), ok, hpr.2.1, hy.keep (keep_same sl), fun H2 D1 xs1 z1 f1 e1 a1 => ⟨D1, rfl, ⟨_, .inl (.inl e1)⟩, fun D2 hD2 => ?_⟩⟩
        have lx1 : xs1.length = (OL.choices M s2).length := by rw [a1.len, List.length_map]
        have fw : (OL.choices M s2).length ≤ 4 := by unfold OL.choices; rw [List.length_map, List.length_range]; exact few_opts ok hpr.2.1
        refine lc_walk xs1.length (fun i H' => ∃ acc, H' D2 = some (.lst acc) ∧ Same H2 H' ∧ Ats K H' acc (((OL.choices M s2).take i).map fun c' => kPr ((s1, some o1, n1), c'))) ⟨[], upd_same, same_lst (Same.refl H2) hD2, .nil'⟩ (fun i H' hi ⟨_, _, z, _⟩ => itl_go (.inl (.inl (z _ _ e1))) hi) (fun H' ⟨_, _, z, _⟩ => itl_stop (.inl (.inl (z _ _ e1)))) ?_ ?_
        · rintro i x' H4 H5 hi ⟨acc, hacc, z4, hall⟩ ⟨rfl, y'⟩
          have ex := y' _ (.inl (.inl (z4 _ _ e1)))
          obtain ⟨kx, ek, ax⟩ := a1.got ex
          have hic : i < (OL.choices M s2).length := by omega
          rw [List.getElem?_map, List.getElem?_eq_getElem hic] at ek
          cases ek
          refine ⟨rfl, ?_⟩
          refine ⟨_, rfl, _, rfl, (by show 2 ≤ sizeLine; decide), fun p3 hp3 => ?_⟩
          have s3 : Same H5 (upd H5 p3 (.tup [.ref cx, x'])) := same_new hp3
          have hlacc : acc.length ≤ i := by rw [hall.len, List.length_map, List.length_take]; omega
          refine ⟨acc, s3 _ _ hacc, small1000 (by omega), _, upd_same, same_lst (z4.trans s3) hD2, ?_⟩
          have kk : Keep K H5 (upd (upd H5 p3 (.tup [.ref cx, x'])) D2 (.lst (acc ++ [.ref p3]))) := (keep_same s3).trans (keep_lst (s3 _ _ hacc))
          rw [List.take_add_one, List.getElem?_eq_getElem hic, List.map_append]
          have ax := ax.keep ((keep_same z4).trans kk)
          refine (hall.keep kk).snoc (at_pr.mpr ⟨p3, .ref cx, x', rfl, keep_lst (s3 _ _ hacc) _ _ (.inl (.inl upd_same)), hx.keep ((keep_same (sl.trans (z1.trans z4))).trans kk), ax⟩)
        · rintro H4 ⟨acc, hacc, z4, hall⟩
          have hall := (show xs1.length = (OL.choices M s2).length from lx1) ▸ hall
          rw [List.take_length] at hall
          have lacc : acc.length ≤ 4 := by rw [hall.len, List.length_map]; exact fw
          have lxs : (([] : List V)).length ≤ 4 := by first | exact Nat.zero_le _ | (rw [(.nil' : Ats K H1 [] (([] : List OL.Pr).map kPr)).len, List.length_map]; exact fw4)
          have zz := sl.trans (z1.trans z4)
          refine ⟨l, D2, _, acc, rfl, rfl, z4 _ _ (z1 _ _ hll), hacc, lenLine (by omega), ?_⟩
          have ck : Keep K H4 (upd H4 l (.lst (([] : List V) ++ acc))) := keep_lst (z4 _ _ (z1 _ _ hll))
          refine ⟨_, rfl, ?_⟩
          refine q _ l _ (same_lst zz hn) hn upd_same ?_
          have e : OL.chosen M ((s1, some o1, n1), (s2, none, n2)) = (OL.choices M s2).map fun c' => ((s1, some o1, n1), c') := by simp [OL.chosen]
          rw [e, List.map_map]
          exact hall.keep ck
    | none =>
      refine iteD rfl ?_
      refine ⟨_, rfl, _, rfl, p, dx, fs, rfl, sl _ _ hob, l1, _, rfl, p, _, M, Tb, (s1, none, n1), rfl, hW.kept (Same.kept sl), ok, hpr.1.1, hx.keep (keep_same sl), fun H2 D1 xs1 z1 f1 e1 a1 => ⟨D1, rfl, ⟨_, .inl (.inl e1)⟩, fun D2 hD2 => ?_⟩⟩
      have lx1 : xs1.length = (OL.choices M s1).length := by rw [a1.len, List.length_map]
      have fw : (OL.choices M s1).length ≤ 4 := by unfold OL.choices; rw [List.length_map, List.length_range]; exact few_opts ok hpr.1.1
      refine lc_walk xs1.length (fun i H' => ∃ acc, H' D2 = some (.lst acc) ∧ Same H2 H' ∧ Ats K H' acc (((OL.choices M s1).take i).map fun c' => kPr (c', (s2, o2, n2)))) ⟨[], upd_same, same_lst (Same.refl H2) hD2, .nil'⟩ (fun i H' hi ⟨_, _, z, _⟩ => itl_go (.inl (.inl (z _ _ e1))) hi) (fun H' ⟨_, _, z, _⟩ => itl_stop (.inl (.inl (z _ _ e1)))) ?_ ?_
      · rintro i x' H4 H5 hi ⟨acc, hacc, z4, hall⟩ ⟨rfl, y'⟩
        have ex := y' _ (.inl (.inl (z4 _ _ e1)))
        obtain ⟨kx, ek, ax⟩ := a1.got ex
        have hic : i < (OL.choices M s1).length := by omega
        rw [List.getElem?_map, List.getElem?_eq_getElem hic] at ek
        cases ek
        refine ⟨rfl, ?_⟩
        refine ⟨_, rfl, _, rfl, (by show 2 ≤ sizeLine; decide), fun p3 hp3 => ?_⟩
        have s3 : Same H5 (upd H5 p3 (.tup [x', .ref cy])) := same_new hp3
        have hlacc : acc.length ≤ i := by rw [hall.len, List.length_map, List.length_take]; omega
        refine ⟨acc, s3 _ _ hacc, small1000 (by omega), _, upd_same, same_lst (z4.trans s3) hD2, ?_⟩
        have kk : Keep K H5 (upd (upd H5 p3 (.tup [x', .ref cy])) D2 (.lst (acc ++ [.ref p3]))) := (keep_same s3).trans (keep_lst (s3 _ _ hacc))
        rw [List.take_add_one, List.getElem?_eq_getElem hic, List.map_append]
        have ax := ax.keep ((keep_same z4).trans kk)
        refine (hall.keep kk).snoc (at_pr.mpr ⟨p3, x', .ref cy, rfl, keep_lst (s3 _ _ hacc) _ _ (.inl (.inl upd_same)), ax, hy.keep ((keep_same (sl.trans (z1.trans z4))).trans kk)⟩)
      · rintro H4 ⟨acc, hacc, z4, hall⟩
        have hall := (show xs1.length = (OL.choices M s1).length from lx1) ▸ hall
        rw [List.take_length] at hall
        have lacc : acc.length ≤ 4 := by rw [hall.len, List.length_map]; exact fw
        have lxs : (([] : List V)).length ≤ 4 := by first | exact Nat.zero_le _ | (rw [((.nil' : Ats K H1 [] (([] : List OL.Pr).map kPr))).len, List.length_map]; exact fw4)
        have zz := sl.trans (z1.trans z4)
        refine ⟨l, D2, _, acc, rfl, rfl, z4 _ _ (z1 _ _ hll), hacc, lenLine (by omega), ?_⟩
        have ck : Keep K H4 (upd H4 l (.lst (([] : List V) ++ acc))) := keep_lst (z4 _ _ (z1 _ _ hll))
        have hall1 : Ats K (upd H4 l (.lst (([] : List V) ++ acc))) (([] : List V) ++ acc) ((OL.choices M s1).map fun c' => kPr (c', (s2, o2, n2))) := hall.keep ck
        have hl1 : upd H4 l (.lst (([] : List V) ++ acc)) l = some (.lst (([] : List V) ++ acc)) := upd_same
        have fw4 : (OL.choices M s1).length ≤ 4 := fw
        have ss : Same H (upd H4 l (.lst (([] : List V) ++ acc))) := same_lst zz hn
        clear ck hall
        generalize upd H4 l (.lst (([] : List V) ++ acc)) = H9 at hall1 hl1 ss ⊢
        generalize (([] : List V) ++ acc) = xf at hall1 hl1 ⊢
        refine ⟨_, rfl, cy, _, _, _, rfl, rfl, keep_same ss _ _ hcy, (atI_nat (j := 1) rfl), rfl, _, rfl, ?_⟩
        cases o2 with
        | some o2 =>
          refine iteDN (by intro z; cases z) ?_
          refine ⟨_, rfl, ?_⟩
          refine q _ l _ ss hn hl1 ?_
          have e : OL.chosen M ((s1, none, n1), (s2, some o2, n2)) = (OL.choices M s1).map fun c' => (c', (s2, some o2, n2)) := by simp [OL.chosen]
          rw [e, List.map_map]
          exact hall1
        | none =>
          refine iteD rfl ?_
          refine ⟨_, rfl, _, rfl, p, dx, fs, rfl, ss _ _ hob, l1, _, rfl, p, _, M, Tb, (s2, none, n2), rfl, hW.kept (Same.kept ss), ok, hpr.2.1, hy.keep (keep_same ss), fun G2 E1 ys1 y1 g1 h1 b1 => ⟨E1, rfl, ⟨_, .inl (.inl h1)⟩, fun E2 hE2 => ?_⟩⟩
          have ly1 : ys1.length = (OL.choices M s2).length := by rw [b1.len, List.length_map]
          have fw5 : (OL.choices M s2).length ≤ 4 := by unfold OL.choices; rw [List.length_map, List.length_range]; exact few_opts ok hpr.2.1
          refine lc_walk ys1.length (fun i H' => ∃ acc, H' E2 = some (.lst acc) ∧ Same G2 H' ∧ Ats K H' acc (((OL.choices M s2).take i).map fun c' => kPr ((s1, none, n1), c'))) ⟨[], upd_same, same_lst (Same.refl G2) hE2, .nil'⟩ (fun i H' hi ⟨_, _, z, _⟩ => itl_go (.inl (.inl (z _ _ h1))) hi) (fun H' ⟨_, _, z, _⟩ => itl_stop (.inl (.inl (z _ _ h1)))) ?_ ?_
          · rintro i x' H4 H5 hi ⟨acc, hacc, z4, hall⟩ ⟨rfl, y'⟩
            have ex := y' _ (.inl (.inl (z4 _ _ h1)))
            obtain ⟨kx, ek, ax⟩ := b1.got ex
            have hic : i < (OL.choices M s2).length := by omega
            rw [List.getElem?_map, List.getElem?_eq_getElem hic] at ek
            cases ek
            refine ⟨rfl, ?_⟩
            refine ⟨_, rfl, _, rfl, (by show 2 ≤ sizeLine; decide), fun p3 hp3 => ?_⟩
            have s3 : Same H5 (upd H5 p3 (.tup [.ref cx, x'])) := same_new hp3
            have hlacc : acc.length ≤ i := by rw [hall.len, List.length_map, List.length_take]; omega
            refine ⟨acc, s3 _ _ hacc, small1000 (by omega), _, upd_same, same_lst (z4.trans s3) hE2, ?_⟩
            have kk : Keep K H5 (upd (upd H5 p3 (.tup [.ref cx, x'])) E2 (.lst (acc ++ [.ref p3]))) := (keep_same s3).trans (keep_lst (s3 _ _ hacc))
            rw [List.take_add_one, List.getElem?_eq_getElem hic, List.map_append]
            have ax := ax.keep ((keep_same z4).trans kk)
            refine (hall.keep kk).snoc (at_pr.mpr ⟨p3, .ref cx, x', rfl, keep_lst (s3 _ _ hacc) _ _ (.inl (.inl upd_same)), hx.keep ((keep_same (ss.trans (y1.trans z4))).trans kk), ax⟩)
          · rintro H4 ⟨acc, hacc, z4, hall⟩
            have hall := (show ys1.length = (OL.choices M s2).length from ly1) ▸ hall
            rw [List.take_length] at hall
            have lacc : acc.length ≤ 4 := by rw [hall.len, List.length_map]; exact fw5
            have lxs : (xf).length ≤ 4 := by first | exact Nat.zero_le _ | (rw [(hall1).len, List.length_map]; exact fw4)
            have zz := ss.trans (y1.trans z4)
            refine ⟨l, E2, _, acc, rfl, rfl, z4 _ _ (y1 _ _ hl1), hacc, lenLine (by omega), ?_⟩
            have ck : Keep K H4 (upd H4 l (.lst (xf ++ acc))) := keep_lst (z4 _ _ (y1 _ _ hl1))
            refine ⟨_, rfl, ?_⟩
            refine q _ l _ (same_lst zz hn) hn upd_same ?_
            have e : OL.chosen M ((s1, none, n1), (s2, none, n2)) = ((OL.choices M s1).map fun c' => (c', (s2, none, n2))) ++ ((OL.choices M s2).map fun c' => ((s1, none, n1), c')) := by simp [OL.chosen]
            rw [e, List.map_append, List.map_map, List.map_map]
            exact (hall1.keep ((keep_same (y1.trans z4)).trans ck)).append (hall.keep ck)
def spWPart (K : Fr) (C : Addr) : Sp := fun vs H Q _ => ∃ (p a : Addr) (u : V) (k : Nat) (M : Mc) (Tb : OL.Tb) (ps : OL.Pr) (ws : Option Str × Option Str), vs = [.ref p, u, .ref a] ∧ IsWalk K C H p M Tb ∧ OL.MOk M ∧ OL.TOk M k Tb ∧ OL.PrOk M Tb ps ∧ At K H u (kPr ps) ∧ SqT K H a [vW ws.1, vW ws.2] ∧
  ∀ r, ((OL.PartAt M ps ws ∧ ∃ i : Int, r = .int i) ∨ (¬ OL.PartAt M ps ws ∧ r = .non)) → Q r H
theorem vW_inj {a b : Option Str} (h : vW a = vW b) : a = b := by
  cases a <;> cases b <;> first | rfl | cases h
  rfl
theorem ok_wpart {f1 : Addr} {d1 : FuncData} (T : Tx K mg C S) (F : FnP K "marks_to_part" "Walk.marks_to_part" sWPart f fd) (G1 : CalM P w K mg base C "marks_to_word" 1 pWMtw (spWMtw K C) f1 d1) : FnOk P w K mg base CX0 2 f fd pWPart (spWPart K C) := by
  refine okN F scWPart (fun vs H Q E h => ?_) (fun cdv A outer s H vs Q E hr h => ?_)
  · obtain ⟨p, a, u, k, M, Tb, ps, ws, rfl, _⟩ := h
    rfl
  · obtain ⟨p, a, u, k, M, Tb, ps, ws, rfl, hW, ok, okT, hps, hu, ha, q⟩ := h
    refine ⟨_, pss_cons (ps_if (pt_cmpR op_eq (pe_ix ix_tup (pv 2) pe_int (fun _ _ => rfl)) (pe_ix ix_tup (pv 2) pe_int (fun _ _ => rfl)) (nomark _)) (pss_one (ps_ret pe_non)) pss_nil)
      (pss_cons (ps_if (pt_cmpR op_notIn_seq pe_non (pv 2) (by rfl)) (pss_one (ps_ret pe_int)) pss_nil)
      (pss_one (ps_ret (pe_calm (pv 0) T.cl G1 hr (pa_cons (pe_ifExp (pt_cmpR op_isN (pe_ix ix_tup (pv 2) pe_int (fun _ _ => rfl)) pe_non (nomark _)) (pe_ix ix_tup (pv 1) pe_int (fun _ _ => rfl)) (pe_ix ix_tup (pv 1) pe_int (fun _ _ => rfl))) pa_nil))))), ?_⟩
    obtain ⟨w1, w2⟩ := ws
    obtain ⟨c, x, y, rfl, hc, hx, hy⟩ := at_pr.mp hu
    have hins : ∃ dx fs, H p = some (.ins C dx fs) ∧ fs.lookup ("marks_to_word" : Str) = none := by
      obtain ⟨d, vm, vt, kvs, ⟨⟨dx, hob⟩, _⟩, _⟩ := hW
      exact ⟨dx, _, hob, rfl⟩
    obtain ⟨dx, fs, hob, l1⟩ := hins
    refine ⟨_, rfl, a, _, _, _, rfl, rfl, ha, rfl, _, rfl, a, _, _, _, rfl, rfl, ha, (atI_nat (j := 1) rfl), (by cases w1 <;> cases w2 <;> rfl), _, rfl, ?_⟩
    by_cases e : w1 = w2
    · refine iteD (by rw [e]) ?_
      exact q _ (.inr ⟨fun z => z.1 e, rfl⟩)
    · refine iteDN (fun z => e (vW_inj z)) ?_
      refine ⟨_, rfl, a, _, rfl, .inr ha, rfl, (by cases w1 <;> cases w2 <;> rfl), ?_⟩
      cases w1 with
      | none =>
        refine ⟨_, rfl, ?_⟩
        refine iteF ?_
        refine ⟨_, rfl, p, dx, fs, rfl, hob, l1, _, rfl, a, _, _, _, rfl, rfl, ha, rfl, rfl, _, rfl, iteD rfl ?_⟩
        refine ⟨_, rfl, c, _, _, _, rfl, rfl, hc, rfl, p, k, _, M, Tb, ps.1, rfl, hW, ok, okT, hps.1, hx, fun r hr' => q r ?_⟩
        rcases hr' with ⟨z, z2⟩ | ⟨z, z2⟩
        · exact .inl ⟨⟨e, .inr (.inl ⟨rfl, z⟩)⟩, z2⟩
        · refine .inr ⟨fun ⟨_, y1⟩ => ?_, z2⟩
          rcases y1 with ⟨y1, _⟩ | ⟨_, y1⟩ | ⟨y1, _⟩
          · exact y1 rfl
          · exact z y1
          · exact y1 rfl
      | some w1 =>
        cases w2 with
        | none =>
          refine ⟨_, rfl, ?_⟩
          refine iteF ?_
          refine ⟨_, rfl, p, dx, fs, rfl, hob, l1, _, rfl, a, _, _, _, rfl, rfl, ha, rfl, rfl, _, rfl, iteDN (by intro z; cases z) ?_⟩
          refine ⟨_, rfl, c, _, _, _, rfl, rfl, hc, (atI_nat (j := 1) rfl), p, k, _, M, Tb, ps.2, rfl, hW, ok, okT, hps.2, hy, fun r hr' => q r ?_⟩
          rcases hr' with ⟨z, z2⟩ | ⟨z, z2⟩
          · exact .inl ⟨⟨e, .inr (.inr ⟨(by intro z; cases z), rfl, z⟩)⟩, z2⟩
          · refine .inr ⟨fun ⟨_, y1⟩ => ?_, z2⟩
            rcases y1 with ⟨_, y1⟩ | ⟨y1, _⟩ | ⟨_, _, y1⟩
            · exact y1 rfl
            · cases y1
            · exact z y1
        | some w2 =>
          refine ⟨_, rfl, ?_⟩
          refine iteT ?_
          exact q _ (.inl ⟨⟨e, .inl ⟨(by intro z; cases z), (by intro z; cases z)⟩⟩, _, rfl⟩)
def spWPlace (K : Fr) (C : Addr) : Sp := fun vs H Q _ => ∃ (p : Addr) (v : V) (k : Nat) (M : Mc) (Tb : OL.Tb) (pl : OL.Pl), vs = [.ref p, v] ∧ IsWalk K C H p M Tb ∧ OL.MOk M ∧ OL.TOk M k Tb ∧ OL.PlOk M Tb pl ∧ At K H v (kPl pl) ∧ Q (.bl true) H
theorem ok_wplace {fN : Addr} {dN : FuncData} (T : Tx K mg C S) (F : FnP K "is_place" "Walk.is_place" sWPlace f fd) (GN : Cal P w K mg base "is_number" 1 pNumber spNumber fN dN [] []) : FnOk P w K mg base CX0 2 f fd pWPlace (spWPlace K C) := by
  refine okN F scWPlace (fun vs H Q E h => ?_) (fun cdv A outer s H vs Q E hr h => ?_)
  · obtain ⟨p, v, k, M, Tb, pl, rfl, _⟩ := h
    rfl
  · obtain ⟨p, v, k, M, Tb, pl, rfl, ⟨d, vm, vt, kvs, W, near⟩, ok, okT, hpl, hv, q⟩ := h
    refine ⟨_, pss_cons (ps_if (PW.pt (pw_or (pt_not (pt_val (pe_is "tuple" (pv 1) T.isi T.tup))) (pw_or (pt_cmpR op_ne (pe_callB call_len (by rfl) T.len boot_len (pa_cons (pv 1) pa_nil)) pe_int (nomark _))
        (pw_or1 (pt_not (pt_val (pe_cal GN hr (pa_cons (pe_ix ix_tup (pv 1) pe_int (fun _ _ => rfl)) (pa_cons pe_int (pa_cons (pe_op op_sub (pe_callB call_len (by rfl) T.len boot_len (pa_cons (pe_fld (pv 0) rfl) pa_nil)) pe_int) pa_nil)))))))))) (pss_one (ps_ret pe_bl)) pss_nil)
      (pss_cons (ps_if (pt_cmpR op_isN (pe_ix ix_tup (pv 1) pe_int (fun _ _ => rfl)) pe_non (nomark _)) (pss_one (ps_ret (pe_cal GN hr (pa_cons (pe_ix ix_tup (pv 1) pe_int (fun _ _ => rfl)) (pa_cons pe_int (pa_cons pe_int pa_nil)))))) pss_nil)
      (pss_cons (ps_if (pt_not (pt_val (pe_cal GN hr (pa_cons (pe_ix ix_tup (pv 1) pe_int (fun _ _ => rfl)) (pa_cons pe_int (pa_cons (pe_op op_sub (pe_callB call_len (by rfl) T.len boot_len (pa_cons (pe_ix ix_tup (pe_fld (pv 0) rfl) (pe_ix ix_tup (pv 1) pe_int (fun _ _ => rfl)) (fun _ _ => rfl)) pa_nil)) pe_int) pa_nil)))))) (pss_one (ps_ret pe_bl)) pss_nil)
      (pss_one (ps_ret (pe_cal GN hr (pa_cons (pe_ix ix_tup (pv 1) pe_int (fun _ _ => rfl)) (pa_cons pe_int (pa_cons (pe_op op_sub (pe_callB call_len (by rfl) T.len boot_len (pa_cons (pe_ix ix_tup (pe_ix ix_tup (pe_fld (pv 0) rfl) (pe_ix ix_tup (pv 1) pe_int (fun _ _ => rfl)) (fun _ _ => rfl)) (pe_ix ix_tup (pv 1) pe_int (fun _ _ => rfl)) (fun _ _ => rfl)) pa_nil)) pe_int) pa_nil)))))))), ?_⟩
    obtain ⟨⟨dx, hob⟩, hm, ht, hd⟩ := id W
    obtain ⟨a, xs, rfl, hs1, hl, hx⟩ := mc_at hm
    obtain ⟨a', xs', rfl, hs', hl', hx'⟩ := tb_at ht
    obtain ⟨c, rfl, hc⟩ := at_pl.mp hv
    obtain ⟨st, op, dn⟩ := pl
    have h1 : st < M.length := hpl.1
    obtain ⟨b, ys, e1, hb, hlen, -⟩ := hx st h1
    obtain ⟨b', ys', e1', hb', hlen', hopt'⟩ := hx' st (by rw [okT.len]; exact h1)
    refine ⟨_, rfl, _, _, true, rfl, tyT hc, (by decide +kernel), _, rfl, iteF ?_⟩
    refine ⟨_, rfl, _, 3, rfl, .inr ⟨_, hc, rfl⟩, rfl, _, rfl, iteF ?_⟩
    refine ⟨_, rfl, c, _, _, _, rfl, rfl, hc, rfl, _, rfl, p, C, dx, _, _, rfl, hob, T.cl, T.nM, gl_m, _, _, rfl, .inr ⟨_, hs1, rfl⟩, _, _, rfl, rfl, _, _, _, rfl, _, rfl, iteNS ⟨by show (0 : Int) ≤ (st : Int); omega, by show (st : Int) ≤ (xs.length : Int) - 1; omega⟩ ?_⟩
    refine ⟨_, rfl, c, _, _, _, rfl, rfl, hc, (atI_nat (j := 1) rfl), rfl, _, rfl, ?_⟩
    cases op with
    | none =>
      have h2 : dn = 0 := hpl.2
      subst h2
      refine iteD rfl ?_
      refine ⟨_, rfl, c, _, _, _, rfl, rfl, hc, (atI_nat (j := 2) rfl), _, _, _, rfl, ?_⟩
      exact q
    | some o =>
      obtain ⟨h2, h3⟩ : o < (OL.opts M st).length ∧ dn < (OL.rowOf Tb st o).length := hpl.2
      obtain ⟨c2, e2', hc2⟩ := hopt' o (by rw [okT.each st h1]; exact h2)
      refine iteDN (by intro z; cases z) ?_
      refine ⟨_, rfl, c, _, _, _, rfl, rfl, hc, (atI_nat (j := 1) rfl), _, rfl, p, C, dx, _, _, rfl, hob, T.cl, T.nM, gl_m, _, rfl, c, _, _, _, rfl, rfl, hc, rfl, a, _, _, _, rfl, rfl, hs1, atI_nat e1, _, _, rfl, .inr ⟨_, hb, rfl⟩, _, _, rfl, rfl, _, _, _, rfl, _, rfl, iteNS ⟨by omega, by show (o : Int) ≤ (ys.length : Int) - 1; omega⟩ ?_⟩
      refine ⟨_, rfl, c, _, _, _, rfl, rfl, hc, (atI_nat (j := 2) rfl), _, rfl, p, C, dx, _, _, rfl, hob, T.cl, T.nT, gl_t, _, rfl, c, _, _, _, rfl, rfl, hc, rfl, a', _, _, _, rfl, rfl, hs', atI_nat e1', _, rfl, c, _, _, _, rfl, rfl, hc, (atI_nat (j := 1) rfl), b', _, _, _, rfl, rfl, hb', atI_nat e2', _, (OL.rowOf Tb st o).length, rfl, .inr ⟨_, hc2, (List.length_map ..).symm⟩, _, _, rfl, rfl, _, _, _, rfl, ?_⟩
      have e : decide ((0 : Int) ≤ (dn : Int) ∧ (dn : Int) ≤ ((OL.rowOf Tb st o).length : Int) - 1) = true := decide_eq_true ⟨by omega, by omega⟩
      show Q (.bl (decide ((0 : Int) ≤ (dn : Int) ∧ (dn : Int) ≤ ((OL.rowOf Tb st o).length : Int) - 1))) H
      rw [e]
      exact q
end
end OLC
end
section
set_option Elab.async false
set_option linter.all false
set_option maxRecDepth 100000
set_option maxHeartbeats 2000000
/-! the order of pairs -/
namespace OLC
open PySem PySem.Spec PyProof.Rows L2 OLT
/-- a place's numbers -/
def ordI : Option Nat → Int
  | none => -1
  | some n => n
def ordPl (p : OL.Pl) : List Int := [p.1, ordI p.2.1, p.2.2]
def ordPr (p : OL.Pr) : List Int := ordPl p.1 ++ ordPl p.2
section
variable {P : Program} {w : World} {K : Fr} {mg : Str → Option Value} {base : Heap} {C S f : Addr} {fd : FuncData}
def spOrder (K : Fr) : Sp := fun vs H Q _ => ∃ (v : V) (pr : OL.Pr), vs = [v] ∧ At K H v (kPr pr) ∧ ∀ (H' : Hp) (D : Addr), Same H H' → H D = none → H' D = some (.tup ((ordPr pr).map V.int)) → Q (.ref D) H'
theorem ok_order (T : Tx K mg C S) (F : FnP K "order_of" "order_of" sOrder f fd) : FnOk P w K mg base CX0 1 f fd pOrder (spOrder K) := by
  refine okN F scOrder (fun vs H Q E h => ?_) (fun cdv A outer s H vs Q E hr h => ?_)
  · obtain ⟨v, pr, rfl, _⟩ := h
    rfl
  · obtain ⟨v, pr, rfl, hv, q⟩ := h
    refine ⟨_, pss_one (ps_ret (pe_callTy call_tuple_of (by rfl) T.tup (by decide +kernel) (pa_cons (pe_lc2 (own := [("place", 1), ("part", 2)]) (vs1 := [2]) (g := gName 1) (g1 := gName 2) rfl scOrder.nd (pi_tup (pv 0)) (blkOk_by (N := nOrder) (sc := defScope sOrder) (by decide +kernel)) (by decide)
      (fun _ _ _ _ _ => pg_name (i := 1) scOrder.nd rfl (Or.inl rfl)) (fun _ _ _ _ _ => pts_nil) (fun _ _ _ _ _ => pi_tupK (K := K) (pv 1)) (fun _ _ _ _ _ => pg_name (i := 2) scOrder.nd rfl (Or.inl rfl)) (fun _ _ _ _ _ => pts_nil)
      (fun _ _ _ _ _ => pe_ifExp (pt_cmpR op_isN (pv 2) pe_non (nomark _)) (pe_un un_neg pe_int) (pv 2))) pa_nil))), ?_⟩
    obtain ⟨c, x, y, rfl, hc, hx, hy⟩ := at_pr.mp hv
    refine ⟨_, rfl, c, rfl, ⟨_, hc⟩, fun D hD => ?_⟩
    have items : ∀ (i : Nat) (x' : V), [x, y][i]? = some x' → ∃ (pl : OL.Pl) (a : Addr), [pr.1, pr.2][i]? = some pl ∧ x' = V.ref a ∧ SqT K H a [.int pl.1, vN pl.2.1, .int pl.2.2] := fun i x' e => by
      match i, e with
      | 0, e =>
        cases e
        obtain ⟨a, rfl, ha⟩ := at_pl.mp hx
        exact ⟨pr.1, a, rfl, rfl, ha⟩
      | 1, e =>
        cases e
        obtain ⟨a, rfl, ha⟩ := at_pl.mp hy
        exact ⟨pr.2, a, rfl, rfl, ha⟩
      | n + 2, e => cases e
    have kD : ∀ o, Keep K H (upd H D o) := fun o => keep_same (same_new hD)
    refine walkG 2 (fun i H' => H' = upd H D (.lst ((([pr.1, pr.2].take i).flatMap ordPl).map V.int))) rfl (fun i H' hi e => itt_go (K := K) (a := c) (xs := [x, y]) (by rw [e]; exact kD _ _ _ hc) hi) (fun H' e => itt_stop (K := K) (a := c) (xs := [x, y]) (by rw [e]; exact kD _ _ _ hc)) ?_ ?_
    · rintro i x' H1 H2 hi e ⟨rfl, y'⟩
      subst e
      obtain ⟨pl, a, ep, rfl, ha⟩ := items i x' (y' _ (kD _ _ _ hc))
      refine ⟨rfl, ?_⟩
      refine ⟨_, rfl, a, rfl, ⟨_, kD _ _ _ ha⟩, ?_⟩
      refine walkG 3 (fun j H' => H' = upd H D (.lst ((([pr.1, pr.2].take i).flatMap ordPl ++ (ordPl pl).take j).map V.int))) (by simp) (fun j H' hj e => itt_go (K := K) (a := a) (xs := [.int pl.1, vN pl.2.1, .int pl.2.2]) (by rw [e]; exact kD _ _ _ ha) hj) (fun H' e => itt_stop (K := K) (a := a) (xs := [.int pl.1, vN pl.2.1, .int pl.2.2]) (by rw [e]; exact kD _ _ _ ha)) ?_ ?_
      · rintro j x'' H1 H2 hj e ⟨rfl, y''⟩
        subst e
        have ex := y'' _ (kD _ _ _ ha)
        refine ⟨rfl, ?_⟩
        refine ⟨_, rfl, rfl, _, rfl, ?_⟩
        have fin : ∀ z : Int, (ordPl pl)[j]? = some z → ∃ acc, upd H D (.lst ((([pr.1, pr.2].take i).flatMap ordPl ++ (ordPl pl).take j).map V.int)) D = some (.lst acc) ∧ acc.length < sizeLine ∧
            upd (upd H D (.lst ((([pr.1, pr.2].take i).flatMap ordPl ++ (ordPl pl).take j).map V.int))) D (.lst (acc ++ [.int z])) = upd H D (.lst ((([pr.1, pr.2].take i).flatMap ordPl ++ (ordPl pl).take (j + 1)).map V.int)) := fun z hz => by
          refine ⟨_, upd_same, small1000 ?_, ?_⟩
          · rw [List.length_map, List.length_append, List.length_take]
            have h1 : (([pr.1, pr.2].take i).flatMap ordPl).length ≤ ([pr.1, pr.2].take i).length * 3 := OL.flat_len _ _ _ fun x _ => Nat.le_refl _
            rw [List.length_take] at h1
            have : min i [pr.1, pr.2].length ≤ 2 := Nat.min_le_right _ _
            have : (ordPl pl).length = 3 := rfl
            omega
          · rw [upd_upd, List.take_add_one, hz]
            simp
        clear hj y''
        match j, ex, fin with
        | 0, ex, fin =>
          cases ex
          refine iteDN (by intro z; cases z) ?_
          exact ⟨_, rfl, fin _ rfl⟩
        | 1, ex, fin =>
          cases ex
          obtain ⟨s', o', n'⟩ := pl
          cases o' with
          | none =>
            refine iteD rfl ?_
            exact ⟨_, rfl, fin (-1) rfl⟩
          | some o' =>
            refine iteDN (by intro z; cases z) ?_
            exact ⟨_, rfl, fin _ rfl⟩
        | 2, ex, fin =>
          cases ex
          refine iteDN (by intro z; cases z) ?_
          exact ⟨_, rfl, fin _ rfl⟩
        | n + 3, ex, fin => cases ex
      · rintro H1 rfl
        have e3 : (ordPl pl).take 3 = ordPl pl := rfl
        have e4 : [pr.1, pr.2].take (i + 1) = [pr.1, pr.2].take i ++ [pl] := by rw [List.take_add_one, ep]; rfl
        rw [e3, e4]
        simp
    · rintro H1 rfl
      refine ⟨D, _, rfl, .inl ⟨.inl (.inl upd_same), fun l hl => ?_⟩⟩
      have nl : l ≠ D := fun z => by rw [z, upd_same] at hl; cases hl
      refine q _ l ((same_new hD).trans (same_new hl)) (by rw [upd_ne nl] at hl; exact hl) ?_
      rw [upd_same]
      simp [ordPr]
end
end OLC
end
section
set_option Elab.async false
set_option linter.all false
set_option maxRecDepth 100000
set_option maxHeartbeats 2000000
/-! the search of the package: paper_of -/
namespace OLC
open PySem PySem.Spec PyProof.Rows L2 OLT
/-- a dict with these keys, and the rest of the heap behind a new one -/
theorem seen_at {K : Fr} {P : Program} {w : World} {H : Hp} {B : Addr} {ks : List NestedKey} (h : ND.SeenAt K P w H B ks) : ∃ o, H B = some o ∧ (∀ xs, o ≠ .tup xs) ∧ ∀ q u, o ≠ .frz q u := by
  obtain ⟨xs, h1, h2, h3, h4, h5, h6⟩ := h
  exact ⟨_, h5, (fun _ z => by cases z), fun _ _ z => by cases z⟩
theorem seen_keep {K : Fr} {P : Program} {w : World} {H H' : Hp} {B : Addr} {ks : List NestedKey} (h : ND.SeenAt K P w H B ks) (e : ∀ b, b ≠ B → H' b = H b) : Keep K H H' := by
  obtain ⟨o, h1, h2, h3⟩ := seen_at h
  exact But.tup' h1 h2 h3 fun b u n z => by rw [e b n]; exact z
theorem SeenKept {K : Fr} {P : Program} {w : World} {H H' : Hp} {B : Addr} {ks : List NestedKey} (h : ND.SeenAt K P w H B ks) (e : Same H H') : ND.SeenAt K P w H' B ks := by
  obtain ⟨o, h1, h2, h3⟩ := seen_at h
  exact h.same (by rw [h1]; exact e _ _ h1) (keep_same e)
section
variable {P : Program} {w : World} {K : Fr} {mg : Str → Option Value} {base : Heap} {C S f : Addr} {fd : FuncData}
/-- the two tables of the search -/
structure F6 (K : Fr) (P : Program) (w : World) (H : Hp) (A B : Addr) (l : List OL.Pr) (H' : Hp) : Prop where
  same : Same H H'
  found : ∃ xs, H' A = some (.lst xs) ∧ Ats K H' xs (l.map kPr)
  seen : ND.SeenAt K P w H' B (l.map kPr)
  nA : H A = none
  nB : H B = none
  ne : A ≠ B
theorem F6.go {H : Hp} {A B : Addr} {l : List OL.Pr} {H' H'' : Hp} (h : F6 K P w H A B l H') (e : Same H' H'') : F6 K P w H A B l H'' := by
  obtain ⟨h1, ⟨xs, h2, h3⟩, h4, h5, h6, h7⟩ := h
  exact ⟨h1.trans e, ⟨xs, e _ _ h2, h3.keep (keep_same e)⟩, SeenKept h4 e, h5, h6, h7⟩
def PaperRes (K : Fr) (H : Hp) (M : Mc) (Tb : OL.Tb) (r : V) (H' : Hp) : Prop :=
  (OL.Paper M Tb none ∧ r = .non) ∨ ∃ A xs l, OL.Paper M Tb (some l) ∧ r = .ref A ∧ H A = none ∧ H' A = some (.lst xs) ∧ Ats K H' xs (l.map kPr)
def spPaperOf (K : Fr) (C : Addr) : Sp := fun vs H Q _ => ∃ (p : Addr) (k : Nat) (M : Mc) (Tb : OL.Tb), vs = [.ref p] ∧ IsWalk K C H p M Tb ∧ OL.MOk M ∧ OL.TOk M k Tb ∧ ∀ (r : V) (H' : Hp), Same H H' → PaperRes K H M Tb r H' → Q r H'
theorem ok_paperof {f1 f2 f3 : Addr} {d1 d2 d3 : FuncData} (T : Tx K mg C S) (F : FnP K "paper_of" "paper_of" sPaperOf f fd) (G1 : CalM P w K mg base C "together" 2 pWTog (spWTog K C) f1 d1) (G2 : CalM P w K mg base C "chosen" 2 pWChosen (spWChosen K C) f2 d2) (G3 : CalM P w K mg base C "marks_to_part" 2 pWPart (spWPart K C) f3 d3) :
    FnOk P w K mg base CX0 3 f fd pPaperOf (spPaperOf K C) := by
  refine okN F scPaperOf (fun vs H Q E h => ?_) (fun cdv A0 outer s H vs Q E hr h => ?_)
  · obtain ⟨p, k, M, Tb, rfl, _⟩ := h
    rfl
  · obtain ⟨p, k, M, Tb, rfl, hW, ok, okT, q⟩ := h
    have hu := hr.units
    refine ⟨_, pss_cons (ps_par3 (i := 1) (j := 2) (l := 3) (by rfl) scPaperOf.nd rfl rfl rfl (by decide) (by decide) (by decide) rfl rfl rfl (pa_cons (pe_lst (pa_cons (pe_glob (v := .ref S) rfl T.start rfl) pa_nil)) (pa_cons (ND.pe_disp1 hu (pe_glob (v := .ref S) rfl T.start rfl) pe_bl) (pa_cons pe_int pa_nil))) (by rfl))
      (pss_cons (ps_while PassesOwn.never (pt_cmpR op_lt (pv 3) (pe_callB call_len (by rfl) T.len boot_len (pa_cons (pv 1) pa_nil)) (nomark _))
        (pss_cons (ps_set (i := 4) scPaperOf.nd rfl (.inl rfl) (pe_ix ix_list (pv 1) (pv 3) (fun _ _ => rfl)))
        (pss_cons (ps_aug (i := 3) scPaperOf.nd rfl (.inl rfl) pe_int ip_add)
        (pss_cons (ps_asg (pe_calm (pv 0) T.cl G1 hr (pa_cons (pv 4) pa_nil)) (pg_tup rfl (pgs_cons (pg_name (i := 5) scPaperOf.nd rfl (.inl rfl)) (pgs_cons (pg_name (i := 6) scPaperOf.nd rfl (.inl rfl)) (pgs_cons (pg_name (i := 7) scPaperOf.nd rfl (.inl rfl)) pgs_nil)))))
        (pss_cons (ps_set (i := 8) scPaperOf.nd rfl (.inl rfl) (pe_calm (pv 0) T.cl G2 hr (pa_cons (pv 4) pa_nil)))
        (pss_cons (ps_if (pt_val (pv 5))
          (pss_cons (ps_if (pt_cmpR op_notN (pe_calm (pv 0) T.cl G3 hr (pa_cons (pv 6) (pa_cons (pv 7) pa_nil))) pe_non (nomark _)) (pss_one (ps_ret pe_non)) pss_nil)
          (pss_one (ps_if (pt_cmpR op_eq (pe_ix ix_tup (pv 7) pe_int (fun _ _ => rfl)) (pe_ix ix_tup (pv 7) pe_int (fun _ _ => rfl)) (nomark _)) (pss_one (ps_expr (pe_bm PySem.F.plainAttrs_list PySem.F.slot_list_append PySem.F.type_list_append mt_append (pv 8) (pa_cons (pv 6) pa_nil)))) pss_nil))) pss_nil)
        (pss_one (ps_for PassesOwn.never rfl (pi_list (pv 8)) (pg_name (i := 9) scPaperOf.nd rfl (Or.inl rfl))
          (pss_one (ps_if (pt_cmpR (ND.op_notInN hu) (pv 9) (pv 2) (by rfl)) (pss_cons (ND.ps_dputN hu (pv 2) (pv 9) pe_bl) (pss_one (ps_expr (pe_bm PySem.F.plainAttrs_list PySem.F.slot_list_append PySem.F.type_list_append mt_append (pv 1) (pa_cons (pv 9) pa_nil))))) pss_nil))))))))))
      (pss_one (ps_ret (pv 1)))), ?_⟩
    have hS0 := T.startAt
    refine ⟨Nat.succ_le_of_lt (by decide), fun A hA B hB => ?_⟩
    refine ⟨S, kPr OL.START, rfl, rfl, upd_same, hS0 _, kPr_depth _, fun H1 seen1 rest1 => ⟨_, _, _, rfl, ?_⟩⟩
    have nAB : A ≠ B := fun z => by rw [← z, upd_same] at hB; cases hB
    have hBn : H B = none := by rw [upd_ne nAB.symm] at hB; exact hB
    have s0 : Same H H1 := fun b o e => by
      rw [rest1 b (ne_of_none e hBn), upd_ne (ne_of_none e hBn), upd_ne (ne_of_none e hA)]
      exact e
    have f0 : F6 K P w H A B [OL.START] H1 := ⟨s0, ⟨[.ref S], by rw [rest1 A nAB, upd_ne nAB, upd_same], .cons' (hS0 _) .nil'⟩, seen1, hA, hBn, nAB⟩
    refine ⟨fun m σ H' => ∃ l n x4 x5 x6 x7 x8 x9, m + n = 2705 ∧ σ = [some (.ref p), some (.ref A), some (.ref B), some (.int (n : Nat)), x4, x5, x6, x7, x8, x9] ∧ F6 K P w H A B l H' ∧ OL.Bfs M Tb l n,
      ⟨2705, [OL.START], 0, _, _, _, _, _, _, rfl, rfl, f0, .start0⟩, ?_⟩
    rintro m σ H2 ⟨l, n, x4, x5, x6, x7, x8, x9, hmn, rfl, f2, bfs⟩
    have few := bfs.few ok okT
    obtain ⟨xs, hA2, hxs⟩ := f2.found
    have lxs : xs.length = l.length := by rw [hxs.len, List.length_map]
    refine ⟨_, rfl, _, rfl, _, _, rfl, .inl ⟨_, .inl (.inl hA2), rfl⟩, _, _, rfl, rfl, _, rfl, ?_⟩
    by_cases hlt : n < l.length
    · refine iteD (by omega) ?_
      refine ⟨fun σ' H' => ∃ m', m' < m ∧ ∃ l n x4 x5 x6 x7 x8 x9, m' + n = 2705 ∧ σ' = [some (.ref p), some (.ref A), some (.ref B), some (.int (n : Nat)), x4, x5, x6, x7, x8, x9] ∧ F6 K P w H A B l H' ∧ OL.Bfs M Tb l n, fun _ _ z => z, ?_⟩
      have hp : l[n]? = some l[n] := List.getElem?_eq_getElem hlt
      generalize l[n] = pr at hp
      have hreach := bfs.reach pr (List.mem_of_getElem? hp)
      have hpr := OL.reach_ok ok okT hreach
      obtain ⟨v, ev, hv⟩ := hxs.get (i := n) (k := kPr pr) (by rw [List.getElem?_map, hp]; rfl)
      refine ⟨_, rfl, _, rfl, A, _, _, _, rfl, rfl, .inl (.inl hA2), atI_nat ev, ?_⟩
      refine ⟨_, rfl, _, _, rfl, rfl, ?_⟩
      have hins : ∃ dx fs, H p = some (.ins C dx fs) ∧ fs.lookup ("together" : Str) = none ∧ fs.lookup ("chosen" : Str) = none ∧ fs.lookup ("marks_to_part" : Str) = none := by
        obtain ⟨d, vm, vt, kvs, ⟨⟨dx, hob⟩, _⟩, _⟩ := hW
        exact ⟨dx, _, hob, rfl, rfl, rfl⟩
      obtain ⟨dx, fs, hob, l1, l2, l3⟩ := hins
      refine ⟨_, rfl, p, dx, fs, rfl, f2.same _ _ hob, l1, _, rfl, p, k, v, M, Tb, pr, rfl, hW.kept (Same.kept f2.same), ok, okT, hpr, hv, fun H3 D3 z3 tog => ?_⟩
      have f3 := f2.go z3
      have hv3 := hv.keep (keep_same z3)
      have after : ∀ u1 u2 u3, SqT K H3 D3 [u1, u2, u3] → ∃ a xs', V.ref D3 = V.ref a ∧ SqT K H3 a xs' ∧ xs'.length = 3 ∧ xs' = [u1, u2, u3] := fun u1 u2 u3 z => ⟨D3, _, rfl, z, rfl, rfl⟩
      rcases tog with ⟨et, hD3⟩ | ⟨ps, ws, u, a, et, hD3, hu3, ha3⟩
      · refine ⟨D3, _, rfl, hD3, rfl, _, _, rfl, _, _, rfl, _, _, rfl, rfl, ?_⟩
        refine ⟨_, rfl, p, dx, fs, rfl, f3.same _ _ hob, l2, _, rfl, p, _, M, Tb, pr, rfl, hW.kept (Same.kept f3.same), ok, hpr, hv3, fun H4 D ys z4 hDn hD hys => ?_⟩
        have f4 := f3.go z4
        refine ⟨_, rfl, _, rfl, iteF ?_⟩
        have hbad : ¬ OL.Bad M Tb pr := OL.not_bad_none et
        have es : OL.sucs M Tb pr = OL.chosen M pr := by unfold OL.sucs OL.last1; rw [et]; simp
        rw [← es] at hys
        have nDA4 : A ≠ D := by obtain ⟨_, e, _⟩ := f3.found; exact ne_of_none e hDn
        have nDB4 : B ≠ D := by obtain ⟨o, e, _⟩ := seen_at f3.seen; exact ne_of_none e hDn
        have fewm := OL.sucs_few ok hpr
        have lym : ys.length = (OL.sucs M Tb pr).length := by rw [hys.len, List.length_map]
        refine ⟨_, rfl, D, rfl, ⟨_, .inl (.inl hD)⟩, for_walk ys.length (fun j σ H' => ∃ y9, σ = [some (.ref p), some (.ref A), some (.ref B), some (.int ((n : Nat) + 1 : Int)), some v, _, _, _, some (.ref D), y9] ∧ F6 K P w H A B (OL.addNew l ((OL.sucs M Tb pr).take j)) H' ∧ H' D = some (.lst ys) ∧ Ats K H' ys ((OL.sucs M Tb pr).map kPr))
          ⟨_, rfl, f4, hD, hys⟩ (fun j σ H' hj ⟨_, _, _, e, _⟩ => itl_go (.inl (.inl e)) hj) (fun σ H' ⟨_, _, _, e, _⟩ => itl_stop (.inl (.inl e))) ?_ ?_⟩
        · rintro j x σ H6 H7 hj ⟨y9, rfl, f6, hD6, hys6⟩ ⟨rfl, y'⟩
          have ex := y' _ (.inl (.inl hD6))
          have hjm : j < (OL.sucs M Tb pr).length := by omega
          have hq : (OL.sucs M Tb pr)[j]? = some (OL.sucs M Tb pr)[j] := List.getElem?_eq_getElem hjm
          generalize (OL.sucs M Tb pr)[j] = qq at hq
          obtain ⟨kx, ek, ax⟩ := hys6.got ex
          rw [List.getElem?_map, hq] at ek
          cases ek
          obtain ⟨c, _, _, rfl, _⟩ := at_pr.mp ax
          have etk : OL.addNew l ((OL.sucs M Tb pr).take (j + 1)) = if qq ∈ OL.addNew l ((OL.sucs M Tb pr).take j) then OL.addNew l ((OL.sucs M Tb pr).take j) else OL.addNew l ((OL.sucs M Tb pr).take j) ++ [qq] := by
            rw [List.take_add_one, hq]
            exact OL.add_snoc _ _ _
          have l6 : (OL.addNew l ((OL.sucs M Tb pr).take j)).length ≤ l.length + 9 := by
            obtain ⟨e, he, _, hl⟩ := OL.add_pre ((OL.sucs M Tb pr).take j) l
            rw [he, List.length_append]
            rw [List.length_take] at hl
            omega
          refine ⟨_, rfl, _, rfl, c, B, kPr qq, _, rfl, rfl, ax, kPr_depth _, f6.seen, _, rfl, ?_⟩
          by_cases hin : qq ∈ OL.addNew l ((OL.sucs M Tb pr).take j)
          · rw [if_pos hin] at etk
            have e1 : decide (kPr qq ∈ (OL.addNew l ((OL.sucs M Tb pr).take j)).map kPr) = true := decide_eq_true (kPr_mem.mpr hin)
            rw [e1]
            refine iteF ?_
            refine ⟨_, rfl, ?_, hD6, hys6⟩
            rw [etk]
            exact f6
          · rw [if_neg hin] at etk
            have e1 : decide (kPr qq ∈ (OL.addNew l ((OL.sucs M Tb pr).take j)).map kPr) = false := decide_eq_false (fun z => hin (kPr_mem.mp z))
            rw [e1]
            refine iteT ?_
            obtain ⟨g1, ⟨xs6, hA6, hx6⟩, g4, g5, g6, g7⟩ := f6
            refine ⟨_, rfl, _, rfl, B, c, kPr qq, _, rfl, rfl, rfl, ax, kPr_depth _, g4, (fun z => hin (kPr_mem.mp z)), Nat.lt_of_le_of_lt (by rw [List.length_map]; exact l6) (Nat.lt_of_le_of_lt (show l.length + 9 ≤ 2713 by omega) (by decide)), fun H8 seen8 rest8 => ?_⟩
            have k8 := seen_keep g4 rest8
            have hA8 : H8 A = some (.lst xs6) := by rw [rest8 A g7]; exact hA6
            have lx6 : xs6.length ≤ 2713 := by rw [hx6.len, List.length_map]; omega
            refine ⟨_, rfl, .inl ⟨rfl, _, .inl (.inl hA8)⟩, _, rfl, A, xs6, _, rfl, rfl, hA8, Nat.lt_of_le_of_lt lx6 (by decide), ?_⟩
            have kA : Keep K H8 (upd H8 A (.lst (xs6 ++ [.ref c]))) := keep_lst hA8
            have ss8 : Same H H8 := fun b o e => by rw [rest8 b (ne_of_none e g6)]; exact g1 b o e
            refine ⟨_, rfl, ?_, by rw [upd_ne nDA4.symm, rest8 D nDB4.symm]; exact hD6, hys6.keep (k8.trans kA)⟩
            rw [etk]
            refine ⟨same_lst ss8 g5, ⟨_, upd_same, ?_⟩, ?_, g5, g6, g7⟩
            · rw [List.map_append]
              exact (hx6.keep (k8.trans kA)).snoc (ax.keep (k8.trans kA))
            · rw [List.map_append]
              exact seen8.same (upd_ne g7.symm) kA
        · rintro σ H6 ⟨y9, rfl, f6, _, _⟩
          rw [lym, List.take_length] at f6
          exact ⟨m - 1, by omega, _, n + 1, _, _, _, _, _, _, by omega, rfl, f6, bfs.step hp hbad⟩
      · refine ⟨D3, _, rfl, hD3, rfl, _, _, rfl, _, _, rfl, _, _, rfl, rfl, ?_⟩
        refine ⟨_, rfl, p, dx, fs, rfl, f3.same _ _ hob, l2, _, rfl, p, _, M, Tb, pr, rfl, hW.kept (Same.kept f3.same), ok, hpr, hv3, fun H4 D ys z4 hDn hD hys => ?_⟩
        have f4 := f3.go z4
        have hu4 := hu3.keep (keep_same z4)
        have ha4 := keep_same z4 _ _ ha3
        have hps : OL.PrOk M Tb ps := by
          obtain ⟨s1, o1, n1, s2, o2, n2, e0, _, e1, _⟩ := OL.together_some et
          subst e0
          rw [e1]
          exact ⟨OL.goneOn_ok ok hpr.1, OL.goneOn_ok ok hpr.2⟩
        refine ⟨_, rfl, _, rfl, iteT ?_⟩
        refine ⟨_, rfl, p, dx, fs, rfl, f4.same _ _ hob, l3, _, rfl, _, rfl, p, a, u, k, M, Tb, ps, ws, rfl, hW.kept (Same.kept f4.same), ok, okT, hps, hu4, ha4, fun r hr' => ?_⟩
        rcases hr' with ⟨hpart, i, rfl⟩ | ⟨hpart, rfl⟩
        · refine ⟨rfl, _, rfl, iteN (by intro z; cases z) ?_⟩
          exact q _ _ f4.same (.inl ⟨OL.paper_none hreach ((OL.bad_some et).mpr hpart), rfl⟩)
        · refine ⟨rfl, _, rfl, iteNS rfl ?_⟩
          have hbad : ¬ OL.Bad M Tb pr := fun z => hpart ((OL.bad_some et).mp z)
          obtain ⟨w1, w2⟩ := ws
          refine ⟨_, rfl, a, _, _, _, rfl, rfl, ha4, rfl, _, rfl, a, _, _, _, rfl, rfl, ha4, (atI_nat (j := 1) rfl), (by cases w1 <;> cases w2 <;> rfl), _, rfl, ?_⟩
          by_cases hw : w1 = w2
          · refine iteD (by rw [hw]) ?_
            have lys : ys.length ≤ 8 := by rw [hys.len, List.length_map]; exact OL.chosen_few ok hpr
            refine ⟨_, rfl, .inl ⟨rfl, _, .inl (.inl hD)⟩, _, rfl, D, ys, _, rfl, rfl, hD, small1000 (by omega), ?_⟩
            have nDH : H D = none := f3.same.free hDn
            have nDA : A ≠ D := by obtain ⟨_, e, _⟩ := f3.found; exact ne_of_none e hDn
            have nDB : B ≠ D := by obtain ⟨o, e, _⟩ := seen_at f3.seen; exact ne_of_none e hDn
            have kD : Keep K H4 (upd H4 D (.lst (ys ++ [u]))) := keep_lst hD
            have f5 : F6 K P w H A B l (upd H4 D (.lst (ys ++ [u]))) := by
              obtain ⟨h1, ⟨xs, h2, h3⟩, h4, h5, h6, h7⟩ := f4
              exact ⟨same_lst h1 nDH, ⟨xs, by rw [upd_ne nDA]; exact h2, h3.keep kD⟩, h4.same (upd_ne nDB) kD, h5, h6, h7⟩
            have es : OL.sucs M Tb pr = OL.chosen M pr ++ [ps] := by unfold OL.sucs OL.last1; rw [et]; simp [hw]
            have hys5 : Ats K (upd H4 D (.lst (ys ++ [u]))) (ys ++ [u]) ((OL.sucs M Tb pr).map kPr) := by
              rw [es, List.map_append]
              exact (hys.keep kD).snoc (hu4.keep kD)
            have hD5 : upd H4 D (.lst (ys ++ [u])) D = some (.lst (ys ++ [u])) := upd_same
            clear f4 hys hD
            generalize upd H4 D (.lst (ys ++ [u])) = H5 at f5 hys5 hD5 ⊢
            generalize ys ++ [u] = ys5 at hys5 hD5 ⊢
            have nDA4 : A ≠ D := by obtain ⟨_, e, _⟩ := f3.found; exact ne_of_none e hDn
            have nDB4 : B ≠ D := by obtain ⟨o, e, _⟩ := seen_at f3.seen; exact ne_of_none e hDn
            have fewm := OL.sucs_few ok hpr
            have lym : ys5.length = (OL.sucs M Tb pr).length := by rw [hys5.len, List.length_map]
            refine ⟨_, rfl, D, rfl, ⟨_, .inl (.inl hD5)⟩, for_walk ys5.length (fun j σ H' => ∃ y9, σ = [some (.ref p), some (.ref A), some (.ref B), some (.int ((n : Nat) + 1 : Int)), some v, _, _, _, some (.ref D), y9] ∧ F6 K P w H A B (OL.addNew l ((OL.sucs M Tb pr).take j)) H' ∧ H' D = some (.lst ys5) ∧ Ats K H' ys5 ((OL.sucs M Tb pr).map kPr))
              ⟨_, rfl, f5, hD5, hys5⟩ (fun j σ H' hj ⟨_, _, _, e, _⟩ => itl_go (.inl (.inl e)) hj) (fun σ H' ⟨_, _, _, e, _⟩ => itl_stop (.inl (.inl e))) ?_ ?_⟩
            · rintro j x σ H6 H7 hj ⟨y9, rfl, f6, hD6, hys6⟩ ⟨rfl, y'⟩
              have ex := y' _ (.inl (.inl hD6))
              have hjm : j < (OL.sucs M Tb pr).length := by omega
              have hq : (OL.sucs M Tb pr)[j]? = some (OL.sucs M Tb pr)[j] := List.getElem?_eq_getElem hjm
              generalize (OL.sucs M Tb pr)[j] = qq at hq
              obtain ⟨kx, ek, ax⟩ := hys6.got ex
              rw [List.getElem?_map, hq] at ek
              cases ek
              obtain ⟨c, _, _, rfl, _⟩ := at_pr.mp ax
              have etk : OL.addNew l ((OL.sucs M Tb pr).take (j + 1)) = if qq ∈ OL.addNew l ((OL.sucs M Tb pr).take j) then OL.addNew l ((OL.sucs M Tb pr).take j) else OL.addNew l ((OL.sucs M Tb pr).take j) ++ [qq] := by
                rw [List.take_add_one, hq]
                exact OL.add_snoc _ _ _
              have l6 : (OL.addNew l ((OL.sucs M Tb pr).take j)).length ≤ l.length + 9 := by
                obtain ⟨e, he, _, hl⟩ := OL.add_pre ((OL.sucs M Tb pr).take j) l
                rw [he, List.length_append]
                rw [List.length_take] at hl
                omega
              refine ⟨_, rfl, _, rfl, c, B, kPr qq, _, rfl, rfl, ax, kPr_depth _, f6.seen, _, rfl, ?_⟩
              by_cases hin : qq ∈ OL.addNew l ((OL.sucs M Tb pr).take j)
              · rw [if_pos hin] at etk
                have e1 : decide (kPr qq ∈ (OL.addNew l ((OL.sucs M Tb pr).take j)).map kPr) = true := decide_eq_true (kPr_mem.mpr hin)
                rw [e1]
                refine iteF ?_
                refine ⟨_, rfl, ?_, hD6, hys6⟩
                rw [etk]
                exact f6
              · rw [if_neg hin] at etk
                have e1 : decide (kPr qq ∈ (OL.addNew l ((OL.sucs M Tb pr).take j)).map kPr) = false := decide_eq_false (fun z => hin (kPr_mem.mp z))
                rw [e1]
                refine iteT ?_
                obtain ⟨g1, ⟨xs6, hA6, hx6⟩, g4, g5, g6, g7⟩ := f6
                refine ⟨_, rfl, _, rfl, B, c, kPr qq, _, rfl, rfl, rfl, ax, kPr_depth _, g4, (fun z => hin (kPr_mem.mp z)), Nat.lt_of_le_of_lt (by rw [List.length_map]; exact l6) (Nat.lt_of_le_of_lt (show l.length + 9 ≤ 2713 by omega) (by decide)), fun H8 seen8 rest8 => ?_⟩
                have k8 := seen_keep g4 rest8
                have hA8 : H8 A = some (.lst xs6) := by rw [rest8 A g7]; exact hA6
                have lx6 : xs6.length ≤ 2713 := by rw [hx6.len, List.length_map]; omega
                refine ⟨_, rfl, .inl ⟨rfl, _, .inl (.inl hA8)⟩, _, rfl, A, xs6, _, rfl, rfl, hA8, Nat.lt_of_le_of_lt lx6 (by decide), ?_⟩
                have kA : Keep K H8 (upd H8 A (.lst (xs6 ++ [.ref c]))) := keep_lst hA8
                have ss8 : Same H H8 := fun b o e => by rw [rest8 b (ne_of_none e g6)]; exact g1 b o e
                refine ⟨_, rfl, ?_, by rw [upd_ne nDA4.symm, rest8 D nDB4.symm]; exact hD6, hys6.keep (k8.trans kA)⟩
                rw [etk]
                refine ⟨same_lst ss8 g5, ⟨_, upd_same, ?_⟩, ?_, g5, g6, g7⟩
                · rw [List.map_append]
                  exact (hx6.keep (k8.trans kA)).snoc (ax.keep (k8.trans kA))
                · rw [List.map_append]
                  exact seen8.same (upd_ne g7.symm) kA
            · rintro σ H6 ⟨y9, rfl, f6, _, _⟩
              rw [lym, List.take_length] at f6
              exact ⟨m - 1, by omega, _, n + 1, _, _, _, _, _, _, by omega, rfl, f6, bfs.step hp hbad⟩
          · refine iteDN (fun z => hw (vW_inj z)) ?_
            have es : OL.sucs M Tb pr = OL.chosen M pr := by unfold OL.sucs OL.last1; rw [et]; simp [hw]
            rw [← es] at hys
            have nDA4 : A ≠ D := by obtain ⟨_, e, _⟩ := f3.found; exact ne_of_none e hDn
            have nDB4 : B ≠ D := by obtain ⟨o, e, _⟩ := seen_at f3.seen; exact ne_of_none e hDn
            have fewm := OL.sucs_few ok hpr
            have lym : ys.length = (OL.sucs M Tb pr).length := by rw [hys.len, List.length_map]
            refine ⟨_, rfl, D, rfl, ⟨_, .inl (.inl hD)⟩, for_walk ys.length (fun j σ H' => ∃ y9, σ = [some (.ref p), some (.ref A), some (.ref B), some (.int ((n : Nat) + 1 : Int)), some v, _, _, _, some (.ref D), y9] ∧ F6 K P w H A B (OL.addNew l ((OL.sucs M Tb pr).take j)) H' ∧ H' D = some (.lst ys) ∧ Ats K H' ys ((OL.sucs M Tb pr).map kPr))
              ⟨_, rfl, f4, hD, hys⟩ (fun j σ H' hj ⟨_, _, _, e, _⟩ => itl_go (.inl (.inl e)) hj) (fun σ H' ⟨_, _, _, e, _⟩ => itl_stop (.inl (.inl e))) ?_ ?_⟩
            · rintro j x σ H6 H7 hj ⟨y9, rfl, f6, hD6, hys6⟩ ⟨rfl, y'⟩
              have ex := y' _ (.inl (.inl hD6))
              have hjm : j < (OL.sucs M Tb pr).length := by omega
              have hq : (OL.sucs M Tb pr)[j]? = some (OL.sucs M Tb pr)[j] := List.getElem?_eq_getElem hjm
              generalize (OL.sucs M Tb pr)[j] = qq at hq
              obtain ⟨kx, ek, ax⟩ := hys6.got ex
              rw [List.getElem?_map, hq] at ek
              cases ek
              obtain ⟨c, _, _, rfl, _⟩ := at_pr.mp ax
              have etk : OL.addNew l ((OL.sucs M Tb pr).take (j + 1)) = if qq ∈ OL.addNew l ((OL.sucs M Tb pr).take j) then OL.addNew l ((OL.sucs M Tb pr).take j) else OL.addNew l ((OL.sucs M Tb pr).take j) ++ [qq] := by
                rw [List.take_add_one, hq]
                exact OL.add_snoc _ _ _
              have l6 : (OL.addNew l ((OL.sucs M Tb pr).take j)).length ≤ l.length + 9 := by
                obtain ⟨e, he, _, hl⟩ := OL.add_pre ((OL.sucs M Tb pr).take j) l
                rw [he, List.length_append]
                rw [List.length_take] at hl
                omega
              refine ⟨_, rfl, _, rfl, c, B, kPr qq, _, rfl, rfl, ax, kPr_depth _, f6.seen, _, rfl, ?_⟩
              by_cases hin : qq ∈ OL.addNew l ((OL.sucs M Tb pr).take j)
              · rw [if_pos hin] at etk
                have e1 : decide (kPr qq ∈ (OL.addNew l ((OL.sucs M Tb pr).take j)).map kPr) = true := decide_eq_true (kPr_mem.mpr hin)
                rw [e1]
                refine iteF ?_
                refine ⟨_, rfl, ?_, hD6, hys6⟩
                rw [etk]
                exact f6
              · rw [if_neg hin] at etk
                have e1 : decide (kPr qq ∈ (OL.addNew l ((OL.sucs M Tb pr).take j)).map kPr) = false := decide_eq_false (fun z => hin (kPr_mem.mp z))
                rw [e1]
                refine iteT ?_
                obtain ⟨g1, ⟨xs6, hA6, hx6⟩, g4, g5, g6, g7⟩ := f6
                refine ⟨_, rfl, _, rfl, B, c, kPr qq, _, rfl, rfl, rfl, ax, kPr_depth _, g4, (fun z => hin (kPr_mem.mp z)), Nat.lt_of_le_of_lt (by rw [List.length_map]; exact l6) (Nat.lt_of_le_of_lt (show l.length + 9 ≤ 2713 by omega) (by decide)), fun H8 seen8 rest8 => ?_⟩
                have k8 := seen_keep g4 rest8
                have hA8 : H8 A = some (.lst xs6) := by rw [rest8 A g7]; exact hA6
                have lx6 : xs6.length ≤ 2713 := by rw [hx6.len, List.length_map]; omega
                refine ⟨_, rfl, .inl ⟨rfl, _, .inl (.inl hA8)⟩, _, rfl, A, xs6, _, rfl, rfl, hA8, Nat.lt_of_le_of_lt lx6 (by decide), ?_⟩
                have kA : Keep K H8 (upd H8 A (.lst (xs6 ++ [.ref c]))) := keep_lst hA8
                have ss8 : Same H H8 := fun b o e => by rw [rest8 b (ne_of_none e g6)]; exact g1 b o e
                refine ⟨_, rfl, ?_, by rw [upd_ne nDA4.symm, rest8 D nDB4.symm]; exact hD6, hys6.keep (k8.trans kA)⟩
                rw [etk]
                refine ⟨same_lst ss8 g5, ⟨_, upd_same, ?_⟩, ?_, g5, g6, g7⟩
                · rw [List.map_append]
                  exact (hx6.keep (k8.trans kA)).snoc (ax.keep (k8.trans kA))
                · rw [List.map_append]
                  exact seen8.same (upd_ne g7.symm) kA
            · rintro σ H6 ⟨y9, rfl, f6, _, _⟩
              rw [lym, List.take_length] at f6
              exact ⟨m - 1, by omega, _, n + 1, _, _, _, _, _, _, by omega, rfl, f6, bfs.step hp hbad⟩
    · refine iteDN (by omega) ?_
      have e : n = l.length := by have := bfs.le; omega
      subst e
      refine ⟨_, rfl, ?_⟩
      exact q _ H2 f2.same (.inr ⟨A, xs, l, bfs.fin, rfl, f2.nA, hA2, hxs⟩)
end
end OLC
end
section
set_option Elab.async false
set_option linter.all false
set_option maxRecDepth 100000
set_option maxHeartbeats 4000000
/-! sorted(xs, key=f), f a def that may make objects -/
namespace SK
open PySem PySem.Spec PyProof.Rows L2 PySem.W
section
variable {X : Cx} {pins : List (Addr × Obj)} {σ : L2.St} {H : Hp} {s : Shared}
/-- records of ours have turned; one of them, untracked so far, is from now on tracked -/
theorem took {h' : Heap} {t' : Nat} {ch : List Addr} {a : Addr} {ob : HO} (I : Inv X pins σ H s) (k : ∀ b o, b ∉ ch → s.heap.get? b = some o → h'.get? b = some o) (hf : ∀ b ∈ ch, FpOk X pins H b) (ha : a ∈ ch)
    (new : ObjOk X.prog X.w (upd H a ob) h' a ob) : Inv X pins σ (upd H a ob) { s with heap := h', toks := t' } := by
  have hn : H a = none := (hf a ha).1
  have nit : ∀ b u, H b = some u → b ∉ ch := fun b u e z => by
    have q := (hf b z).1
    rw [q] at e
    cases e
  refine I.step (g' := s.gens) (d' := s.drawn) (ch := ch) (fun b hb => ⟨(hf b hb).2.2.2.1, (hf b hb).2.1, (hf b hb).2.2.2.2.1, (hf b hb).2.2.2.2.2⟩) (fun b o _ _ hc e _ => k b o hc e) (fun b o _ _ hc e _ => ⟨o.slots, k b o hc e⟩)
    (fun b o hc e n => ?_) (fun b o hc e => ⟨o, k b o hc e⟩) (fun b xs e => ?_) (fun b o u e => ?_) (fun b ps e => ⟨#[], ?_⟩) (fun m hm => ?_) (fun b u e => ?_) I.bare
  · rw [upd_ne (fun z => hc (by rw [z]; exact ha))]; exact n
  · rw [upd_ne (ne_of_none e hn)]; exact e
  · rw [upd_ne (ne_of_none e hn)]; exact e
  · rw [upd_ne (ne_of_none e hn), e]; simp
  · obtain ⟨o, es, ep, ho, r⟩ := hm
    exact ⟨o, es, ep, k _ o (fun z => (hf _ z).2.1 rfl) ho, r⟩
  · by_cases hb : b = a
    · subst hb
      rw [upd_same] at e
      cases e
      exact new
    · rw [upd_ne hb] at e
      refine (I.hok b u e).stay (fun c v hc q => k c v ?_ q) (fun c q => by rw [upd_ne (ne_of_none q hn)]; exact q) fun c xs q => by rw [upd_ne (ne_of_none q hn)]; exact q
      rcases hc with z | z
      · rw [z]; exact nit b u e
      · exact nit c _ z
theorem eachR (I : Inv X pins σ H s) : ∀ {kv : List V} {us : List Value} {kz : List PyData}, DpAll X.K H kv kz → Vals kv us → EachIs (fun v k => ∃ as, Reads s.heap v k as) us kz
  | [], _, [], _, .nil => .nil
  | v :: kv, _, k :: kz, h, .cons r rr => by
    cases h with
    | cons h1 h2 => exact .cons (Dp.reads I _ _ _ h1 r) (eachR I h2 rr)
  | [], _, _ :: _, h, _ => by cases h
  | _ :: _, _, [], h, _ => by cases h
theorem dps_same {K : PySem.W.Frag} {H H' : Hp} (e : Same H H') : ∀ {kv : List V} {kz : List PyData}, DpAll K H kv kz → DpAll K H' kv kz
  | _, _, .nil => .nil
  | _, _, .cons h1 h2 => .cons (ND.dp_same e h1) (dps_same e h2)
theorem dps_snoc {K : PySem.W.Frag} {H : Hp} {v : V} {k : PyData} : ∀ {kv : List V} {kz : List PyData}, DpAll K H kv kz → Dp K H v k → DpAll K H (kv ++ [v]) (kz ++ [k])
  | _, _, .nil, h => .cons h .nil
  | _, _, .cons h1 h2, h => .cons h1 (dps_snoc h2 h)
theorem dps_len {K : PySem.W.Frag} {H : Hp} : ∀ {kv : List V} {kz : List PyData}, DpAll K H kv kz → kv.length = kz.length
  | _, _, .nil => rfl
  | _, _, .cons _ h2 => congrArg (· + 1) (dps_len h2)
theorem vals_snoc {v : V} {u : Value} : ∀ {vs : List V} {us : List Value}, Vals vs us → RelV v u → Vals (vs ++ [v]) (us ++ [u])
  | _, _, .nil, h => .cons h .nil
  | _, _, .cons h1 h2, h => .cons h1 (vals_snoc h2 h)
theorem each_zip : ∀ {ys : List V} {us : List Value} {kz : List PyData}, Vals ys us → kz.length = ys.length → EachIs (fun (u : Value) (p : V × PyData) => RelV p.1 u) us (ys.zip kz)
  | [], _, _, .nil, _ => .nil
  | y :: ys, _, [], .cons _ _, h => by simp at h
  | y :: ys, _, k :: kz, .cons r rr, h => .cons r (each_zip rr (by simpa using h))
theorem vals_each : ∀ {us : List Value} {ps : List (V × PyData)}, EachIs (fun (u : Value) (p : V × PyData) => RelV p.1 u) us ps → Vals (ps.map Prod.fst) us
  | _, _, .nil => .nil
  | _, _, .cons h1 h2 => .cons h1 (vals_each h2)
end
/-- the items in the order of their keys -/
noncomputable def byKeys (ys : List V) (kz : List PyData) : List V := ((ys.zip kz).mergeSort (dataLe false Prod.snd)).map Prod.fst
def rSortK (K : PySem.W.Frag) (sp : Sp) (f : Addr) : List V → List V → Hp → VK → Prop := fun xs zs H Q => ∃ l ys kz, xs = [.ref l] ∧ zs = [.ref f] ∧ SqL K H l ys ∧ kz.length = ys.length ∧ AllAlike kz ∧ Sortable kz ∧ (∀ d ∈ kz, d.depth ≤ 8) ∧
  (∀ (i : Nat) (y : V) (k : PyData) (H' : Hp), ys[i]? = some y → kz[i]? = some k → Same H H' → sp [y] H' (fun v H'' => Same H' H'' ∧ Dp K H'' v k) E0) ∧
  ∀ H' p, Same H H' → H' p = none → Q (.ref p) (upd H' p (.lst (byKeys ys kz)))
variable {X : Cx} {k : Nat} {f : Addr} {fd : FuncData} {ps : List Str} {sp : Sp}
theorem call_sortK (F : FnOk X.prog X.w X.K X.mg X.base CX0 k f fd ps sp) (hr : Room (k + 1) X.A) (hb : Binds X.K fd ps []) : CallRK X (.builtin "sorted") [Str.ofString "key"] (rSortK X.K sp f) := by
  intro pins s σ H xs zs us ws Q I r rz h
  obtain ⟨l, ys, kz, rfl, rfl, hs, hlen, hal, hsk, hd, turn, q⟩ := h
  obtain rfl := Vals.ref1 r
  obtain rfl := Vals.ref1 rz
  obtain ⟨its, rv, hl, hz⟩ := I.list hs
  have hZ : its.length ≤ sizeLine := by rw [← rv.length]; exact hz
  have hr2 : Room k X.A.in1.in1 := ⟨hr.hd, by have := hr.dp; show X.A.depth + 3 * k + 5 < _; omega, by have := hr.un; show X.A.units + 1 + 1 + 16 * k + 200 < _; omega⟩
  refine sorted_of_sort hl.isList hZ (ksk_s1 _ _) (fun _ => ksk_l1 _ _) fun E' => ?_
  show wpAny _ _ (Builtin.«list.sort» ⟨[.ref (s.heap.objs.size + 1)], [(Str.ofString "key", .ref f)]⟩) _ _ _
  rw [ksk_t1]
  have hnS : s.heap.get? (s.heap.objs.size + 1) = none := Heap.get?_none_of_le (Nat.le_succ _)
  have ho := copyHeap_at s.heap its
  have old0 : ∀ b o, s.heap.get? b = some o → (copyHeap s.heap its).get? b = some o := fun b o e => copyHeap_old e
  generalize hc0 : copyHeap s.heap its = h0 at ho old0 ⊢
  generalize ha' : s.heap.objs.size + 1 = a at ho hnS ⊢
  have ha : a < h0.objs.size := Heap.lt_size ho
  obtain ⟨e1, ho1⟩ : ∃ e1, (h0.update a (Obj.mapSeq fun _ => (#[] : Array Value))).get? a = some (seqObj "list" #[] e1) := ⟨_, get?_update_seq ho fun _ => #[]⟩
  have hkS : ((h0.update a (Obj.mapSeq fun _ => (#[] : Array Value))).push (seqObj "tuple" its.toArray 0)).objs.size = h0.objs.size + 1 := by rw [size_push', Heap.size_update]
  unfold ksk_tree
  refine wpAny_bind (listItems_at ho rfl ?_)
  refine wpAny_bind (listUpdate_at ho rfl ?_ (by rw [List.size_toArray]; exact hZ) (Nat.zero_le _))
  refine wpAny_bind (seqEpoch_at ho1 rfl ?_)
  refine wpAny_bind (wpAny_newTuple ?_ (by show its.length ≤ _; exact hZ))
  refine wpAny_bind (wpAny_newList ?_ (Nat.zero_le _))
  refine wpAny_holding ?_
  have hs1 : s.heap.objs.size ≤ a := by rw [← ha']; exact Nat.le_succ _
  have nkS : (((h0.update a (Obj.mapSeq fun _ => (#[] : Array Value))).push (seqObj "tuple" its.toArray 0)).push (seqObj "list" #[] 0)).get? (h0.objs.size + 1) = some (seqObj "list" #[] 0) := by rw [← hkS]; exact Heap.get?_push_size _ rfl
  have na : (((h0.update a (Obj.mapSeq fun _ => (#[] : Array Value))).push (seqObj "tuple" its.toArray 0)).push (seqObj "list" #[] 0)).get? a = some (seqObj "list" #[] e1) := Heap.get?_push_of_some _ (Heap.get?_push_of_some _ ho1)
  have old1 : ∀ b o, s.heap.get? b = some o → (((h0.update a (Obj.mapSeq fun _ => (#[] : Array Value))).push (seqObj "tuple" its.toArray 0)).push (seqObj "list" #[] 0)).get? b = some o := fun b o e =>
    Heap.get?_push_of_some _ (Heap.get?_push_of_some _ ((Heap.get?_update_ne _ _ _ _ (fun z => by rw [z, hnS] at e; cases e)).trans (old0 b o e)))
  show wpAny _ _ (ksk_rest a (.ref f) false its.toArray e1 (.ref ((h0.update a (Obj.mapSeq fun _ => (#[] : Array Value))).push (seqObj "tuple" its.toArray 0)).objs.size)) _ _ { s with heap := ((h0.update a (Obj.mapSeq fun _ => (#[] : Array Value))).push (seqObj "tuple" its.toArray 0)).push (seqObj "list" #[] 0) }
  rw [hkS]
  have hka : h0.objs.size + 1 ≠ a := Nat.ne_of_gt (Nat.lt_succ_of_lt ha)
  have hs2 : s.heap.objs.size ≤ h0.objs.size + 1 := Nat.le_trans hs1 (Nat.le_of_lt (Nat.lt_succ_of_lt ha))
  generalize (((h0.update a (Obj.mapSeq fun _ => (#[] : Array Value))).push (seqObj "tuple" its.toArray 0)).push (seqObj "list" #[] 0)) = h1 at nkS na old1 ⊢
  generalize h0.objs.size + 1 = kS at nkS hka hs2 ⊢
  have fa : FpOk X pins H a := I.fpOk hs1 (I.hok.fresh hs1)
  have fk : FpOk X pins H kS := I.fpOk hs2 (I.hok.fresh hs2)
  have fp' : ∀ {b : Addr} {H' : Hp}, FpOk X pins H b → H' b = none → FpOk X pins H' b := fun g n => ⟨n, g.2⟩
  have nst : ∀ {b : Addr}, FpOk X pins H b → b ∉ frs X.stack := fun g z => by
    rcases List.mem_cons.mp (I.stkSub _ z) with y | y
    · exact g.2.1 y
    · exact g.2.2.1 y
  have I1 : Inv X pins σ H { s with heap := h1 } := I.kept (t' := s.toks) old1
  unfold ksk_rest
  refine wpAny_bind (wpAny_rule ?_)
  first
    | rw [List.forIn_toArray]
    | (rw [← Array.forIn_toList]; simp only [List.toList_toArray])
    | rw [← Array.forIn_toList]
  refine wpAny_bind (ksk_fold (fun i s' => ∃ H' kA e kv, Inv X pins σ H' s' ∧ Same H H' ∧ H' a = none ∧ H' kS = none ∧ s'.heap.get? kS = some (seqObj "list" kA e) ∧ s'.heap.get? a = some (seqObj "list" #[] e1) ∧ Vals kv kA.toList ∧ DpAll X.K H' kv (kz.take i)) its 0 { s with heap := h1 }
    ⟨H, #[], 0, [], I1, Same.refl H, fa.1, fk.1, nkS, na, .nil, by rw [List.take_zero]; exact .nil⟩ ?step ?done)
  case step =>
    rintro j x s' hx ⟨H', kA, e, kv, I', same, na0, nk0, nk', na', rkv, hkv⟩
    simp only [Nat.zero_add] at hkv ⊢
    have hj : j < its.length := (List.getElem?_eq_some_iff.mp hx).1
    have hjy : j < ys.length := by rw [rv.length]; exact hj
    obtain ⟨k0, hkj⟩ : ∃ k0, kz[j]? = some k0 := ⟨_, List.getElem?_eq_getElem (by omega)⟩
    obtain ⟨u, hu, ru⟩ := rv.get (List.getElem?_eq_getElem hjy)
    rw [hx] at hu
    cases hu
    have hyj : ys[j]? = some ys[j] := List.getElem?_eq_getElem hjy
    generalize ys[j] = y at ru hyj
    have hz1 : kA.size ≤ its.length := by
      have g1 : kv.length = kA.toList.length := rkv.length
      have g2 : kv.length = (kz.take j).length := dps_len hkv
      have g0 : kA.toList.length = kA.size := by simp
      rw [List.length_take] at g2
      have g3 : min j kz.length ≤ j := Nat.min_le_left _ _
      rw [← g0, ← g1, g2]
      exact Nat.le_trans g3 (Nat.le_of_lt hj)
    have hsp := turn j y k0 H' hyj hkj same
    have rr : Vals ([y] ++ []) ([x] ++ ([] : List Value)) := .cons ru .nil
    have hl1 : ([x] ++ ([] : List Value)).length = ps.length := by rw [← rr.length]; exact F.len _ _ _ _ hsp
    refine wpAny_bind (wpAny_attempt (wpAny_call (codeAny_mono (F.run X.A.in1.in1 X.stack s' H' ⟨[x], []⟩ ([x] ++ []) ([y] ++ []) _ _ hr2 I'.env0.in1.in1 (hb s' [x] I'.kIn hl1) rr hsp) fun r s'' hq => ?_)))
    cases r with
    | error e => exact False.elim hq
    | ok fl =>
      cases fl with
      | next => exact False.elim hq
      | brk => exact False.elim hq
      | cont => exact False.elim hq
      | ret u =>
        obtain ⟨v, H'', os, bare, un, hok, rvu, same2, hdp⟩ := hq
        have I2 : Inv X pins σ H'' s'' := I'.call' (ch := []) os un hok bare (fun b z => absurd z (by simp))
        have nk2 : s''.heap.get? kS = some (seqObj "list" kA e) := un.keep _ _ nk' nk0 (nst fk) (by simp)
        have na2 : s''.heap.get? a = some (seqObj "list" #[] e1) := un.keep _ _ na' na0 (nst fa) (by simp)
        have nk3 : H'' kS = none := un.free _ _ nk' nk0 (by simp)
        have na3 : H'' a = none := un.free _ _ na' na0 (by simp)
        try dsimp only
        have s1 := Heap.SameBut.update s''.heap kS (Obj.mapSeq (·.push u))
        obtain ⟨c2, hc2⟩ : ∃ c2, (s''.heap.update kS (Obj.mapSeq (·.push u))).get? kS = some (seqObj "list" (kA.push u) c2) := ⟨_, get?_update_seq nk2 (·.push u)⟩
        have ek : kz.take (j + 1) = kz.take j ++ [k0] := by rw [List.take_add_one, hkj]; simp
        have ea : (kA.push u).toList = kA.toList ++ [u] := by simp
        refine wpAny_bind (listUpdate_at nk2 rfl ?_ (Nat.le_trans hz1 hZ) (Nat.le_trans (Nat.le_of_eq (Array.size_push ..)) (Nat.succ_le_succ (Nat.le_trans hz1 hZ))))
        obtain ⟨_, f1, f2, f3, f4, f5⟩ := fk
        refine wpAny_pure ⟨rfl, H'', kA.push u, c2, kv ++ [v], I2.turned (t' := s''.toks) (fun b o hb' e' => (s1.2 b hb').trans e') nk3 f1 f3 f4 f5, same.trans same2, na3, nk3, hc2, (s1.2 a hka.symm).trans na2, ?_, ?_⟩
        · rw [ea]
          exact vals_snoc rkv rvu
        · rw [ek]
          exact dps_snoc (dps_same same2 hkv) hdp
  case done =>
    rintro s' ⟨H', kA, e, kv, I', same, na0, nk0, nk', na', rkv, hkv⟩
    have e3 : kz.take (0 + its.length) = kz := List.take_of_length_le (by rw [hlen, rv.length]; omega)
    rw [e3] at hkv
    have hk' := eachR I' hkv rkv
    have hsz : kA.size = its.length := by
      have h1 := hk'.length
      rw [Array.length_toList] at h1
      rw [h1, hlen, rv.length]
    try dsimp only
    refine wpAny_bind (listItems_at nk' rfl ?_)
    have kp : KeepsBut a (hideAll s'.heap [kS]) s'.heap := fun b o _ q => of_hideAll [kS] q
    refine keyH_end (κ := dataKind s'.heap kz) (h₁ := hideAll s'.heap [kS]) (s := s') kp (hideAll_none [kS] (by simp)) nk' na' hka (SortsAt.data hk' hal hsk (fun d hd' => by
      have := hd d hd'
      have := hr.un
      show X.A.units + 1 + 1 + d.depth < cLine
      omega)) hsz hZ fun h3 tk3 c k3 n3 => ⟨rfl, ?_⟩
    have hout : EachIs (fun (u : Value) (p : V × PyData) => RelV p.1 u) (sortVals (dataKind s'.heap kz) false kA.toList its) ((ys.zip kz).mergeSort (dataLe false Prod.snd)) := by
      have e4 : (ys.zip kz).map Prod.snd = kz := by rw [List.map_snd_zip]; omega
      exact keyedOut_each Prod.snd (by rw [e4]; exact ⟨s'.heap, kA.toList, hal, rfl, hk'⟩) (each_zip rv hlen)
    have rout : Vals (byKeys ys kz) (sortVals (dataKind s'.heap kz) false kA.toList its) := vals_each hout
    have lout : (byKeys ys kz).length ≤ sizeLine := by
      unfold byKeys
      rw [List.length_map, List.length_mergeSort, List.length_zip, hlen, Nat.min_self]
      exact hz
    have I3 := took (h' := h3) (t' := tk3) (ch := [a, kS]) (a := a) (ob := .lst (byKeys ys kz)) I' (fun b o hb' e' => k3 b o (fun z => hb' (by simp [z])) (hideAll_get [kS] e' (fun z => hb' (by simp at z; simp [z]))))
      (fun b hb' => by
        rcases List.mem_cons.mp hb' with z | z
        · rw [z]; exact fp' fa na0
        · rw [List.mem_singleton.mp z]; exact fp' fk nk0) List.mem_cons_self ⟨lout, _, c, rout, n3⟩
    exact ⟨.ref a, _, I3, rfl, q H' a same na0⟩
end SK
end
section
set_option Elab.async false
set_option linter.all false
set_option maxRecDepth 100000
set_option maxHeartbeats 2000000
/-! pairs in their order -/
namespace OLC
open PySem PySem.Spec PyProof.Rows L2
theorem ordI_inj {a b : Option Nat} (h : ordI a = ordI b) : a = b := by
  cases a with
  | none => cases b with
    | none => rfl
    | some n => simp [ordI] at h
  | some m => cases b with
    | none => simp [ordI] at h
    | some n =>
      simp only [ordI] at h
      rw [show m = n by omega]
theorem ordPl_inj {p q : OL.Pl} (h : ordPl p = ordPl q) : p = q := by
  obtain ⟨a, b, c⟩ := p
  obtain ⟨a', b', c'⟩ := q
  simp only [ordPl, List.cons.injEq, and_true] at h
  obtain ⟨h1, h2, h3⟩ := h
  rw [show a = a' by omega, ordI_inj h2, show c = c' by omega]
theorem ordPr_inj {p q : OL.Pr} (h : ordPr p = ordPr q) : p = q := by
  obtain ⟨a, b⟩ := p
  obtain ⟨a', b'⟩ := q
  obtain ⟨h1, h2⟩ := List.append_inj h rfl
  have e1 : a = a' := ordPl_inj h1
  have e2 : b = b' := ordPl_inj h2
  rw [e1, e2]
def keyPr (p : OL.Pr) : PyData := .tuple ((ordPr p).map PyData.int)
abbrev leP (p q : OL.Pr) : Bool := decide (ordPr p ≤ ordPr q)
theorem dataLe_pr : PySem.W.dataLe false keyPr = leP := by
  funext p q
  show (!PySem.W.dataLt (.tuple ((ordPr q).map .int)) (.tuple ((ordPr p).map .int))) = _
  rw [PySem.W.dataLt_tuple]
  show (!PySem.W.rowLt ((ordPr q).map .int) ((ordPr p).map .int)) = _
  rw [PySem.W.dataLt_ints]
  by_cases h : ordPr q < ordPr p
  · have h' : ¬ ordPr p ≤ ordPr q := fun r => List.not_lt.mpr r h
    simp [h, h']
  · have h' : ordPr p ≤ ordPr q := List.not_lt.mp h
    simp [h, h']
/-- in strict order -/
def Asc (l : List OL.Pr) : Prop := l.Pairwise fun p q => ordPr p < ordPr q
theorem asc_sort {l : List OL.Pr} (h : l.Nodup) : Asc (l.mergeSort leP) := by
  have h1 : (l.mergeSort leP).Pairwise fun p q => leP p q = true := List.pairwise_mergeSort (le := leP) (fun a b c h1 h2 => decide_eq_true (p := ordPr a ≤ ordPr c) (List.le_trans (of_decide_eq_true h1) (of_decide_eq_true h2))) (fun a b => by
    rcases List.le_total (ordPr a) (ordPr b) with z | z <;> simp [leP, z]) l
  have h2 : (l.mergeSort leP).Nodup := ((List.mergeSort_perm l leP).nodup_iff).mpr h
  refine (h1.and h2).imp fun {p q} ⟨z1, z2⟩ => ?_
  have z3 : ordPr p ≤ ordPr q := of_decide_eq_true z1
  by_cases z4 : ordPr p < ordPr q
  · exact z4
  · exact absurd (ordPr_inj (List.le_antisymm z3 (List.not_lt.mp z4))) z2
theorem asc_nodup {l : List OL.Pr} (h : Asc l) : l.Nodup := h.imp fun {p q} z e => by
  rw [e] at z
  exact List.lt_irrefl _ z
theorem asc_unique : ∀ {l l' : List OL.Pr}, Asc l → Asc l' → (∀ p, p ∈ l ↔ p ∈ l') → l = l'
  | [], [], _, _, _ => rfl
  | [], q :: l', _, _, h => absurd ((h q).mpr List.mem_cons_self) (by simp)
  | p :: l, [], _, _, h => absurd ((h p).mp List.mem_cons_self) (by simp)
  | p :: l, q :: l', h1, h2, h => by
    have a1 := List.pairwise_cons.mp h1
    have a2 := List.pairwise_cons.mp h2
    have e : p = q := by
      rcases List.mem_cons.mp ((h p).mp List.mem_cons_self) with z | z
      · exact z
      · rcases List.mem_cons.mp ((h q).mpr List.mem_cons_self) with y | y
        · exact y.symm
        · exact absurd (List.lt_trans (a2.1 p z) (a1.1 q y)) (List.lt_irrefl _)
    subst e
    rw [asc_unique a1.2 a2.2 fun r => ?_]
    constructor
    · intro hr
      rcases List.mem_cons.mp ((h r).mp (List.mem_cons_of_mem _ hr)) with z | z
      · have := a1.1 r hr
        rw [z] at this
        exact absurd this (List.lt_irrefl _)
      · exact z
    · intro hr
      rcases List.mem_cons.mp ((h r).mpr (List.mem_cons_of_mem _ hr)) with z | z
      · have := a2.1 r hr
        rw [z] at this
        exact absurd this (List.lt_irrefl _)
      · exact z
theorem lexLt_iff : ∀ {xs ys : List Int}, HT.lexLt xs ys = true ↔ xs < ys
  | [], [] => by simp [HT.lexLt]
  | [], y :: ys => by simp [HT.lexLt]
  | x :: xs, [] => by simp [HT.lexLt]
  | x :: xs, y :: ys => by
    rw [HT.lexLt_cons, List.cons_lt_cons_iff]
    by_cases e : x = y
    · rw [if_pos e, lexLt_iff]
      constructor
      · exact fun h => .inr ⟨e, h⟩
      · rintro (h | ⟨_, h⟩)
        · omega
        · exact h
    · rw [if_neg e]
      constructor
      · exact fun h => .inl (of_decide_eq_true h)
      · rintro (h | ⟨h, _⟩)
        · exact decide_eq_true h
        · exact absurd h e
/-- the sorted list, by its data -/
theorem by_keys {K : Fr} {H : Hp} {ys : List V} {l : List OL.Pr} (h : Ats K H ys (l.map kPr)) : Ats K H (SK.byKeys ys (l.map keyPr)) ((l.mergeSort leP).map kPr) := by
  have hl : ys.length = l.length := by rw [h.len, List.length_map]
  have e1 : ys.zip (l.map keyPr) = (ys.zip l).map fun c => (c.1, keyPr c.2) := by
    rw [List.zip_map_right]
    rfl
  have e2 : l = (ys.zip l).map Prod.snd := by rw [List.map_snd_zip]; omega
  have m1 : SK.byKeys ys (l.map keyPr) = ((ys.zip l).mergeSort fun a b => leP a.2 b.2).map Prod.fst := by
    unfold SK.byKeys
    rw [e1, ← List.map_mergeSort (r := fun a b => leP a.2 b.2) (fun a _ b _ => by rw [← dataLe_pr]; rfl), List.map_map]
    rfl
  have m2 : l.mergeSort leP = ((ys.zip l).mergeSort fun a b => leP a.2 b.2).map Prod.snd := by
    rw [List.map_mergeSort (s := leP) (fun a _ b _ => rfl), ← e2]
  rw [m1, m2, List.map_map]
  have each : ∀ c ∈ ys.zip l, At K H c.1 (kPr c.2) := fun c hc => by
    obtain ⟨i, hi, e⟩ := List.mem_iff_getElem.mp hc
    have hi1 : i < ys.length := by rw [List.length_zip] at hi; omega
    have hi2 : i < l.length := by omega
    obtain ⟨k, ek, hk⟩ := h.got (List.getElem?_eq_getElem hi1)
    rw [List.getElem?_map, List.getElem?_eq_getElem hi2] at ek
    cases ek
    rw [← e, List.getElem_zip]
    exact hk
  have each' : ∀ c ∈ (ys.zip l).mergeSort fun a b => leP a.2 b.2, At K H c.1 (kPr c.2) := fun c hc => each c ((List.mergeSort_perm _ _).mem_iff.mp hc)
  revert each'
  generalize ((ys.zip l).mergeSort fun a b => leP a.2 b.2) = cs
  intro each'
  induction cs with
  | nil => exact .nil'
  | cons c cs ih => exact .cons' (each' c List.mem_cons_self) (ih fun d hd => each' d (List.mem_cons_of_mem _ hd))
theorem keys_alike (l : List OL.Pr) : PySem.W.AllAlike (l.map keyPr) := fun d hd d' hd' => by
  obtain ⟨p, _, rfl⟩ := List.mem_map.mp hd
  obtain ⟨q, _, rfl⟩ := List.mem_map.mp hd'
  unfold keyPr
  rw [PySem.W.alike]
  exact PySem.W.alike_ints _ _
theorem keys_sortable (l : List OL.Pr) : PySem.W.Sortable (l.map keyPr) := .inl fun d hd => by
  obtain ⟨p, _, rfl⟩ := List.mem_map.mp hd
  exact ⟨_, _, rfl⟩
theorem key_depth (p : OL.Pr) : (keyPr p).depth ≤ 8 := by
  simp [keyPr, ordPr, ordPl, PyData.depth, PyData.depthAll]
theorem dp_key {K : Fr} {H : Hp} {D : Addr} {p : OL.Pr} (h : H D = some (.tup ((ordPr p).map V.int))) : Dp K H (.ref D) (keyPr p) := by
  refine .tup (.inl (.inl h)) ?_
  generalize ordPr p = l
  induction l with
  | nil => exact .nil
  | cons x l ih => exact .cons (.int x) ih
end OLC
end
section
set_option Elab.async false
set_option linter.all false
set_option maxRecDepth 100000
set_option maxHeartbeats 2000000
/-! x not in t, t a tuple of nested tuples -/
namespace OLC
open PySem PySem.Spec PyProof.Rows L2
theorem vals_mem : ∀ {vs : List V} {us : List Value} {u : Value}, Vals vs us → u ∈ us → ∃ v, v ∈ vs ∧ RelV v u
  | _, _, _, .cons h1 h2, h => by
    rcases List.mem_cons.mp h with z | z
    · exact ⟨_, List.mem_cons_self, by rw [z]; exact h1⟩
    · obtain ⟨v, h3, h4⟩ := vals_mem h2 z
      exact ⟨v, List.mem_cons_of_mem _ h3, h4⟩
theorem nested_any {h : Heap} {k : NestedKey} (e : Value → Bool) (he : ∀ j u, NestedIs h j u → e u = NestedKey.beq j k) : ∀ {ks : List NestedKey} {us : List Value}, NestedAll h ks us → us.any e = decide (k ∈ ks)
  | _, _, .nil => by simp
  | _, _, .cons h1 h2 => by
    rw [List.any_cons, nested_any e he h2, he _ _ h1]
    rename_i j _ _ _
    cases hb : NestedKey.beq j k with
    | true => simp [NestedKey.eq_of_beq _ _ hb]
    | false =>
      have : ¬ k = j := fun z => by
        rw [z, NestedKey.beq_self] at hb
        cases hb
      simp [this]
theorem nested_mem {h : Heap} {z : Value} : ∀ {ks : List NestedKey} {us : List Value}, NestedAll h ks us → z ∈ us → ∃ j, NestedIs h j z
  | _, _, .cons h1 h2, hz => by
    rcases List.mem_cons.mp hz with e | e
    · exact ⟨_, by rw [e]; exact h1⟩
    · exact nested_mem h2 e
section
variable {X : Cx}
def rNotInTN (K : Fr) : R2 := fun x y H Q => ∃ k ks, At K H x k ∧ At K H y (.tup ks) ∧ k.depth ≤ 8 ∧ Q (.bl (!decide (k ∈ ks))) H
open Classical in
theorem op_notInTN (hu : X.A.units + 64 < cLine) : OpR X (compareOp .NotIn) (rNotInTN X.K) := by
  intro pins s σ H x y v u Q I rx ry h
  obtain ⟨k, ks, hx, hy, hd, q⟩ := h
  obtain ⟨a, xs, rfl, hs, hall⟩ := at_tup.mp hy
  cases ry
  obtain ⟨its, rv, p, hz⟩ := I.tuple hs
  have nx := ND.key_raw I k x v hx rx
  have nall := ND.keys_raw I ks xs its hall rv
  have hmem : ∀ z, z ∈ its → ∃ j, NestedIs s.heap j z := fun z hz' => nested_mem nall hz'
  have he : ∀ j z, NestedIs s.heap j z → (if hj : ∃ j, NestedIs s.heap j z then NestedKey.beq hj.choose k else false) = NestedKey.beq j k := fun j z hz' => by
    have hj : ∃ j, NestedIs s.heap j z := ⟨j, hz'⟩
    rw [dif_pos hj, NestedIs.inj _ _ _ hj.choose_spec hz']
  have pt : s.heap.IsTuple a its.toArray := p
  refine SeqAt.notIn_tupleAt (fun z => if hj : ∃ j, NestedIs s.heap j z then NestedKey.beq hj.choose k else false) pt (fun z hz' => ?_) ?_
  · obtain ⟨j, hj⟩ := hmem z (by simpa using hz')
    show SeqAt.EqAt X.A.in1 s z v (if hj : ∃ j, NestedIs s.heap j z then NestedKey.beq hj.choose k else false)
    rw [he j z hj]
    refine eqAt_key j k _ _ _ _ hj nx ?_
    show X.A.units + 1 + min j.depth k.depth < cLine
    have := Nat.min_le_right j.depth k.depth
    omega
  · have e2 : its.toArray.any (fun z => if hj : ∃ j, NestedIs s.heap j z then NestedKey.beq hj.choose k else false) = decide (k ∈ ks) := by
      rw [List.any_toArray]
      exact nested_any _ he nall
    rw [e2]
    exact ⟨.bl _, H, I, rfl, q⟩
end
end OLC
end
section
set_option Elab.async false
set_option linter.all false
set_option maxRecDepth 100000
set_option maxHeartbeats 2000000
/-! is_safe, closed_paper, is_paper, shows_closed -/
namespace OLC
open PySem PySem.Spec PyProof.Rows L2 OLT
section
variable {P : Program} {w : World} {K : Fr} {mg : Str → Option Value} {base : Heap} {C S f : Addr} {fd : FuncData}
/-- a house in the heap -/
structure HouseAt (K : Fr) (H : Hp) (v u : V) (M : Mc) (k : Nat) (Tb : OL.Tb) : Prop where
  m : At K H v (kMc M)
  t : At K H u (kTb Tb)
  ok : McOk M
  okT : OL.TOk M k Tb
  k1 : 1 ≤ k
  k4 : k ≤ 4
theorem HouseAt.keep {H H' : Hp} {v u : V} {M : Mc} {k : Nat} {Tb : OL.Tb} (h : HouseAt K H v u M k Tb) (e : Keep K H H') : HouseAt K H' v u M k Tb := ⟨h.m.keep e, h.t.keep e, h.ok, h.okT, h.k1, h.k4⟩
def spSafe (Ps : List Addr) (K : Fr) : Sp := fun vs H Q _ => ∃ (v u : V) (M : Mc) (k : Nat) (Tb : OL.Tb), vs = [v, .int k, u] ∧ HouseAt K H v u M k Tb ∧ Tabs Ps H ∧ ∀ (b : Bool) (H' : Hp), Kept H H' → Tabs Ps H' → (b = true ↔ OL.Safe M Tb) → Q (.bl b) H'
theorem ok_safe {Ps : List Addr} {f1 f2 fI : Addr} {d1 d2 dI : FuncData} (T : Tx K mg C S) (F : FnP K "is_safe" "is_safe" sSafe f fd) (G1 : Cal P w K mg base "need_house" 6 pHouse (spHouse Ps K) f1 d1 [] []) (G2 : Cal P w K mg base "paper_of" 3 pPaperOf (spPaperOf K C) f2 d2 [] [])
    (MK : Mk K C fI) (GI : FnOk P w K mg base CX0 2 fI dI pWInit (spWInit K C)) (bI : Binds K dI pWInit []) : FnOk P w K mg base CX0 7 f fd pSafe (spSafe Ps K) := by
  refine okN F scSafe (fun vs H Q E h => ?_) (fun cdv A0 outer s H vs Q E hr h => ?_)
  · obtain ⟨v, u, M, k, Tb, rfl, _⟩ := h
    rfl
  · obtain ⟨v, u, M, k, Tb, rfl, hh, tb, q⟩ := h
    refine ⟨_, pss_cons (ps_expr (pe_cal G1 hr (pa_cons (pv 0) (pa_cons (pv 1) (pa_cons (pv 2) pa_nil))))) (pss_one (ps_ret (pe_cmpR op_notN (pe_cal G2 (hr.mono (by decide)) (pa_cons (pe_make MK GI (hr.mono (by decide)) rfl T.walk bI .nil pass0 (pa_cons (pv 0) (pa_cons (pv 2) pa_nil))) pa_nil)) pe_non (nomark _)))), ?_⟩
    refine ⟨_, rfl, _, rfl, _, rfl, v, u, M, k, Tb, rfl, hh.m, hh.t, hh.ok, hh.okT, hh.k1, hh.k4, tb, fun H1 k1 t1 => ?_⟩
    refine ⟨_, rfl, _, rfl, fun x dx hx hdx nex => ?_⟩
    have s1 : Same H1 (upd (upd H1 dx (.own x)) x (.ins C dx [])) := fun b o e => by
      rw [upd_ne (ne_of_none e hx), upd_ne (ne_of_none e hdx)]
      exact e
    have h2 := hh.keep ((keep_kept k1).trans (keep_same s1))
    refine ⟨x, dx, k, M, Tb, v, u, rfl, upd_same, h2.m, h2.t, hh.ok.ok, hh.okT, fun H2 z2 hW => ⟨rfl, ?_⟩⟩
    have s2 : Same H1 H2 := Same.made hx hdx z2
    refine ⟨x, k, M, Tb, rfl, hW, hh.ok.ok, hh.okT, fun r H3 s3 pr => ⟨rfl, ?_⟩⟩
    have kk : Kept H H3 := k1.trans (Same.kept (s2.trans s3))
    have tt : Tabs Ps H3 := t1.same (s2.trans s3)
    rcases pr with ⟨p1, rfl⟩ | ⟨A, xs, l, p1, rfl, _⟩
    · exact q false _ kk tt ⟨fun z => (by cases z), fun z => absurd z p1⟩
    · exact q true _ kk tt ⟨fun _ => p1.1, fun _ => rfl⟩
def ClosedRes (K : Fr) (M : Mc) (Tb : OL.Tb) (r : V) (H' : Hp) : Prop :=
  (¬ OL.Safe M Tb ∧ r = .non) ∨ ∃ l, OL.Safe M Tb ∧ Asc l ∧ (∀ p, p ∈ l ↔ OL.Reach M Tb p) ∧ At K H' r (.tup (l.map kPr))
def spClosed (Ps : List Addr) (K : Fr) : Sp := fun vs H Q _ => ∃ (v u : V) (M : Mc) (k : Nat) (Tb : OL.Tb), vs = [v, .int k, u] ∧ HouseAt K H v u M k Tb ∧ Tabs Ps H ∧ ∀ (r : V) (H' : Hp), Kept H H' → Tabs Ps H' → ClosedRes K M Tb r H' → Q r H'
theorem ok_closed {Ps : List Addr} {f1 f2 f3 fI : Addr} {d1 d2 d3 dI : FuncData} (T : Tx K mg C S) (F : FnP K "closed_paper" "closed_paper" sClosed f fd) (G1 : Cal P w K mg base "need_house" 6 pHouse (spHouse Ps K) f1 d1 [] []) (G2 : Cal P w K mg base "paper_of" 3 pPaperOf (spPaperOf K C) f2 d2 [] [])
    (G3 : Cal P w K mg base "order_of" 1 pOrder (spOrder K) f3 d3 [] []) (MK : Mk K C fI) (GI : FnOk P w K mg base CX0 2 fI dI pWInit (spWInit K C)) (bI : Binds K dI pWInit []) : FnOk P w K mg base CX0 7 f fd pClosed (spClosed Ps K) := by
  refine okN F scClosed (fun vs H Q E h => ?_) (fun cdv A0 outer s H vs Q E hr h => ?_)
  · obtain ⟨v, u, M, k, Tb, rfl, _⟩ := h
    rfl
  · obtain ⟨v, u, M, k, Tb, rfl, hh, tb, q⟩ := h
    obtain ⟨tp, hp⟩ := T.pairs
    refine ⟨_, pss_cons (ps_expr (pe_cal G1 hr (pa_cons (pv 0) (pa_cons (pv 1) (pa_cons (pv 2) pa_nil)))))
      (pss_cons (ps_set (i := 3) scClosed.nd rfl (.inl rfl) (pe_cal G2 (hr.mono (by decide)) (pa_cons (pe_make MK GI (hr.mono (by decide)) rfl T.walk bI .nil pass0 (pa_cons (pv 0) (pa_cons (pv 2) pa_nil))) pa_nil)))
      (pss_cons (ps_if (pt_cmpR op_isN (pv 3) pe_non (nomark _)) (pss_one (ps_ret pe_non)) pss_nil)
      (pss_cons (ps_if (pt_cmpR op_gt (pe_callB call_len (by rfl) T.len boot_len (pa_cons (pv 3) pa_nil)) (pe_glob (v := .int 4000) rfl hp ⟨_, rfl⟩) (nomark _)) (pss_one ps_never) pss_nil)
      (pss_one (ps_ret (pe_callTy call_tuple_of (by rfl) T.tup (by decide +kernel) (pa_cons (pe_callBK (SK.call_sortK G3.ok (hr.mono (by decide)) G3.b) (by rfl) T.srt (by decide +kernel) (pa_cons (pv 3) pa_nil) (pk_cons (pe_glob (v := .ref f3) rfl G3.g rfl) pk_nil)) pa_nil))))))), ?_⟩
    refine ⟨_, rfl, _, rfl, _, rfl, v, u, M, k, Tb, rfl, hh.m, hh.t, hh.ok, hh.okT, hh.k1, hh.k4, tb, fun H1 k1 t1 => ?_⟩
    refine ⟨_, rfl, _, rfl, fun x dx hx hdx nex => ?_⟩
    have s1 : Same H1 (upd (upd H1 dx (.own x)) x (.ins C dx [])) := fun b o e => by
      rw [upd_ne (ne_of_none e hx), upd_ne (ne_of_none e hdx)]
      exact e
    have h2 := hh.keep ((keep_kept k1).trans (keep_same s1))
    refine ⟨x, dx, k, M, Tb, v, u, rfl, upd_same, h2.m, h2.t, hh.ok.ok, hh.okT, fun H2 z2 hW => ⟨rfl, ?_⟩⟩
    have s2 : Same H1 H2 := Same.made hx hdx z2
    refine ⟨x, k, M, Tb, rfl, hW, hh.ok.ok, hh.okT, fun r H3 s3 pr => ?_⟩
    have kk : Kept H H3 := k1.trans (Same.kept (s2.trans s3))
    have tt : Tabs Ps H3 := t1.same (s2.trans s3)
    refine ⟨_, rfl, rfl, _, rfl, ?_⟩
    rcases pr with ⟨p1, rfl⟩ | ⟨A, xs, l, p1, rfl, hA0, hA, hxs⟩
    · refine iteD rfl ?_
      exact q _ _ kk tt (.inl ⟨p1, rfl⟩)
    · refine iteDN (by intro z; cases z) ?_
      have few : l.length ≤ 2704 := OL.pairs_few hh.ok.ok hh.okT p1.2.1 fun p hp => OL.reach_ok hh.ok.ok hh.okT ((p1.2.2 p).mp hp)
      have lxs : xs.length = l.length := by rw [hxs.len, List.length_map]
      refine ⟨_, rfl, _, _, rfl, .inl ⟨_, .inl (.inl hA), rfl⟩, _, _, rfl, rfl, _, rfl, iteDN (by omega) ?_⟩
      refine ⟨_, rfl, A, xs, l.map keyPr, rfl, rfl, .inl (.inl hA), by rw [List.length_map, lxs], keys_alike l, keys_sortable l, fun d hd => ?_, fun i y kk' H4 ey ek s4 => ?_, fun H4 p s4 hp4 => ?_⟩
      · obtain ⟨p, _, rfl⟩ := List.mem_map.mp hd
        exact key_depth p
      · obtain ⟨kx, e1, hy⟩ := hxs.got ey
        cases el : l[i]? with
        | none => rw [List.getElem?_map, el] at e1; cases e1
        | some pr =>
          rw [List.getElem?_map, el] at e1 ek
          cases e1
          cases ek
          exact ⟨y, pr, rfl, hy.keep (keep_same s4), fun H5 D s5 _ hD => ⟨s5, dp_key hD⟩⟩
      · refine ⟨p, _, rfl, .inl ⟨.inl (.inl upd_same), fun t ht => ?_⟩⟩
        have hs := by_keys (hxs.keep ((keep_same s4).trans ((keep_same (same_new hp4)).trans (keep_same (same_new (o := .tup (SK.byKeys xs (l.map keyPr))) ht)))))
        have s6 : Same H3 (upd (upd H4 p (.lst (SK.byKeys xs (l.map keyPr)))) t (.tup (SK.byKeys xs (l.map keyPr)))) := s4.trans ((same_new hp4).trans (same_new ht))
        refine q _ _ (kk.trans (Same.kept s6)) (tt.same s6) (.inr ⟨l.mergeSort leP, p1.1, asc_sort p1.2.1, fun r => ?_, at_tup.mpr ⟨t, _, rfl, .inl (.inl upd_same), hs⟩⟩)
        rw [(List.mergeSort_perm l leP).mem_iff]
        exact p1.2.2 r
end
end OLC
end
section
set_option Elab.async false
set_option linter.all false
set_option maxRecDepth 100000
set_option maxHeartbeats 2000000
/-! is_paper, shows_closed -/
namespace OLC
open PySem PySem.Spec PyProof.Rows L2 OLT
section
variable {P : Program} {w : World} {K : Fr} {mg : Str → Option Value} {base : Heap} {C S f : Addr} {fd : FuncData}
theorem each_pr {H : Hp} {xs : List V} {l : List OL.Pr} (h : Ats K H xs (l.map kPr)) {i : Nat} {x : V} (e : xs[i]? = some x) : ∃ p, l[i]? = some p ∧ At K H x (kPr p) := by
  obtain ⟨k, e1, h1⟩ := h.got e
  cases el : l[i]? with
  | none => rw [List.getElem?_map, el] at e1; cases e1
  | some p =>
    rw [List.getElem?_map, el] at e1
    cases e1
    exact ⟨p, rfl, h1⟩
def spIsPaper (Ps : List Addr) (K : Fr) (C : Addr) : Sp := fun vs H Q _ => ∃ (p : Addr) (v : V) (k : Nat) (M : Mc) (Tb : OL.Tb) (l : List OL.Pr), vs = [.ref p, v] ∧ IsWalk K C H p M Tb ∧ OL.MOk M ∧ OL.TOk M k Tb ∧ At K H v (.tup (l.map kPr)) ∧ Asc l ∧ (∀ q ∈ l, OL.PrOk M Tb q) ∧ 1 ≤ l.length ∧ Tabs Ps H ∧
  ∀ H', Kept H H' → Tabs Ps H' → Q (.bl true) H'
theorem ok_ispaper {c P0 : Addr} {Ps : List Addr} {f1 f2 : Addr} {d1 d2 : FuncData} (T : Tx K mg C S) (F : FnP K "is_paper" "is_paper" sIsPaper f fd) (hc : fd.code = .ref c) (TB : GxR.TabB base mg c P0) (hP : P0 ∈ Ps)
    (G1 : CalM P w K mg base C "is_place" 2 pWPlace (spWPlace K C) f1 d1) (G2 : Cal P w K mg base "order_of" 1 pOrder (spOrder K) f2 d2 [] []) : FnOk P w K mg base CX0 4 f fd pIsPaper (spIsPaper Ps K C) := by
  refine okC F hc scIsPaper (fun vs H Q E h => ?_) (fun A0 outer s H vs Q E hr h => ?_)
  · obtain ⟨p, v, k, M, Tb, l, rfl, _⟩ := h
    rfl
  · obtain ⟨p, v, k, M, Tb, l, rfl, hW, ok, okT, hv, asc, hok, h1, tb, q⟩ := h
    obtain ⟨tp, hpairs⟩ := T.pairs
    refine ⟨_, pss_cons (ps_if (PW.pt (pw_or (pt_not (pt_val (pe_is "tuple" (pv 1) T.isi T.tup))) (pw_or1 (pt_not (pt_chain op_le op_le pe_int (pe_callB call_len (by rfl) T.len boot_len (pa_cons (pv 1) pa_nil)) (pe_glob (v := .int 4000) rfl hpairs ⟨_, rfl⟩)))))) (pss_one (ps_ret pe_bl)) pss_nil)
      (pss_cons (ps_for PassesOwn.never rfl (pi_tup (pv 1)) (pg_name (i := 2) scIsPaper.nd rfl (Or.inl rfl))
        (pss_one (ps_if (PW.pt (pw_or (pt_not (pt_val (pe_is "tuple" (pv 2) T.isi T.tup))) (pw_or (pt_cmpR op_ne (pe_callB call_len (by rfl) T.len boot_len (pa_cons (pv 2) pa_nil)) pe_int (nomark _))
          (pw_or1 (pt_not (pt_val (RG.pe_allG (own := [("place", 4)]) (g := gName 4) hr (by rfl) T.all TB rfl rfl scIsPaper.nd (blkOk_by (N := nIsPaper) (sc := defScope sIsPaper) (by decide +kernel)) (by decide +kernel) (by decide +kernel) rfl (pi_tup (pv 2))
            (fun _ _ _ _ _ _ _ => pg_name (i := 4) scIsPaper.nd rfl (Or.inl rfl)) (fun _ _ _ _ _ _ _ hr' => pe_calm (pv 0) T.cl G1 hr' (pa_cons (pv 4) pa_nil)) (fun _ => rfl)))))))) (pss_one (ps_ret pe_bl)) pss_nil)))
      (pss_cons (ps_setLc (i := 3) (own := [("pair", 2)]) (g := gName 2) rfl scIsPaper.nd rfl rfl (sw_true rfl rfl rfl (by decide +kernel)) (pi_tup (pv 1)) (blkOk_by (N := nIsPaper) (sc := defScope sIsPaper) (by decide +kernel)) (fun _ _ _ _ _ => pg_name (i := 2) scIsPaper.nd rfl (Or.inl rfl)) (fun _ _ _ _ _ => pts_nil) (fun _ _ _ _ _ => pe_cal G2 (hr.mono (by decide)) (pa_cons (pv 2) pa_nil)))
      (pss_one (ps_ret (RG.pe_allG (own := [("one", 5), ("other", 6)]) (g := gTup K 2 (gCons (gName 5) (gCons (gName 6) gNil))) (hr.mono (by decide)) (by rfl) T.all TB rfl rfl scIsPaper.nd (blkOk_by (N := nIsPaper) (sc := defScope sIsPaper) (by decide +kernel)) (by decide +kernel) (by decide +kernel) rfl (pi_zip (by rfl) T.zip (pa_cons (pv 3) (pa_cons (pe_slice sl_list (pv 3) (po_some pe_int) po_none) pa_nil)))
            (fun _ _ _ _ _ _ _ => pg_tupK (K := K) rfl (pgs_cons (pg_name (i := 5) scIsPaper.nd rfl (Or.inl rfl)) (pgs_cons (pg_name (i := 6) scIsPaper.nd rfl (Or.inl rfl)) pgs_nil))) (fun _ _ _ _ _ _ _ (hr' : Room 0 _) => pe_cmpR (op_ltTK (K := K) hr'.units0) (pv 5) (pv 6) (nomark _)) (fun _ => rfl)))))), ?_⟩
    obtain ⟨a, xs, rfl, hs, hall⟩ := at_tup.mp hv
    have lxs : xs.length = l.length := by rw [hall.len, List.length_map]
    have few : l.length ≤ 2704 := OL.pairs_few ok okT (asc_nodup asc) hok
    have hins : ∃ dx fs, H p = some (.ins C dx fs) ∧ fs.lookup ("is_place" : Str) = none := by
      obtain ⟨d, vm, vt, kvs, ⟨⟨dx, hob⟩, _⟩, _⟩ := hW
      exact ⟨dx, _, hob, rfl⟩
    obtain ⟨dx, fs, hob, l1⟩ := hins
    refine ⟨_, rfl, _, _, true, rfl, tyT hs, (by decide +kernel), _, rfl, iteF ?_⟩
    refine ⟨_, rfl, _, _, rfl, .inr ⟨_, hs, rfl⟩, _, _, rfl, rfl, _, rfl, iteD (by omega) ?_⟩
    refine ⟨_, _, rfl, rfl, _, rfl, iteNS (by omega) ?_⟩
    refine ⟨_, rfl, a, rfl, ⟨_, hs⟩, for_walk xs.length (fun i σ H' => ∃ x2, σ = [some (.ref p), some (.ref a), x2, none, none, none, none] ∧ Kept H H' ∧ Tabs Ps H') ⟨_, rfl, Kept.refl, tb⟩ (fun i σ H' hi ⟨_, _, hk, _⟩ => itt_go (K := K) (keep_kept hk _ _ hs) hi) (fun σ H' ⟨_, _, hk, _⟩ => itt_stop (K := K) (keep_kept hk _ _ hs)) ?_ ?_⟩
    · rintro i x σ H1 H2 hi ⟨x2, rfl, hk, htb⟩ ⟨rfl, y'⟩
      have ex := y' _ (keep_kept hk _ _ hs)
      obtain ⟨pr, epr, hx⟩ := each_pr hall ex
      have hx := hx.keep (keep_kept hk)
      have hpr := hok pr (List.mem_of_getElem? epr)
      obtain ⟨c1, u1, u2, rfl, hc1, hu1, hu2⟩ := at_pr.mp hx
      refine ⟨_, rfl, _, _, true, rfl, tyT hc1, (by decide +kernel), _, rfl, iteF ?_⟩
      refine ⟨_, rfl, _, 2, rfl, .inr ⟨_, hc1, rfl⟩, rfl, _, rfl, iteF ?_⟩
      refine ⟨_, rfl, c1, rfl, ⟨_, hc1⟩, htb _ hP, fun H3 t3 => ?_⟩
      have k3 := tabbed_kept (htb _ hP) t3
      have tb3 := htb.tabbed t3
      refine all_walk 2 (fun j H' => Kept H2 H' ∧ Tabs Ps H') ⟨k3, tb3⟩ (fun j H' hj h' => itt_go (K := K) (a := c1) (xs := [u1, u2]) (keep_kept h'.1 _ _ hc1) hj) (fun H' h' => itt_stop (K := K) (a := c1) (xs := [u1, u2]) (keep_kept h'.1 _ _ hc1)) ?_ ?_
      · rintro j y H4 H5 hj ⟨k4, tb4⟩ ⟨rfl, y''⟩
        have ey := y'' _ (keep_kept k4 _ _ hc1)
        have kk := hk.trans k4
        have hpl : ∃ pl, OL.PlOk M Tb pl ∧ At K H5 y (kPl pl) := by
          match j, ey with
          | 0, ey => cases ey; exact ⟨_, hpr.1, hu1.keep (keep_kept k4)⟩
          | 1, ey => cases ey; exact ⟨_, hpr.2, hu2.keep (keep_kept k4)⟩
          | n + 2, ey => cases ey
        obtain ⟨pl, h2, h3⟩ := hpl
        refine ⟨rfl, _, rfl, p, dx, fs, rfl, kk _ _ hob (by intro ps z; cases z), l1, _, rfl, p, y, k, M, Tb, pl, rfl, hW.kept kk, ok, okT, h2, h3, ?_⟩
        exact ⟨true, rfl, iteT ⟨k4, tb4⟩⟩
      · rintro H4 ⟨k4, tb4⟩
        exact ⟨true, rfl, iteF ⟨_, rfl, hk.trans k4, tb4⟩⟩
    · rintro σ H1 ⟨x2, rfl, hk, htb⟩
      refine ⟨_, rfl, a, rfl, ⟨_, keep_kept hk _ _ hs⟩, fun D hD => ?_⟩
      refine walkG xs.length (fun i H' => ∃ acc : List V, H' D = some (.lst acc) ∧ Same H1 H' ∧ acc.length = i ∧ ∀ (j : Nat) (o : V), acc[j]? = some o → ∃ (D' : Addr) (pr : OL.Pr), o = V.ref D' ∧ l[j]? = some pr ∧ SqT K H' D' ((ordPr pr).map V.int))
        ⟨[], upd_same, same_lst (Same.refl H1) hD, rfl, fun j o z => by cases z⟩ (fun i H' hi ⟨_, _, z, _⟩ => itt_go (K := K) (keep_same z _ _ (keep_kept hk _ _ hs)) hi) (fun H' ⟨_, _, z, _⟩ => itt_stop (K := K) (keep_same z _ _ (keep_kept hk _ _ hs))) ?_ ?_
      · rintro i x H2 H3 hi ⟨acc, hacc, z2, lacc, hacs⟩ ⟨rfl, y'⟩
        have ex := y' _ (keep_same z2 _ _ (keep_kept hk _ _ hs))
        obtain ⟨pr, epr, hx⟩ := each_pr hall ex
        have hx := hx.keep ((keep_kept hk).trans (keep_same z2))
        refine ⟨rfl, ?_⟩
        refine ⟨_, rfl, x, pr, rfl, hx, fun H4 D' z4 hD' hD2 => ?_⟩
        have hacc4 := z4 _ _ hacc
        refine ⟨acc, hacc4, Nat.lt_of_le_of_lt (show acc.length ≤ 2704 by omega) (by decide), _, upd_same, same_lst (z2.trans z4) hD, by rw [List.length_append, lacc]; rfl, fun j o ej => ?_⟩
        have kD : Keep K H4 (upd H4 D (.lst (acc ++ [.ref D']))) := keep_lst hacc4
        by_cases hj : j < acc.length
        · rw [List.getElem?_append_left hj] at ej
          obtain ⟨D'', pr', h2, h3, h4⟩ := hacs j o ej
          exact ⟨D'', pr', h2, h3, kD _ _ (keep_same z4 _ _ h4)⟩
        · rw [List.getElem?_append_right (by omega)] at ej
          have ej0 : j - acc.length = 0 := by
            cases e0 : j - acc.length with
            | zero => rfl
            | succ n => rw [e0] at ej; cases ej
          rw [ej0] at ej
          cases ej
          have ji : j = i := by omega
          subst ji
          exact ⟨D', pr, rfl, epr, kD _ _ (.inl (.inl hD2))⟩
      · rintro H2 ⟨acc, hacc, z2, lacc, hacs⟩
        have k2 : Kept H H2 := hk.trans (Same.kept z2)
        have tb2 := htb.same z2
        refine ⟨_, rfl, _, rfl, 1, rfl, D, acc, rfl, .inl (.inl hacc), fun D5 hD5 => ?_⟩
        have ecut : cutV acc (some 1) none = acc.drop 1 := by
          unfold cutV
          rw [show (some (1 : Int)) = some ((1 : Nat) : Int) from rfl, HT.sIx_nat, HT.sIx_none]
          have : min 1 acc.length = 1 := by omega
          rw [this, List.take_of_length_le (by rw [List.length_drop]; exact Nat.le_refl _)]
        rw [ecut]
        have z5 : Same H2 (upd H2 D5 (.lst (acc.drop 1))) := same_new hD5
        have hD5' : upd H2 D5 (.lst (acc.drop 1)) D5 = some (.lst (acc.drop 1)) := upd_same
        generalize upd H2 D5 (.lst (acc.drop 1)) = H5 at z5 hD5' ⊢
        refine ⟨D, D5, acc, acc.drop 1, rfl, .inl (.inl (z5 _ _ hacc)), .inl (.inl hD5'), (tb2.same z5) _ hP, fun H6 t6 => ?_⟩
        have k6 := tabbed_kept ((tb2.same z5) _ hP) t6
        have tb6 := (tb2.same z5).tabbed t6
        have n1 : ∀ ps, HO.lst acc ≠ .tbl ps := fun ps z => by cases z
        have n2 : ∀ ps, HO.lst (acc.drop 1) ≠ .tbl ps := fun ps z => by cases z
        refine all_walk (acc.length - 1) (fun j H' => Kept H5 H' ∧ Tabs Ps H') ⟨k6, tb6⟩ (fun j H' hj h' => ⟨acc, acc.drop 1, acc[j], acc[j + 1], .inl (.inl (h'.1 _ _ (z5 _ _ hacc) n1)), .inl (.inl (h'.1 _ _ hD5' n2)), List.getElem?_eq_getElem (by omega), by rw [List.getElem?_drop, Nat.add_comm]; exact List.getElem?_eq_getElem (by omega)⟩)
          (fun H' h' => ⟨acc, acc.drop 1, .inl (.inl (h'.1 _ _ (z5 _ _ hacc) n1)), .inl (.inl (h'.1 _ _ hD5' n2)), .inr (by rw [List.length_drop]; exact Nat.le_refl _)⟩) ?_ ?_
        · rintro j y H7 H8 hj ⟨k7, tb7⟩ ⟨T', x', y', rfl, hT', rfl, q1, q2⟩
          have e1 := q1 _ (.inl (.inl (k7 _ _ (z5 _ _ hacc) n1)))
          have e2 := q2 _ (.inl (.inl (k7 _ _ hD5' n2)))
          rw [List.getElem?_drop, Nat.add_comm] at e2
          obtain ⟨Da, pa, rfl, ela, ha⟩ := hacs j x' e1
          obtain ⟨Db, pb, rfl, elb, hb⟩ := hacs (j + 1) y' e2
          have s8 : Same H7 (upd H7 T' (.tup [.ref Da, .ref Db])) := same_new hT'
          have kk : Keep K H2 (upd H7 T' (.tup [.ref Da, .ref Db])) := (keep_same z5).trans ((keep_kept k7).trans (keep_same s8))
          refine ⟨T', _, rfl, .inl (.inl upd_same), rfl, _, _, rfl, _, _, rfl, rfl, rfl, ?_⟩
          refine ⟨_, rfl, _, rfl, Da, Db, ordPr pa, ordPr pb, rfl, rfl, kk _ _ ha, kk _ _ hb, _, rfl, ?_⟩
          have hlt : HT.lexLt (ordPr pa) (ordPr pb) = true := by
            rw [lexLt_iff]
            obtain ⟨i1, g1⟩ := List.getElem?_eq_some_iff.mp ela
            obtain ⟨i2, g2⟩ := List.getElem?_eq_some_iff.mp elb
            rw [← g1, ← g2]
            exact List.pairwise_iff_getElem.mp asc j (j + 1) i1 i2 (Nat.lt_succ_self _)
          rw [hlt]
          exact iteT ⟨k7.trans (Same.kept s8), tb7.same s8⟩
        · rintro H7 ⟨k7, tb7⟩
          exact q _ (k2.trans ((Same.kept z5).trans k7)) tb7
end
end OLC
end
section
set_option Elab.async false
set_option linter.all false
set_option maxRecDepth 100000
set_option maxHeartbeats 2000000
/-! shows_closed -/
namespace OLC
open PySem PySem.Spec PyProof.Rows L2 OLT
section
variable {P : Program} {w : World} {K : Fr} {mg : Str → Option Value} {base : Heap} {C S f : Addr} {fd : FuncData}
theorem seen_kept {H H' : Hp} {B : Addr} {ks : List NestedKey} (h : ND.SeenAt K P w H B ks) (e : Kept H H') : ND.SeenAt K P w H' B ks := by
  have h0 := h
  obtain ⟨xs, h1, h2, h3, h4, h5, h6⟩ := h0
  exact h.same (by rw [h5]; exact e _ _ h5 (fun _ z => by cases z)) (keep_kept e)
/-- closed, and nothing parts two lives in it -/
def Good (M : Mc) (Tb : OL.Tb) (l : List OL.Pr) : Prop := ∀ p ∈ l, ¬ OL.Bad M Tb p ∧ ∀ q ∈ OL.sucs M Tb p, q ∈ l
def spShows (Ps : List Addr) (K : Fr) : Sp := fun vs H Q _ => ∃ (v u t : V) (M : Mc) (k : Nat) (Tb : OL.Tb) (l : List OL.Pr), vs = [v, .int k, u, t] ∧ HouseAt K H v u M k Tb ∧ At K H t (.tup (l.map kPr)) ∧ Asc l ∧ (∀ q ∈ l, OL.PrOk M Tb q) ∧ OL.START ∈ l ∧ Tabs Ps H ∧
  ∀ (b : Bool) (H' : Hp), Kept H H' → Tabs Ps H' → (b = true ↔ Good M Tb l) → Q (.bl b) H'
theorem ok_shows {c P0 : Addr} {Ps : List Addr} {f1 f2 f3 f4 f5 fI : Addr} {d1 d2 d3 d4 d5 dI : FuncData} (T : Tx K mg C S) (F : FnP K "shows_closed" "shows_closed" sShows f fd) (hc : fd.code = .ref c) (TB : GxR.TabB base mg c P0) (hP : P0 ∈ Ps)
    (G1 : Cal P w K mg base "need_house" 6 pHouse (spHouse Ps K) f1 d1 [] []) (G2 : Cal P w K mg base "is_paper" 4 pIsPaper (spIsPaper Ps K C) f2 d2 [] []) (G3 : CalM P w K mg base C "chosen" 2 pWChosen (spWChosen K C) f3 d3) (G4 : CalM P w K mg base C "together" 2 pWTog (spWTog K C) f4 d4) (G5 : CalM P w K mg base C "marks_to_part" 2 pWPart (spWPart K C) f5 d5)
    (MK : Mk K C fI) (GI : FnOk P w K mg base CX0 2 fI dI pWInit (spWInit K C)) (bI : Binds K dI pWInit []) : FnOk P w K mg base CX0 7 f fd pShows (spShows Ps K) := by
  refine okC F hc scShows (fun vs H Q E h => ?_) (fun A0 outer s H vs Q E hr h => ?_)
  · obtain ⟨v, u, t, M, k, Tb, l, rfl, _⟩ := h
    rfl
  · obtain ⟨v, u, t, M, k, Tb, l, rfl, hh, hv, asc, hok, hst, tb, q⟩ := h
    have hu := hr.units
    refine ⟨_, pss_cons (ps_expr (pe_cal G1 hr (pa_cons (pv 0) (pa_cons (pv 1) (pa_cons (pv 2) pa_nil)))))
      (pss_cons (ps_set (i := 4) scShows.nd rfl (.inl rfl) (pe_make MK GI (hr.mono (by decide)) rfl T.walk bI .nil pass0 (pa_cons (pv 0) (pa_cons (pv 2) pa_nil))))
      (pss_cons (ps_if (PW.pt (pw_or (pt_not (pt_val (pe_cal G2 (hr.mono (by decide)) (pa_cons (pv 4) (pa_cons (pv 3) pa_nil))))) (pw_or1 (pt_cmpR (op_notInTN hu) (pe_glob (v := .ref S) rfl T.start rfl) (pv 3) (by rfl))))) (pss_one (ps_ret pe_bl)) pss_nil)
      (pss_cons (ps_set (i := 10) scShows.nd rfl (.inr rfl) (ND.pe_dcN (own := [("pair", 5)]) (g := gName 5) hu rfl scShows.nd (pi_tup (pv 3)) (blkOk_by (N := nShows) (sc := defScope sShows) (by decide +kernel)) (fun _ _ _ _ _ => pg_name (i := 5) scShows.nd rfl (Or.inl rfl)) (fun _ _ _ _ _ => pv 5) (fun _ _ _ _ _ => pe_bl)))
      (pss_cons (ps_for PassesOwn.never rfl (pi_tup (pv 3)) (pg_name (i := 5) scShows.nd rfl (Or.inl rfl))
        (pss_cons (ps_set (i := 6) scShows.nd rfl (.inl rfl) (pe_calm (pv 4) T.cl G3 (hr.mono (by decide)) (pa_cons (pv 5) pa_nil)))
        (pss_cons (ps_asg (pe_calm (pv 4) T.cl G4 (hr.mono (by decide)) (pa_cons (pv 5) pa_nil)) (pg_tup rfl (pgs_cons (pg_name (i := 7) scShows.nd rfl (.inl rfl)) (pgs_cons (pg_name (i := 8) scShows.nd rfl (.inl rfl)) (pgs_cons (pg_name (i := 9) scShows.nd rfl (.inl rfl)) pgs_nil)))))
        (pss_cons (ps_if (pt_val (pv 7))
          (pss_cons (ps_if (pt_cmpR op_notN (pe_calm (pv 4) T.cl G5 (hr.mono (by decide)) (pa_cons (pv 8) (pa_cons (pv 9) pa_nil))) pe_non (nomark _)) (pss_one (ps_ret pe_bl)) pss_nil)
          (pss_one (ps_if (pt_cmpR op_eq (pe_ix ix_tup (pv 9) pe_int (fun _ _ => rfl)) (pe_ix ix_tup (pv 9) pe_int (fun _ _ => rfl)) (nomark _)) (pss_one (ps_expr (pe_bm PySem.F.plainAttrs_list PySem.F.slot_list_append PySem.F.type_list_append mt_append (pv 6) (pa_cons (pv 8) pa_nil)))) pss_nil))) pss_nil)
        (pss_one (ps_if (pt_not (pt_val (RG.pe_allG (own := [("one", 11)]) (g := gName 11) hr (by rfl) T.all TB rfl rfl scShows.nd (blkOk_by (N := nShows) (sc := defScope sShows) (by decide +kernel)) (by decide +kernel) (by decide +kernel) rfl (pi_list (pv 6))
            (fun _ _ _ _ _ _ _ => pg_name (i := 11) scShows.nd rfl (Or.inl rfl)) (fun _ _ _ _ _ _ _ hr' => pe_cmpR (op_inNK (K := K) (P := P) (w := w) hr'.units) (pv 11) (pv 10) (by rfl)) (fun _ => rfl)))) (pss_one (ps_ret pe_bl)) pss_nil))))))
      (pss_one (ps_ret pe_bl)))))), ?_⟩
    obtain ⟨a, xs, rfl, hs, hall⟩ := at_tup.mp hv
    have lxs : xs.length = l.length := by rw [hall.len, List.length_map]
    have few : l.length ≤ 2704 := OL.pairs_few hh.ok.ok hh.okT (asc_nodup asc) hok
    have hpos : 1 ≤ l.length := List.length_pos_of_mem hst
    refine ⟨_, rfl, _, rfl, _, rfl, v, u, M, k, Tb, rfl, hh.m, hh.t, hh.ok, hh.okT, hh.k1, hh.k4, tb, fun H1 k1 t1 => ?_⟩
    refine ⟨_, rfl, _, rfl, fun x dx hx hdx nex => ?_⟩
    have s1 : Same H1 (upd (upd H1 dx (.own x)) x (.ins C dx [])) := fun b o e => by
      rw [upd_ne (ne_of_none e hx), upd_ne (ne_of_none e hdx)]
      exact e
    have h2 := hh.keep ((keep_kept k1).trans (keep_same s1))
    refine ⟨x, dx, k, M, Tb, v, u, rfl, upd_same, h2.m, h2.t, hh.ok.ok, hh.okT, fun H2 z2 hW => ⟨rfl, ?_⟩⟩
    have s2 : Same H1 H2 := Same.made hx hdx z2
    have kk2 : Kept H H2 := k1.trans (Same.kept s2)
    have tb2 : Tabs Ps H2 := t1.same s2
    have ok := hh.ok.ok
    have okT := hh.okT
    refine ⟨_, rfl, _, rfl, x, _, k, M, Tb, l, rfl, hW, ok, okT, hv.keep (keep_kept kk2), asc, hok, hpos, tb2, fun H3 k3 tb3 => ?_⟩
    refine ⟨true, rfl, iteF ?_⟩
    have kk3 := kk2.trans k3
    have hW3 := hW.kept k3
    refine ⟨_, rfl, kPr OL.START, l.map kPr, T.startAt _, hv.keep (keep_kept kk3), kPr_depth _, _, rfl, ?_⟩
    have eS : decide (kPr OL.START ∈ l.map kPr) = true := decide_eq_true (kPr_mem.mpr hst)
    rw [eS]
    refine iteF ?_
    have hs3 := keep_kept kk3 _ _ hs
    have hall3 := hall.keep (keep_kept kk3)
    refine ⟨_, rfl, a, rfl, ⟨_, hs3⟩, fun D H4 hD seen4 rest4 => ?_⟩
    have s4 : Same H3 H4 := fun b o e => by rw [rest4 b (ne_of_none e hD)]; exact e
    refine walkG xs.length (fun i H' => ND.SeenAt K P w H' D ((l.take i).map kPr) ∧ Same H3 H') ⟨seen4, s4⟩ (fun i H' hi z => itt_go (K := K) (keep_same z.2 _ _ hs3) hi) (fun H' z => itt_stop (K := K) (keep_same z.2 _ _ hs3)) ?_ ?_
    · rintro i y H5 H6 hi ⟨seen5, z5⟩ ⟨rfl, y'⟩
      have ey := y' _ (keep_same z5 _ _ hs3)
      obtain ⟨pr, epr, hy⟩ := each_pr hall3 ey
      have hy := hy.keep (keep_same z5)
      obtain ⟨c1, _, _, rfl, _⟩ := at_pr.mp hy
      have hil : i < l.length := by omega
      have hnew : pr ∉ l.take i := fun z => by
        obtain ⟨j, hj, ej⟩ := List.mem_iff_getElem.mp z
        rw [List.getElem_take] at ej
        rw [List.length_take] at hj
        obtain ⟨_, g1⟩ := List.getElem?_eq_some_iff.mp epr
        have hp := List.pairwise_iff_getElem.mp asc j i (by omega) hil (by omega)
        rw [ej, g1] at hp
        exact List.lt_irrefl _ hp
      refine ⟨rfl, _, rfl, D, c1, kPr pr, _, rfl, rfl, rfl, hy, kPr_depth _, seen5, fun z => hnew (kPr_mem.mp z), Nat.lt_of_le_of_lt (show ((l.take i).map kPr).length ≤ 2704 by rw [List.length_map, List.length_take]; omega) (by decide), fun H7 seen7 rest7 => ⟨?_, fun b o e => by rw [rest7 b (ne_of_none e hD)]; exact z5 b o e⟩⟩
      rw [List.take_add_one, epr, List.map_append]
      exact seen7
    · rintro H5 ⟨seen5, z5⟩
      rw [lxs, List.take_length] at seen5
      have kk5 : Kept H H5 := kk3.trans (Same.kept z5)
      have tb5 : Tabs Ps H5 := tb3.same z5
      have hW5 := hW3.kept (Same.kept z5)
      have hs5 := keep_same z5 _ _ hs3
      have hall5 := hall3.keep (keep_same z5)
      have hins : ∃ dx fs, H5 x = some (.ins C dx fs) ∧ fs.lookup ("together" : Str) = none ∧ fs.lookup ("chosen" : Str) = none ∧ fs.lookup ("marks_to_part" : Str) = none := by
        obtain ⟨d, vm, vt, kvs, ⟨⟨dx, hob⟩, _⟩, _⟩ := hW5
        exact ⟨dx, _, hob, rfl, rfl, rfl⟩
      obtain ⟨dx5, fs, hob, l1, l2, l3⟩ := hins
      have hobk : ∀ {H'}, Kept H5 H' → H' x = some (.ins C dx5 fs) := fun e => e _ _ hob (fun _ z => by cases z)
      refine ⟨_, rfl, a, rfl, ⟨_, hs5⟩, for_walk xs.length (fun i σ H' => ∃ y5 y6 y7 y8 y9, σ = [some v, some (.int k), some u, some (.ref a), some (.ref x), y5, y6, y7, y8, y9, some (.ref D), none] ∧ Kept H5 H' ∧ Tabs Ps H' ∧ ND.SeenAt K P w H' D (l.map kPr) ∧ ∀ j p, j < i → l[j]? = some p → ¬ OL.Bad M Tb p ∧ ∀ q ∈ OL.sucs M Tb p, q ∈ l)
        ⟨_, _, _, _, _, rfl, Kept.refl, tb5, seen5, fun j p hj => absurd hj (Nat.not_lt_zero _)⟩ (fun i σ H' hi ⟨_, _, _, _, _, _, z, _⟩ => itt_go (K := K) (keep_kept z _ _ hs5) hi) (fun σ H' ⟨_, _, _, _, _, _, z, _⟩ => itt_stop (K := K) (keep_kept z _ _ hs5)) ?_ ?_⟩
      · rintro i y σ H6 H6' hi ⟨y5, y6, y7, y8, y9, rfl, k6, tb6, seen6, done6⟩ ⟨rfl, y'⟩
        have ey := y' _ (keep_kept k6 _ _ hs5)
        obtain ⟨pr, epr, hy⟩ := each_pr hall5 ey
        have hy := hy.keep (keep_kept k6)
        have hprl := List.mem_of_getElem? epr
        have hpr := hok pr hprl
        have nogood : ∀ (H' : Hp), Kept H5 H' → Tabs Ps H' → ¬ (¬ OL.Bad M Tb pr ∧ ∀ q ∈ OL.sucs M Tb pr, q ∈ l) → Q (.bl false) H' := fun H' kx tx hx => q false H' (kk5.trans kx) tx ⟨fun z => (by cases z), fun z => absurd (z pr hprl) hx⟩
        refine ⟨_, rfl, x, dx5, fs, rfl, hobk k6, l2, _, rfl, x, y, M, Tb, pr, rfl, hW5.kept k6, ok, hpr, hy, fun H7 D7 ys z7 hDn hD7 hys => ?_⟩
        have k7 := k6.trans (Same.kept z7)
        have hy7 := hy.keep (keep_same z7)
        refine ⟨_, rfl, x, dx5, fs, rfl, hobk k7, l1, _, rfl, x, k, y, M, Tb, pr, rfl, hW5.kept k7, ok, okT, hpr, hy7, fun H8 D8 z8 tog => ?_⟩
        have k8 := k7.trans (Same.kept z8)
        have tb8 := (tb6.same z7).same z8
        have seen8 := SeenKept (SeenKept seen6 z7) z8
        have hD8 := z8 _ _ hD7
        have hys8 := hys.keep (keep_same z8)
        rcases tog with ⟨et, hT8⟩ | ⟨ps, ws, uu, a3, et, hT8, hu8, ha8⟩
        · refine ⟨D8, _, rfl, hT8, rfl, _, _, rfl, _, _, rfl, _, _, rfl, rfl, ?_⟩
          refine ⟨_, rfl, _, rfl, iteF ?_⟩
          have hbad : ¬ OL.Bad M Tb pr := OL.not_bad_none et
          have es : OL.sucs M Tb pr = OL.chosen M pr := by unfold OL.sucs OL.last1; rw [et]; simp
          rw [← es] at hys8
          have nl : ∀ ps', HO.lst ys ≠ .tbl ps' := fun _ z => by cases z
          refine ⟨_, rfl, D7, rfl, ⟨_, .inl (.inl hD8)⟩, tb8 _ hP, fun HT tT => ?_⟩
          have kT := tabbed_kept (tb8 _ hP) tT
          have tbT := tb8.tabbed tT
          refine all_walk ys.length (fun j H' => H' = HT ∧ ∀ q ∈ (OL.sucs M Tb pr).take j, q ∈ l) ⟨rfl, fun q hq => by simp at hq⟩ (fun j H' hj h' => itl_go (K := K) (by rw [h'.1]; exact .inl (.inl (kT _ _ hD8 nl))) hj) (fun H' h' => itl_stop (K := K) (by rw [h'.1]; exact .inl (.inl (kT _ _ hD8 nl)))) ?_ ?_
          · rintro j y1 HX HY hj ⟨rfl, hin⟩ ⟨rfl, y''⟩
            have ey1 := y'' _ (.inl (.inl (kT _ _ hD8 nl)))
            obtain ⟨q1, eq1, hy1⟩ := each_pr hys8 ey1
            have hy1 := hy1.keep (keep_kept kT)
            obtain ⟨c1, _, _, rfl, _⟩ := at_pr.mp hy1
            refine ⟨rfl, _, rfl, _, rfl, c1, D, kPr q1, _, rfl, rfl, hy1, kPr_depth _, seen_kept seen8 kT, _, rfl, ?_⟩
            by_cases hq1 : q1 ∈ l
            · have e1 : decide (kPr q1 ∈ l.map kPr) = true := decide_eq_true (kPr_mem.mpr hq1)
              rw [e1]
              refine iteT ⟨rfl, fun q hq => ?_⟩
              rw [List.take_add_one, eq1] at hq
              rcases List.mem_append.mp hq with z | z
              · exact hin q z
              · rw [show q = q1 by simpa using z]
                exact hq1
            · have e1 : decide (kPr q1 ∈ l.map kPr) = false := decide_eq_false (fun z => hq1 (kPr_mem.mp z))
              rw [e1]
              refine iteF ⟨false, rfl, iteT ?_⟩
              exact nogood _ (k8.trans kT) tbT (fun z => hq1 (z.2 q1 (List.mem_of_getElem? eq1)))
          · rintro HX ⟨rfl, hin⟩
            have lym : ys.length = (OL.sucs M Tb pr).length := by rw [hys8.len, List.length_map]
            rw [lym, List.take_length] at hin
            refine ⟨true, rfl, iteF ⟨_, _, _, _, _, rfl, k8.trans kT, tbT, seen_kept seen8 kT, fun j p hj ep => ?_⟩⟩
            by_cases hji : j < i
            · exact done6 j p hji ep
            · have e1 : j = i := by omega
              subst e1
              rw [epr] at ep
              cases ep
              exact ⟨hbad, hin⟩
        · refine ⟨D8, _, rfl, hT8, rfl, _, _, rfl, _, _, rfl, _, _, rfl, rfl, ?_⟩
          have hps : OL.PrOk M Tb ps := by
            obtain ⟨s1, o1, n1, s2, o2, n2, e0, _, e1, _⟩ := OL.together_some et
            subst e0
            rw [e1]
            exact ⟨OL.goneOn_ok ok hpr.1, OL.goneOn_ok ok hpr.2⟩
          refine ⟨_, rfl, _, rfl, iteT ?_⟩
          refine ⟨_, rfl, x, dx5, fs, rfl, hobk k8, l3, _, rfl, _, rfl, x, a3, uu, k, M, Tb, ps, ws, rfl, hW5.kept k8, ok, okT, hps, hu8, ha8, fun r hr' => ?_⟩
          rcases hr' with ⟨hpart, i', rfl⟩ | ⟨hpart, rfl⟩
          · refine ⟨rfl, _, rfl, iteN (by intro z; cases z) ?_⟩
            exact nogood _ k8 tb8 (fun z => z.1 ((OL.bad_some et).mpr hpart))
          · refine ⟨rfl, _, rfl, iteNS rfl ?_⟩
            have hbad : ¬ OL.Bad M Tb pr := fun z => hpart ((OL.bad_some et).mp z)
            obtain ⟨w1, w2⟩ := ws
            refine ⟨_, rfl, a3, _, _, _, rfl, rfl, ha8, rfl, _, rfl, a3, _, _, _, rfl, rfl, ha8, (atI_nat (j := 1) rfl), (by cases w1 <;> cases w2 <;> rfl), _, rfl, ?_⟩
            by_cases hw : w1 = w2
            · refine iteD (by rw [hw]) ?_
              have lys : ys.length ≤ 8 := by rw [hys8.len, List.length_map]; exact OL.chosen_few ok hpr
              refine ⟨_, rfl, .inl ⟨rfl, _, .inl (.inl hD8)⟩, _, rfl, D7, ys, _, rfl, rfl, hD8, small1000 (by omega), ?_⟩
              have nD7 : H6' D7 = none := hDn
              have kD : Keep K H8 (upd H8 D7 (.lst (ys ++ [uu]))) := keep_lst hD8
              have s9 : Same H6' (upd H8 D7 (.lst (ys ++ [uu]))) := same_lst (z7.trans z8) hDn
              have k9 : Kept H5 (upd H8 D7 (.lst (ys ++ [uu]))) := k6.trans (Same.kept s9)
              have tb9 : Tabs Ps (upd H8 D7 (.lst (ys ++ [uu]))) := tb6.same s9
              have seen9 : ND.SeenAt K P w (upd H8 D7 (.lst (ys ++ [uu]))) D (l.map kPr) := SeenKept seen6 s9
              have es : OL.sucs M Tb pr = OL.chosen M pr ++ [ps] := by unfold OL.sucs OL.last1; rw [et]; simp [hw]
              have hys9 : Ats K (upd H8 D7 (.lst (ys ++ [uu]))) (ys ++ [uu]) ((OL.sucs M Tb pr).map kPr) := by
                rw [es, List.map_append]
                exact (hys8.keep kD).snoc (hu8.keep kD)
              have hD9 : upd H8 D7 (.lst (ys ++ [uu])) D7 = some (.lst (ys ++ [uu])) := upd_same
              clear k8 tb8 seen8 hys8 hD8
              generalize upd H8 D7 (.lst (ys ++ [uu])) = H9 at k9 tb9 seen9 hys9 hD9 ⊢
              generalize ys ++ [uu] = ys9 at hys9 hD9 ⊢
              have nl : ∀ ps', HO.lst ys9 ≠ .tbl ps' := fun _ z => by cases z
              refine ⟨_, rfl, D7, rfl, ⟨_, .inl (.inl hD9)⟩, tb9 _ hP, fun HT tT => ?_⟩
              have kT := tabbed_kept (tb9 _ hP) tT
              have tbT := tb9.tabbed tT
              refine all_walk ys9.length (fun j H' => H' = HT ∧ ∀ q ∈ (OL.sucs M Tb pr).take j, q ∈ l) ⟨rfl, fun q hq => by simp at hq⟩ (fun j H' hj h' => itl_go (K := K) (by rw [h'.1]; exact .inl (.inl (kT _ _ hD9 nl))) hj) (fun H' h' => itl_stop (K := K) (by rw [h'.1]; exact .inl (.inl (kT _ _ hD9 nl)))) ?_ ?_
              · rintro j y1 HX HY hj ⟨rfl, hin⟩ ⟨rfl, y''⟩
                have ey1 := y'' _ (.inl (.inl (kT _ _ hD9 nl)))
                obtain ⟨q1, eq1, hy1⟩ := each_pr hys9 ey1
                have hy1 := hy1.keep (keep_kept kT)
                obtain ⟨c1, _, _, rfl, _⟩ := at_pr.mp hy1
                refine ⟨rfl, _, rfl, _, rfl, c1, D, kPr q1, _, rfl, rfl, hy1, kPr_depth _, seen_kept seen9 kT, _, rfl, ?_⟩
                by_cases hq1 : q1 ∈ l
                · have e1 : decide (kPr q1 ∈ l.map kPr) = true := decide_eq_true (kPr_mem.mpr hq1)
                  rw [e1]
                  refine iteT ⟨rfl, fun q hq => ?_⟩
                  rw [List.take_add_one, eq1] at hq
                  rcases List.mem_append.mp hq with z | z
                  · exact hin q z
                  · rw [show q = q1 by simpa using z]
                    exact hq1
                · have e1 : decide (kPr q1 ∈ l.map kPr) = false := decide_eq_false (fun z => hq1 (kPr_mem.mp z))
                  rw [e1]
                  refine iteF ⟨false, rfl, iteT ?_⟩
                  exact nogood _ (k9.trans kT) tbT (fun z => hq1 (z.2 q1 (List.mem_of_getElem? eq1)))
              · rintro HX ⟨rfl, hin⟩
                have lym : ys9.length = (OL.sucs M Tb pr).length := by rw [hys9.len, List.length_map]
                rw [lym, List.take_length] at hin
                refine ⟨true, rfl, iteF ⟨_, _, _, _, _, rfl, k9.trans kT, tbT, seen_kept seen9 kT, fun j p hj ep => ?_⟩⟩
                by_cases hji : j < i
                · exact done6 j p hji ep
                · have e1 : j = i := by omega
                  subst e1
                  rw [epr] at ep
                  cases ep
                  exact ⟨hbad, hin⟩
            · refine iteDN (fun z => hw (vW_inj z)) ?_
              have es : OL.sucs M Tb pr = OL.chosen M pr := by unfold OL.sucs OL.last1; rw [et]; simp [hw]
              rw [← es] at hys8
              have nl : ∀ ps', HO.lst ys ≠ .tbl ps' := fun _ z => by cases z
              refine ⟨_, rfl, D7, rfl, ⟨_, .inl (.inl hD8)⟩, tb8 _ hP, fun HT tT => ?_⟩
              have kT := tabbed_kept (tb8 _ hP) tT
              have tbT := tb8.tabbed tT
              refine all_walk ys.length (fun j H' => H' = HT ∧ ∀ q ∈ (OL.sucs M Tb pr).take j, q ∈ l) ⟨rfl, fun q hq => by simp at hq⟩ (fun j H' hj h' => itl_go (K := K) (by rw [h'.1]; exact .inl (.inl (kT _ _ hD8 nl))) hj) (fun H' h' => itl_stop (K := K) (by rw [h'.1]; exact .inl (.inl (kT _ _ hD8 nl)))) ?_ ?_
              · rintro j y1 HX HY hj ⟨rfl, hin⟩ ⟨rfl, y''⟩
                have ey1 := y'' _ (.inl (.inl (kT _ _ hD8 nl)))
                obtain ⟨q1, eq1, hy1⟩ := each_pr hys8 ey1
                have hy1 := hy1.keep (keep_kept kT)
                obtain ⟨c1, _, _, rfl, _⟩ := at_pr.mp hy1
                refine ⟨rfl, _, rfl, _, rfl, c1, D, kPr q1, _, rfl, rfl, hy1, kPr_depth _, seen_kept seen8 kT, _, rfl, ?_⟩
                by_cases hq1 : q1 ∈ l
                · have e1 : decide (kPr q1 ∈ l.map kPr) = true := decide_eq_true (kPr_mem.mpr hq1)
                  rw [e1]
                  refine iteT ⟨rfl, fun q hq => ?_⟩
                  rw [List.take_add_one, eq1] at hq
                  rcases List.mem_append.mp hq with z | z
                  · exact hin q z
                  · rw [show q = q1 by simpa using z]
                    exact hq1
                · have e1 : decide (kPr q1 ∈ l.map kPr) = false := decide_eq_false (fun z => hq1 (kPr_mem.mp z))
                  rw [e1]
                  refine iteF ⟨false, rfl, iteT ?_⟩
                  exact nogood _ (k8.trans kT) tbT (fun z => hq1 (z.2 q1 (List.mem_of_getElem? eq1)))
              · rintro HX ⟨rfl, hin⟩
                have lym : ys.length = (OL.sucs M Tb pr).length := by rw [hys8.len, List.length_map]
                rw [lym, List.take_length] at hin
                refine ⟨true, rfl, iteF ⟨_, _, _, _, _, rfl, k8.trans kT, tbT, seen_kept seen8 kT, fun j p hj ep => ?_⟩⟩
                by_cases hji : j < i
                · exact done6 j p hji ep
                · have e1 : j = i := by omega
                  subst e1
                  rw [epr] at ep
                  cases ep
                  exact ⟨hbad, hin⟩
      · rintro σ H6 ⟨y5, y6, y7, y8, y9, rfl, k6, tb6, seen6, done6⟩
        refine q true H6 (kk5.trans k6) tb6 ⟨fun _ p hp => ?_, fun _ => rfl⟩
        obtain ⟨j, hj, ej⟩ := List.mem_iff_getElem.mp hp
        exact done6 j p (by omega) (by rw [List.getElem?_eq_getElem hj, ej])
end
end OLC
end
section
set_option Elab.async false
set_option linter.all false
set_option maxRecDepth 100000
set_option maxHeartbeats 2000000
/-! the law's draws -/
namespace OLC
open PySem PySem.Spec PyProof.Rows L2 OLT
/-- the list at a stays when what stands at r changes -/
def Far (K : Fr) (a r : Addr) (xs : List V) : Prop := a ≠ r ∨ ∀ H, SqL K H a xs
theorem But.seqF {K : Fr} {H H' : Hp} {r a : Addr} {xs : List V} (e : But r H H') (n : Far K a r xs) (h : SqL K H a xs) : SqL K H' a xs := n.elim (fun n => e.seq n h) fun n => n H'
theorem far_new {K : Fr} {H : Hp} {r a : Addr} {xs : List V} (h : SqL K H a xs) (hr : H r = none) : Far K a r xs := by
  rcases h with (h | ⟨o, h⟩) | h
  · exact .inl (ne_of_none h hr)
  · exact .inl (ne_of_none h hr)
  · exact .inr fun _ => .inr h
/-- the row of draws at r -/
def Rw (H : Hp) (r a : Addr) : Prop := ∃ i z e : Int, H r = some (.lst [.ref a, .int i, .int z, .int e]) ∧ 0 ≤ i ∧ 0 ≤ z ∧ z < 2147483647
theorem Rw.lst {H : Hp} {r a : Addr} (h : Rw H r a) : ∃ ys, H r = some (.lst ys) := by
  obtain ⟨i, z, e, h, _⟩ := h
  exact ⟨_, h⟩
theorem Rw.same {H H' : Hp} {r a : Addr} (h : Rw H r a) (e : Same H H') : Rw H' r a := by
  obtain ⟨i, z, e0, h1, h2⟩ := h
  exact ⟨i, z, e0, e _ _ h1, h2⟩
theorem Rw.keep {K : Fr} {H H' : Hp} {r a : Addr} (h : Rw H r a) (e : But r H H') : Keep K H H' := by
  obtain ⟨ys, h⟩ := h.lst
  exact e.tup h
section
variable {P : Program} {w : World} {K : Fr} {mg : Str → Option Value} {base : Heap} {C S f : Addr} {fd : FuncData}
theorem fmod_in {x : Int} {m : Nat} (h : 1 ≤ m) : 0 ≤ x.fmod (m : Int) ∧ x.fmod (m : Int) < m := ⟨Int.fmod_nonneg_of_pos x (by omega), Int.fmod_lt_of_pos x (by omega)⟩
def spTaken (K : Fr) : Sp := fun vs H Q _ => ∃ (r a : Addr) (ns : List Int) (m : Nat), vs = [.ref r, .int m] ∧ Rw H r a ∧ SqL K H a (ns.map V.int) ∧ Far K a r (ns.map V.int) ∧ 1 ≤ m ∧ m ≤ 1000 ∧ ∀ (x : Nat) (H' : Hp), x < m → But r H H' → Rw H' r a → Q (.int x) H'
theorem ok_taken (T : Tx K mg C S) (F : FnP K "_law_taken" "_law_taken" sLTaken f fd) : FnOk P w K mg base CX0 1 f fd pLTaken (spTaken K) := by
  refine okN F scLTaken (fun vs H Q E h => ?_) (fun cdv A0 outer s H vs Q E hr h => ?_)
  · obtain ⟨r, a, ns, m, rfl, _⟩ := h
    rfl
  · obtain ⟨r, a, ns, m, rfl, ⟨i, z, e, hrr, hi, hz, hz2⟩, hs, har, hm, hm2, q⟩ := h
    have hm0 : (m : Int) ≠ 0 := by omega
    refine ⟨_, pss_cons (ps_if (pt_cmpR op_gt (pe_ix ix_list (pv 0) pe_int (fun _ _ => rfl)) pe_int (nomark _))
        (pss_cons (ps_set (i := 2) scLTaken.nd rfl (.inl rfl) (pe_op op_modN (pe_callTy call_int1 (by rfl) T.int (by decide +kernel) (pa_cons (pe_ix ix_list (pv 0) pe_int (fun _ _ => rfl)) pa_nil)) (pv 1)))
        (pss_cons (ps_asg (pe_op op_fdivN (pe_ix ix_list (pv 0) pe_int (fun _ _ => rfl)) (pv 1)) (pg_sub (pv 0) pe_int set_list))
        (pss_one (ps_ret (pv 2))))) pss_nil)
      (pss_cons (ps_asg (pe_op op_add (pe_ix ix_list (pv 0) pe_int (fun _ _ => rfl)) pe_int) (pg_sub (pv 0) pe_int set_list))
      (pss_cons (ps_if (pt_cmpR op_gt (pe_ix ix_list (pv 0) pe_int (fun _ _ => rfl)) (pe_callB call_len (by rfl) T.len boot_len (pa_cons (pe_ix ix_list (pv 0) pe_int (fun _ _ => rfl)) pa_nil)) (nomark _))
        (pss_cons (ps_asg (pe_op op_modN (pe_callTy call_int1 (by rfl) T.int (by decide +kernel) (pa_cons (pe_op op_add (pe_op op_mul (pe_ix ix_list (pv 0) pe_int (fun _ _ => rfl)) pe_int) pe_int) pa_nil)) pe_int) (pg_sub (pv 0) pe_int set_list))
        (pss_one (ps_ret (pe_op op_modN (pe_callTy call_int1 (by rfl) T.int (by decide +kernel) (pa_cons (pe_op op_fdivN (pe_ix ix_list (pv 0) pe_int (fun _ _ => rfl)) pe_int) pa_nil)) (pv 1))))) pss_nil)
      (pss_cons (ps_set (i := 3) scLTaken.nd rfl (.inl rfl) (pe_ix ix_list (pe_ix ix_list (pv 0) pe_int (fun _ _ => rfl)) (pe_op op_sub (pe_ix ix_list (pv 0) pe_int (fun _ _ => rfl)) pe_int) (fun _ _ => rfl)))
      (pss_cons (ps_asg (pe_op op_modN (pe_callTy call_int1 (by rfl) T.int (by decide +kernel) (pa_cons (pe_op op_add (pe_op op_add (pe_op op_mul (pe_ix ix_list (pv 0) pe_int (fun _ _ => rfl)) pe_int) (pv 3)) pe_int) pa_nil)) pe_int) (pg_sub (pv 0) pe_int set_list))
      (pss_cons (ps_if (pt_cmpR op_ge (pv 3) (pe_op op_pow pe_int pe_int) (nomark _)) (pss_one (ps_asg (pe_op op_fdivN (pv 3) (pv 1)) (pg_sub (pv 0) pe_int set_list))) pss_nil)
      (pss_one (ps_ret (pe_op op_modN (pe_callTy call_int1 (by rfl) T.int (by decide +kernel) (pa_cons (pv 3) pa_nil)) (pv 1))))))))), ?_⟩
    have nat : ∀ (y : Int) (H' : Hp), But r H H' → Rw H' r a → Q (.int (y.fmod m)) H' := fun y H' b1 b2 => by
      obtain ⟨g1, g2⟩ := fmod_in (x := y) hm
      have e : y.fmod m = ((y.fmod m).toNat : Int) := by omega
      rw [e]
      exact q _ H' (by omega) b1 b2
    have m31 : ∀ y : Int, 0 ≤ y.fmod 2147483647 ∧ y.fmod 2147483647 < 2147483647 := fun y => ⟨Int.fmod_nonneg_of_pos y (by decide), Int.fmod_lt_of_pos y (by decide)⟩
    refine ⟨_, rfl, r, _, _, _, rfl, rfl, .inl (.inl hrr), (atI_nat (j := 3) rfl), _, _, rfl, rfl, _, rfl, ?_⟩
    by_cases he : 0 < e
    · refine iteD he ?_
      refine ⟨_, rfl, r, _, _, _, rfl, rfl, .inl (.inl hrr), (atI_nat (j := 3) rfl), .inl ⟨_, rfl, _, rfl, _, _, rfl, rfl, hm0, ?_⟩⟩
      refine ⟨_, rfl, r, _, _, _, rfl, rfl, .inl (.inl hrr), (atI_nat (j := 3) rfl), _, rfl, _, _, rfl, rfl, ⟨hm0, by omega⟩, _, rfl, r, _, _, 3, rfl, rfl, hrr, rfl, ?_⟩
      refine ⟨_, rfl, nat _ _ but_upd ⟨i, z, _, upd_same, hi, hz, hz2⟩⟩
    · refine iteDN he ?_
      refine ⟨_, rfl, r, _, _, _, rfl, rfl, .inl (.inl hrr), (atI_nat (j := 1) rfl), _, _, rfl, rfl, _, rfl, r, _, _, 1, rfl, rfl, hrr, rfl, ?_⟩
      have h1 : upd H r (.lst (([.ref a, .int i, .int z, .int e] : List V).set 1 (.int (i + 1)))) r = some (.lst [.ref a, .int (i + 1), .int z, .int e]) := upd_same
      have b1 : But r H (upd H r (.lst (([.ref a, .int i, .int z, .int e] : List V).set 1 (.int (i + 1))))) := but_upd
      generalize upd H r (.lst (([.ref a, .int i, .int z, .int e] : List V).set 1 (.int (i + 1)))) = H1 at h1 b1 ⊢
      have hs1 : SqL K H1 a (ns.map V.int) := b1.seqF har hs
      refine ⟨_, rfl, r, _, _, _, rfl, rfl, .inl (.inl h1), (atI_nat (j := 1) rfl), _, rfl, r, _, _, _, rfl, rfl, .inl (.inl h1), rfl, _, ns.length, rfl, .inl ⟨_, hs1, by rw [List.length_map]⟩, _, _, rfl, rfl, _, rfl, ?_⟩
      by_cases hlt : (ns.length : Int) < i + 1
      · refine iteD hlt ?_
        refine ⟨_, rfl, r, _, _, _, rfl, rfl, .inl (.inl h1), (atI_nat (j := 2) rfl), _, _, rfl, rfl, .inl ⟨by omega, by omega⟩, _, _, rfl, rfl, (.inl ⟨_, rfl, _, _, rfl, rfl, (by show (2147483647 : Int) ≠ 0; decide), _, rfl, r, _, _, 2, rfl, rfl, h1, rfl, ?_⟩)⟩
        have h2 : ∀ y : Int, upd H1 r (.lst (([.ref a, .int (i + 1), .int z, .int e] : List V).set 2 (.int y))) r = some (.lst [.ref a, .int (i + 1), .int y, .int e]) := fun y => upd_same
        refine ⟨_, rfl, r, _, _, _, rfl, rfl, .inl (.inl (h2 _)), (atI_nat (j := 2) rfl), _, _, rfl, rfl, ⟨by decide, by decide⟩, .inl ⟨_, rfl, _, rfl, _, _, rfl, rfl, hm0, ?_⟩⟩
        exact nat _ _ (b1.trans but_upd) ⟨_, _, _, h2 _, by omega, m31 _⟩
      · refine iteDN hlt ?_
        have hlen : i.toNat < ns.length := by omega
        have ec : (ns.map V.int)[i.toNat]? = some (.int ns[i.toNat]) := by rw [List.getElem?_map, List.getElem?_eq_getElem hlen]; rfl
        generalize ns[i.toNat] = cell at ec
        have ei : ((i + 1) - 1 : Int) = (i.toNat : Int) := by omega
        refine ⟨_, rfl, r, _, _, _, rfl, rfl, .inl (.inl h1), rfl, _, rfl, r, _, _, _, rfl, rfl, .inl (.inl h1), (atI_nat (j := 1) rfl), _, _, rfl, rfl, a, _, _, _, rfl, rfl, hs1, (by rw [ei]; exact atI_nat ec), ?_⟩
        refine ⟨_, rfl, r, _, _, _, rfl, rfl, .inl (.inl h1), (atI_nat (j := 2) rfl), _, _, rfl, rfl, .inl ⟨by omega, by omega⟩, _, rfl, _, _, rfl, rfl, _, _, rfl, rfl, (.inl ⟨_, rfl, _, _, rfl, rfl, (by show (2147483647 : Int) ≠ 0; decide), _, rfl, r, _, _, 2, rfl, rfl, h1, rfl, ?_⟩)⟩
        have h2 : ∀ y : Int, upd H1 r (.lst (([.ref a, .int (i + 1), .int z, .int e] : List V).set 2 (.int y))) r = some (.lst [.ref a, .int (i + 1), .int y, .int e]) := fun y => upd_same
        refine ⟨_, rfl, _, _, rfl, rfl, ⟨by decide, by decide, by decide⟩, _, _, rfl, rfl, _, rfl, ?_⟩
        refine ite2 (fun _ => ?_) (fun _ => ?_)
        · refine ⟨_, rfl, _, rfl, _, _, rfl, rfl, ⟨hm0, by omega⟩, _, rfl, r, _, _, 3, rfl, rfl, h2 _, rfl, ?_⟩
          refine ⟨_, rfl, .inl ⟨_, rfl, _, rfl, _, _, rfl, rfl, hm0, ?_⟩⟩
          exact nat _ _ (b1.trans (but_upd.trans but_upd)) ⟨_, _, _, upd_same, by omega, m31 _⟩
        · refine ⟨_, rfl, .inl ⟨_, rfl, _, rfl, _, _, rfl, rfl, hm0, ?_⟩⟩
          exact nat _ _ (b1.trans but_upd) ⟨_, _, _, h2 _, by omega, m31 _⟩
end
end OLC
end
section
set_option Elab.async false
set_option linter.all false
set_option maxRecDepth 100000
set_option maxHeartbeats 2000000
/-! the law's rows -/
namespace OLC
open PySem PySem.Spec PyProof.Rows L2 OLT
section
variable {P : Program} {w : World} {K : Fr} {mg : Str → Option Value} {base : Heap} {C S f : Addr} {fd : FuncData}
theorem but_new {r p : Addr} {H H' : Hp} {o : HO} (b : But r H H') (h : H p = none) : But r H (upd H' p o) := fun c u n e => by
  rw [upd_ne (ne_of_none e h)]
  exact b c u n e
def spPick (K : Fr) : Sp := fun vs H Q _ => ∃ (r a t : Addr) (ns : List Int) (xs : List V), vs = [.ref r, .ref t] ∧ Rw H r a ∧ SqL K H a (ns.map V.int) ∧ Far K a r (ns.map V.int) ∧ SqL K H t xs ∧ t ≠ r ∧ 1 ≤ xs.length ∧ xs.length ≤ 1000 ∧ ∀ (x : V) (H' : Hp), x ∈ xs → But r H H' → Rw H' r a → Q x H'
theorem ok_pick {fT : Addr} {dT : FuncData} (T : Tx K mg C S) (F : FnP K "_law_pick" "_law_pick" sLPick f fd) (GT : Cal P w K mg base "_law_taken" 1 pLTaken (spTaken K) fT dT [] []) : FnOk P w K mg base CX0 2 f fd pLPick (spPick K) := by
  refine okN F scLPick (fun vs H Q E h => ?_) (fun cdv A0 outer s H vs Q E hr h => ?_)
  · obtain ⟨r, a, t, ns, xs, rfl, _⟩ := h
    rfl
  · obtain ⟨r, a, t, ns, xs, rfl, hrw, hs, har, ht, htr, h1, h2, q⟩ := h
    refine ⟨_, pss_one (ps_ret (pe_ix ix_list (pv 1) (pe_cal GT hr (pa_cons (pv 0) (pa_cons (pe_callB call_len (by rfl) T.len boot_len (pa_cons (pv 1) pa_nil)) pa_nil))) (fun _ _ => rfl))), ?_⟩
    refine ⟨_, rfl, _, rfl, _, rfl, _, xs.length, rfl, .inl ⟨_, ht, rfl⟩, r, a, ns, xs.length, rfl, hrw, hs, har, h1, h2, fun x H' hx b rw' => ?_⟩
    exact ⟨t, _, _, _, rfl, rfl, b.seq htr ht, atI_nat (List.getElem?_eq_getElem hx), q _ H' (List.getElem_mem hx) b rw'⟩
theorem row_snoc {rw : List Nat} {x : Nat} : (rw ++ [x]).map (fun m : Nat => V.int m) = rw.map (fun m : Nat => V.int m) ++ [.int x] := by simp
def spLRow (K : Fr) : Sp := fun vs H Q _ => ∃ (r a : Addr) (ns : List Int) (k m : Nat), vs = [.ref r, .int k, .int m] ∧ Rw H r a ∧ SqL K H a (ns.map V.int) ∧ Far K a r (ns.map V.int) ∧ 1 ≤ k ∧ k ≤ 1000 ∧ 1 ≤ m ∧ m ≤ 500 ∧
  ∀ (rw : List Nat) (D : Addr) (H' : Hp), But r H H' → Rw H' r a → SqT K H' D (rw.map fun m : Nat => V.int m) → 1 ≤ rw.length → rw.length ≤ m → (∀ x ∈ rw, x < k) → Q (.ref D) H'
theorem ok_lrow {fT : Addr} {dT : FuncData} (T : Tx K mg C S) (F : FnP K "_law_row" "_law_row" sLRow f fd) (GT : Cal P w K mg base "_law_taken" 1 pLTaken (spTaken K) fT dT [] []) : FnOk P w K mg base CX0 2 f fd pLRow (spLRow K) := by
  refine okN F scLRow (fun vs H Q E h => ?_) (fun cdv A0 outer s H vs Q E hr h => ?_)
  · obtain ⟨r, a, ns, k, m, rfl, _⟩ := h
    rfl
  · obtain ⟨r, a, ns, k, m, rfl, hrw, hs, har, k1, k2, m1, m2, q⟩ := h
    refine ⟨_, pss_one (ps_ret (pe_callTy call_tuple_of (by rfl) T.tup (by decide +kernel) (pa_cons (pe_lc (own := [("_law_place", 3)]) (g := gName 3) rfl scLRow.nd (pi_range1 rfl T.rng (pa_cons (pe_op op_add pe_int (pe_cal GT hr (pa_cons (pv 0) (pa_cons (pv 2) pa_nil)))) pa_nil))
      (blkOk_by (N := nLRow) (sc := defScope sLRow) (by decide +kernel)) (fun _ _ _ _ _ => pg_name (i := 3) scLRow.nd rfl (Or.inl rfl)) (fun _ _ _ _ _ => pts_nil) (fun _ _ _ _ _ => pe_cal GT hr (pa_cons (pv 0) (pa_cons (pv 1) pa_nil)))) pa_nil))), ?_⟩
    refine ⟨_, rfl, _, rfl, r, a, ns, m, rfl, hrw, hs, har, m1, by omega, fun n H1 hn b1 rw1 => ?_⟩
    refine ⟨_, _, rfl, rfl, _, rfl, by omega, by omega, fun D hD => ?_⟩
    have hrs : ∃ o, H1 r = some o := by obtain ⟨i, z, e, h, _⟩ := rw1; exact ⟨_, h⟩
    obtain ⟨o1, ho1⟩ := hrs
    have nrD : r ≠ D := ne_of_none ho1 hD
    refine walkG (n + 1) (fun i H' => ∃ rw : List Nat, H' D = some (.lst (rw.map fun m : Nat => V.int m)) ∧ But r H1 H' ∧ Rw H' r a ∧ rw.length = i ∧ ∀ x ∈ rw, x < k)
      ⟨[], upd_same, but_new But.refl hD, by obtain ⟨i, z, e, h, h2⟩ := rw1; exact ⟨i, z, e, by rw [upd_ne nrD]; exact h, h2⟩, rfl, fun x hx => by cases hx⟩ (fun i H' hi _ => by show i < Int.toNat _; omega) (fun H' _ => by show Int.toNat _ ≤ _; omega) ?_ ?_
    · rintro i x H2 H3 hi ⟨rw, hacc, b2, rw2, hl, hk⟩ ⟨rfl, rfl⟩
      refine ⟨rfl, ?_⟩
      refine ⟨_, rfl, _, rfl, r, a, ns, k, rfl, rw2, b2.seqF har (b1.seqF har hs), har, k1, k2, fun y H4 hy b4 rw4 => ?_⟩
      have hacc4 := b4 D _ nrD.symm hacc
      refine ⟨_, hacc4, small1000 (by rw [List.length_map]; omega), rw ++ [y], by rw [upd_same, row_snoc], but_new (b2.trans b4) hD, ?_, by rw [List.length_append, hl]; rfl, fun z hz => ?_⟩
      · obtain ⟨i', z', e', h', h2'⟩ := rw4
        exact ⟨i', z', e', by rw [upd_ne nrD]; exact h', h2'⟩
      · rcases List.mem_append.mp hz with z1 | z1
        · exact hk z z1
        · rw [List.mem_singleton.mp z1]; exact hy
    · rintro H2 ⟨rw, hacc, b2, rw2, hl, hk⟩
      refine ⟨D, _, rfl, .inl ⟨.inl (.inl hacc), fun l hl' => ?_⟩⟩
      refine q rw l _ ?_ (rw2.same (same_new hl')) (.inl (.inl upd_same)) (by omega) (by omega) hk
      exact (b1.trans b2).trans (Same.but (same_new hl'))
/-- rows of one length -/
def RowsAre (K : Fr) (H : Hp) (xs : List V) (k n : Nat) : Prop := ∀ x ∈ xs, ∃ (c : Addr) (rw : List Nat), x = V.ref c ∧ SqT K H c (rw.map fun m : Nat => V.int m) ∧ rw.length = n ∧ ∀ m ∈ rw, m < k
theorem RowsAre.keep {H H' : Hp} {xs : List V} {k n : Nat} (h : RowsAre K H xs k n) (e : Keep K H H') : RowsAre K H' xs k n := fun x hx => by
  obtain ⟨c, rw, h1, h2, h3⟩ := h x hx
  exact ⟨c, rw, h1, e _ _ h2, h3⟩
def spEvery (K : Fr) : Sp := fun vs H Q _ => ∃ k n : Nat, vs = [.int k, .int n] ∧ 1 ≤ k ∧ k ≤ 4 ∧ n ≤ 2 ∧ ∀ (H' : Hp) (D : Addr) (xs : List V), Same H H' → H D = none → H' D = some (.lst xs) → xs.length = k ^ n → RowsAre K H' xs k n → Q (.ref D) H'
theorem ok_every (T : Tx K mg C S) (F : FnP K "_law_every" "_law_every" sLEvery f fd) : FnOk P w K mg base CX0 1 f fd pLEvery (spEvery K) := by
  refine okN F scLEvery (fun vs H Q E h => ?_) (fun cdv A0 outer s H vs Q E hr h => ?_)
  · obtain ⟨k, n, rfl, _⟩ := h
    rfl
  · obtain ⟨k, n, rfl, k1, k4, n2, q⟩ := h
    refine ⟨_, pss_cons (ps_set (i := 2) scLEvery.nd rfl (.inl rfl) (pe_lst (pa_cons (pe_tup pa_nil) pa_nil)))
      (pss_cons (ps_for PassesOwn.never rfl (pi_range1 rfl T.rng (pa_cons (pv 1) pa_nil)) (pg_name (i := 3) scLEvery.nd rfl (Or.inl rfl))
        (pss_cons (ps_set (i := 4) scLEvery.nd rfl (.inl rfl) (pe_lst pa_nil))
        (pss_cons (ps_for PassesOwn.never rfl (pi_list (pv 2)) (pg_name (i := 5) scLEvery.nd rfl (Or.inr rfl))
          (pss_one (ps_set (i := 4) scLEvery.nd rfl (.inl rfl) (pe_op op_cat (pv 4) (pe_lc (own := [("_law_mark", 6)]) (g := gName 6) rfl scLEvery.nd (pi_range1 rfl T.rng (pa_cons (pv 0) pa_nil)) (blkOk_by (N := nLEvery) (sc := defScope sLEvery) (by decide +kernel)) (fun _ _ _ _ _ => pg_name (i := 6) scLEvery.nd rfl (Or.inl rfl)) (fun _ _ _ _ _ => pts_nil)
            (fun _ _ _ _ _ => pe_op (op_catAK (K := K)) (pv 5) (pe_tup (pa_cons (pv 6) pa_nil))))))))
        (pss_one (ps_set (i := 2) scLEvery.nd rfl (.inl rfl) (pv 4))))))
      (pss_one (ps_ret (pv 2)))), ?_⟩
    refine ⟨Nat.zero_le _, fun p0 hp0 => ⟨Nat.succ_le_of_lt (by decide), fun D0 hD0 => ?_⟩⟩
    have s0 : Same H (upd (upd H p0 (.tup [])) D0 (.lst [.ref p0])) := (same_new hp0).trans (same_new hD0)
    have hD0H : H D0 = none := (same_new hp0).free hD0
    have np : p0 ≠ D0 := ne_of_none upd_same hD0
    refine ⟨_, rfl, _, rfl, by omega, by omega, for_rng n rfl (fun i σ H' => ∃ D xs x3 x4 x5, σ = [some (.int k), some (.int n), some (.ref D), x3, x4, x5, none] ∧ Same H H' ∧ H D = none ∧ H' D = some (.lst xs) ∧ xs.length = k ^ i ∧ RowsAre K H' xs k i)
      ⟨D0, _, _, _, _, rfl, s0, hD0H, upd_same, rfl, fun x hx => ⟨p0, [], List.mem_singleton.mp hx, .inl (.inl (by rw [upd_ne np]; exact upd_same)), rfl, fun m hm => by cases hm⟩⟩ ?_ ?_⟩
    · rintro i σ H1 hi ⟨D, xs, x3, x4, x5, rfl, s1, hDn, hD, hl, hrows⟩
      have lxs : xs.length ≤ 4 := by
        rw [hl]
        have : i = 0 ∨ i = 1 := by omega
        rcases this with z | z <;> subst z
        · simp
        · simpa using k4
      refine ⟨Nat.zero_le _, fun L hL => ?_⟩
      have s2 : Same H1 (upd H1 L (.lst [])) := same_new hL
      have nDL : D ≠ L := ne_of_none hD hL
      have hLH : H L = none := s1.free hL
      refine ⟨_, rfl, D, rfl, ⟨_, .inl (.inl (s2 _ _ hD))⟩, for_walk xs.length (fun j σ H' => ∃ L ys x5, σ = [some (.int k), some (.int n), some (.ref D), some (.int (0 + (i : Nat))), some (.ref L), x5, none] ∧ Same H1 H' ∧ H1 L = none ∧ H' L = some (.lst ys) ∧ ys.length = j * k ∧ RowsAre K H' ys k (i + 1))
        ⟨L, [], _, rfl, s2, hL, upd_same, by simp, fun x hx => by cases hx⟩ (fun j σ H' hj ⟨_, _, _, _, z, _⟩ => itl_go (K := K) (.inl (.inl (z _ _ hD))) hj) (fun σ H' ⟨_, _, _, _, z, _⟩ => itl_stop (K := K) (.inl (.inl (z _ _ hD)))) ?_ ?_⟩
      · rintro j x σ H2 H3 hj ⟨L', ys, x5', rfl, s3, hL'n, hL', hly, hry⟩ ⟨rfl, y'⟩
        have ex := y' _ (.inl (.inl (s3 _ _ hD)))
        obtain ⟨c, rw, rfl, hc, hrl, hrk⟩ := hrows x (List.mem_of_getElem? ex)
        refine ⟨_, rfl, _, rfl, _, rfl, by omega, by omega, fun D2 hD2 => ?_⟩
        refine walkG k (fun m H' => ∃ acc, H' D2 = some (.lst acc) ∧ Same H3 H' ∧ acc.length = m ∧ RowsAre K H' acc k (i + 1)) ⟨[], upd_same, same_lst (Same.refl H3) hD2, rfl, fun x hx => by cases hx⟩ (fun m H' hm _ => by show m < Int.toNat _; omega) (fun H' _ => by show Int.toNat _ ≤ _; omega) ?_ ?_
        · rintro m x H4 H5 hm ⟨acc, hacc, s4, hla, hra⟩ ⟨rfl, rfl⟩
          refine ⟨rfl, ?_⟩
          refine ⟨_, rfl, _, rfl, Nat.succ_le_of_lt (by decide), fun p1 hp1 => ?_⟩
          have s5 := same_new (o := .tup [.int (0 + (m : Nat))]) hp1
          have hcz : SqT K (upd H5 p1 (.tup [.int (0 + (m : Nat))])) c (rw.map fun m : Nat => V.int m) := keep_same s5 _ _ (keep_same (s3.trans s4) _ _ hc)
          have hla2 : acc.length < sizeLine := small1000 (by omega)
          have mk : ∀ (H6 : Hp) (o : Addr), Same H5 H6 → SqT K H6 o ((rw ++ [m]).map fun m : Nat => V.int m) → ∃ acc', H6 D2 = some (.lst acc') ∧ acc'.length < sizeLine ∧ ∃ acc'', upd H6 D2 (.lst (acc' ++ [.ref o])) D2 = some (.lst acc'') ∧ Same H3 (upd H6 D2 (.lst (acc' ++ [.ref o]))) ∧ acc''.length = m + 1 ∧ RowsAre K (upd H6 D2 (.lst (acc' ++ [.ref o]))) acc'' k (i + 1) := fun H6 o s6 ho => by
            refine ⟨acc, s6 _ _ hacc, hla2, _, upd_same, same_lst (s4.trans s6) hD2, by rw [List.length_append, hla]; rfl, fun z hz => ?_⟩
            have kd : Keep K H6 (upd H6 D2 (.lst (acc ++ [.ref o]))) := keep_lst (s6 _ _ hacc)
            rcases List.mem_append.mp hz with z1 | z1
            · obtain ⟨c', rw', g1, g2, g3⟩ := hra z z1
              exact ⟨c', rw', g1, kd _ _ (keep_same s6 _ _ g2), g3⟩
            · refine ⟨o, rw ++ [m], List.mem_singleton.mp z1, kd _ _ ho, by rw [List.length_append, hrl]; rfl, fun y hy => ?_⟩
              rcases List.mem_append.mp hy with y1 | y1
              · exact hrk y y1
              · rw [List.mem_singleton.mp y1]; exact hm
          have hp1' : SqT K (upd H5 p1 (.tup [.int (0 + (m : Nat))])) p1 [.int (m : Nat)] := .inl (.inl (by rw [upd_same, Int.zero_add]))
          refine ⟨c, p1, rw.map (fun m : Nat => V.int m), _, rfl, rfl, hcz, hp1', lenLine (by rw [List.length_map]; show rw.length + 1 ≤ 1000; omega), fun e0 => ?_, fun _ e0 => (by cases e0), fun _ _ p2 hp2 => ?_⟩
          · have e1 : rw = [] := by simpa using e0
            exact mk _ p1 s5 (by rw [e1]; exact hp1')
          · exact mk _ p2 (s5.trans (same_new hp2)) (.inl (.inl (by rw [upd_same, row_snoc])))
        · rintro H4 ⟨acc, hacc, s4, hla, hra⟩
          have hly2 : ys.length + acc.length ≤ sizeLine := by
            have : j * k ≤ 4 * 4 := Nat.mul_le_mul (by omega) k4
            exact lenLine (by omega)
          refine ⟨L', D2, ys, acc, rfl, rfl, s4 _ _ hL', hacc, hly2, fun L2 hL2 => ?_⟩
          have s6 := same_new (o := .lst (ys ++ acc)) hL2
          refine ⟨L2, ys ++ acc, _, rfl, s3.trans (s4.trans s6), (s3.trans s4).free hL2, upd_same, by rw [List.length_append, hly, hla, Nat.add_mul, Nat.one_mul], fun z hz => ?_⟩
          rcases List.mem_append.mp hz with z1 | z1
          · exact (hry.keep (keep_same (s4.trans s6))) z z1
          · exact (hra.keep (keep_same s6)) z z1
      · rintro σ H2 ⟨L', ys, x5', rfl, s3, hL'n, hL', hly, hry⟩
        refine ⟨_, rfl, L', ys, _, _, _, rfl, s1.trans s3, s1.free hL'n, hL', ?_, hry⟩
        rw [hly, hl, Nat.pow_succ]
    · rintro σ H1 ⟨D, xs, x3, x4, x5, rfl, s1, hDn, hD, hl, hrows⟩
      exact ⟨_, rfl, q H1 D xs s1 hDn hD hl hrows⟩
end
end OLC
end
section
set_option Elab.async false
set_option linter.all false
set_option maxRecDepth 100000
set_option maxHeartbeats 2000000
/-! the law's machine -/
namespace OLC
open PySem PySem.Spec PyProof.Rows L2 OLT
section
variable {P : Program} {w : World} {K : Fr} {mg : Str → Option Value} {base : Heap} {C S f : Addr} {fd : FuncData}
def words6 : List V := [.non, .str "a", .str "b", .str "yes", .str "no", .str "ab"]
theorem plain_of {x : Str} (h : decide (1 ≤ x.length ∧ x.length ≤ 8 ∧ ∀ c ∈ x.cps.toList, c ∈ ("abcdefghijklmnopqrstuvwxyz" : Str).cps.toList) = true) : WordOk (some x) := fun y e => by
  cases e
  have h2 := of_decide_eq_true h
  exact h2
theorem words_ok {x : V} (h : x ∈ words6) : ∃ wd, x = vW wd ∧ WordOk wd := by
  simp only [words6, List.mem_cons, List.not_mem_nil, or_false] at h
  rcases h with h | h | h | h | h | h
  · exact ⟨none, h, fun y e => by cases e⟩
  · exact ⟨some "a", h, plain_of (by decide +kernel)⟩
  · exact ⟨some "b", h, plain_of (by decide +kernel)⟩
  · exact ⟨some "yes", h, plain_of (by decide +kernel)⟩
  · exact ⟨some "no", h, plain_of (by decide +kernel)⟩
  · exact ⟨some "ab", h, plain_of (by decide +kernel)⟩
/-- so far: the states of a machine of n states -/
structure Sts (n : Nat) (M : Mc) : Prop where
  few : ∀ st ∈ M, st.length ≤ 4
  opt : ∀ st ∈ M, ∀ o ∈ st, o.1 < n ∧ WordOk o.2
theorem rw_new {H' : Hp} {r a p : Addr} {o : HO} (h : Rw H' r a) (n : H' p = none) : Rw (upd H' p o) r a := h.same (same_new n)
theorem rw_lst {H' : Hp} {r a p : Addr} {o : HO} (h : Rw H' r a) (n : r ≠ p) : Rw (upd H' p o) r a := by
  obtain ⟨i, z, e, h1, h2⟩ := h
  exact ⟨i, z, e, by rw [upd_ne n]; exact h1, h2⟩
def spLMach (K : Fr) : Sp := fun vs H Q _ => ∃ (r a : Addr) (ns : List Int), vs = [.ref r, .int 4, .int 4] ∧ Rw H r a ∧ SqL K H a (ns.map V.int) ∧ Far K a r (ns.map V.int) ∧ ∀ (M : Mc) (v : V) (H' : Hp), But r H H' → Rw H' r a → McOk M → At K H' v (kMc M) → Q v H'
theorem ok_lmach {f1 f2 : Addr} {d1 d2 : FuncData} (T : Tx K mg C S) (F : FnP K "_law_machine" "_law_machine" sLMach f fd) (G1 : Cal P w K mg base "_law_taken" 1 pLTaken (spTaken K) f1 d1 [] []) (G2 : Cal P w K mg base "_law_pick" 2 pLPick (spPick K) f2 d2 [] []) : FnOk P w K mg base CX0 3 f fd pLMach (spLMach K) := by
  refine okN F scLMach (fun vs H Q E h => ?_) (fun cdv A0 outer s H vs Q E hr h => ?_)
  · obtain ⟨r, a, ns, rfl, _⟩ := h
    rfl
  · obtain ⟨r, a, ns, rfl, hrw, hs, har, q⟩ := h
    have hr1 := hr.mono (j := 1) (by decide)
    refine ⟨_, pss_cons (ps_par (i := 3) (j := 4) (by rfl) scLMach.nd rfl rfl (by decide) rfl rfl (pa_cons (pe_op op_add pe_int (pe_cal G1 hr1 (pa_cons (pv 0) (pa_cons (pv 1) pa_nil)))) (pa_cons (pe_lst pa_nil) pa_nil)) (by rfl))
      (pss_cons (ps_set (i := 5) scLMach.nd rfl (.inl rfl) (pe_lst (pa_cons pe_non (pa_cons pe_str (pa_cons pe_str (pa_cons pe_str (pa_cons pe_str (pa_cons pe_str pa_nil))))))))
      (pss_cons (ps_set (i := 6) scLMach.nd rfl (.inl rfl) (pe_cal G1 hr1 (pa_cons (pv 0) (pa_cons pe_int pa_nil))))
      (pss_cons (ps_for PassesOwn.never rfl (pi_range1 rfl T.rng (pa_cons (pv 3) pa_nil)) (pg_name (i := 7) scLMach.nd rfl (Or.inl rfl))
        (pss_cons (ps_set (i := 8) scLMach.nd rfl (.inl rfl) (pe_lst pa_nil))
        (pss_cons (ps_set (i := 9) scLMach.nd rfl (.inl rfl) (pe_callTy call_int1 (by rfl) T.int (by decide +kernel) (pa_cons (pe_and (pe_cmpR op_eq (pv 7) pe_int (nomark _)) (pe_one (pe_cmpR op_gt (pv 6) pe_int (nomark _)))) pa_nil)))
        (pss_cons (ps_for PassesOwn.never rfl (pi_range1 rfl T.rng (pa_cons (pe_op op_add (pv 9) (pe_cal G1 hr1 (pa_cons (pv 0) (pa_cons (pe_op op_sub (pe_op op_add (pv 2) pe_int) (pv 9)) pa_nil)))) pa_nil)) (pg_name (i := 10) scLMach.nd rfl (Or.inl rfl))
          (pss_cons (ps_set (i := 11) scLMach.nd rfl (.inl rfl) (pe_cal G2 hr (pa_cons (pv 0) (pa_cons (pe_ifExp (pt_cmpR op_lt (pv 6) pe_int (nomark _)) (pv 5) (pe_slice sl_list (pv 5) (po_some pe_int) po_none)) pa_nil))))
          (pss_one (ps_expr (pe_bm PySem.F.plainAttrs_list PySem.F.slot_list_append PySem.F.type_list_append mt_append (pv 8) (pa_cons (pe_tup (pa_cons (pe_cal G1 hr1 (pa_cons (pv 0) (pa_cons (pv 3) pa_nil))) (pa_cons (pv 11) pa_nil))) pa_nil))))))
        (pss_one (ps_expr (pe_bm PySem.F.plainAttrs_list PySem.F.slot_list_append PySem.F.type_list_append mt_append (pv 4) (pa_cons (pe_callTy call_tuple_of (by rfl) T.tup (by decide +kernel) (pa_cons (pv 8) pa_nil)) pa_nil))))))))
      (pss_one (ps_ret (pe_callTy call_tuple_of (by rfl) T.tup (by decide +kernel) (pa_cons (pv 4) pa_nil))))))), ?_⟩
    refine ⟨_, rfl, _, rfl, r, a, ns, 4, rfl, hrw, hs, har, by decide, by decide, fun n0 H1 hn0 b1 rw1 => ?_⟩
    refine ⟨_, _, rfl, rfl, Nat.zero_le _, fun F0 hF0 => ⟨_, _, rfl, ?_⟩⟩
    have em : (1 + (n0 : Int)) = ((n0 + 1 : Nat) : Int) := by omega
    refine ⟨Nat.le_of_lt (by show 6 < sizeLine; decide), fun W0 hW0 => ?_⟩
    have nF0H : ¬ H F0 ≠ none := fun z => by
      cases e : H F0 with
      | none => exact z e
      | some u => exact absurd hF0 (by rw [b1 F0 u (fun q => by obtain ⟨_, h⟩ := rw1.lst; rw [← q, hF0] at h; cases h) e]; intro z; cases z)
    have nFW : F0 ≠ W0 := ne_of_none upd_same hW0
    have nrF : r ≠ F0 := by obtain ⟨ys, h⟩ := rw1.lst; exact ne_of_none h hF0
    have nrW : r ≠ W0 := by obtain ⟨ys, h⟩ := (rw_new (o := .lst []) rw1 hF0).lst; exact ne_of_none h hW0
    have b2 : But r H (upd (upd H1 F0 (.lst [])) W0 (.lst words6)) := (b1.trans (Same.but (same_new hF0))).trans (Same.but (same_new hW0))
    have rw2 : Rw (upd (upd H1 F0 (.lst [])) W0 (.lst words6)) r a := rw_new (rw_new rw1 hF0) hW0
    refine ⟨_, rfl, r, a, ns, 3, rfl, rw2, b2.seqF har hs, har, by decide, by decide, fun way H3 hway b3 rw3 => ?_⟩
    have hF3 : H3 F0 = some (.lst []) := b3 _ _ nrF.symm (by rw [upd_ne nFW]; exact upd_same)
    have hW3 : H3 W0 = some (.lst words6) := b3 _ _ nrW.symm upd_same
    have b03 := b2.trans b3
    -- from here on: relative to H3
    refine ⟨_, rfl, _, rfl, by omega, by omega, for_rng (n0 + 1) em (fun i σ H' => ∃ (M' : Mc) (xs : List V) (x7 x8 x9 x10 x11 : Option V), σ = [some (.ref r), some (.int 4), some (.int 4), some (.int (1 + (n0 : Int))), some (.ref F0), some (.ref W0), some (.int way), x7, x8, x9, x10, x11] ∧ But r H H' ∧ Rw H' r a ∧ H' W0 = some (.lst words6) ∧ H' F0 = some (.lst xs) ∧ Ats K H' xs (M'.map kSt) ∧ M'.length = i ∧ Sts (n0 + 1) M')
      ⟨[], [], _, _, _, _, _, rfl, b03, rw3, hW3, hF3, .nil', rfl, ⟨fun st h => (by cases h), fun st h => (by cases h)⟩⟩ ?_ ?_⟩
    · rintro i σ H4 hi ⟨M', xs, x7, x8, x9, x10, x11, rfl, b4, rw4, hW4, hF4, hxs, hl, sts⟩
      refine ⟨Nat.zero_le _, fun L0 hL0 => ?_⟩
      have nFL : F0 ≠ L0 := ne_of_none hF4 hL0
      have nWL : W0 ≠ L0 := ne_of_none hW4 hL0
      have nrL : r ≠ L0 := by obtain ⟨ys, h⟩ := rw4.lst; exact ne_of_none h hL0
      have s5 : Same H4 (upd H4 L0 (.lst [])) := same_new hL0
      have hL5 : upd H4 L0 (.lst []) L0 = some (.lst []) := upd_same
      generalize upd H4 L0 (.lst []) = H5 at s5 hL5 ⊢
      have b5 := b4.trans (Same.but s5)
      have rw5 := rw4.same s5
      have least : ∀ (k : Bool), ∃ le : Nat, le ≤ 1 ∧ (V.int (if k = true then 1 else 0)) = .int le := fun k => by
        cases k
        · exact ⟨0, by decide, rfl⟩
        · exact ⟨1, by decide, rfl⟩
      refine ⟨_, rfl, rfl, _, rfl, ?_⟩
      by_cases hz : (V.int (0 + (i : Nat)) = V.int 0)
      · refine iteD hz ?_
        refine ⟨_, rfl, _, _, rfl, rfl, .inr ⟨_, rfl, ?_⟩⟩
        obtain ⟨le, hle, ele⟩ := least (decide ((0 : Int) < (way : Nat)))
        rw [ele]
        refine ⟨_, rfl, _, rfl, _, rfl, _, _, rfl, rfl, _, rfl, _, _, rfl, rfl, r, a, ns, 5 - le, (by show [V.ref r, V.int ((4 : Int) + 1 - (le : Int))] = _; rw [show (4 : Int) + 1 - (le : Int) = ((5 - le : Nat) : Int) by omega]), rw5, b5.seqF har hs, har, by omega, by omega, fun n1 H6 hn1 b6 rw6 => ?_⟩
        refine ⟨_, _, rfl, rfl, _, rfl, by omega, by omega, for_rng (le + n1) (by omega) (fun j σ H' => ∃ (st : List (Nat × Option Str)) (ys : List V) (x10 x11 : Option V), σ = [some (.ref r), some (.int 4), some (.int 4), some (.int (1 + (n0 : Int))), some (.ref F0), some (.ref W0), some (.int way), some (.int (0 + (i : Nat))), some (.ref L0), some (.int (le : Nat)), x10, x11] ∧ But r H4 H' ∧ Rw H' r a ∧ H' L0 = some (.lst ys) ∧ Ats K H' ys (st.map kOpt) ∧ st.length = j ∧ ∀ o ∈ st, o.1 < n0 + 1 ∧ WordOk o.2)
          ⟨[], [], _, _, rfl, (Same.but s5).trans b6, rw6, b6 _ _ nrL.symm hL5, .nil', rfl, fun o ho => by cases ho⟩ ?_ ?_⟩
        · rintro j σ H6' hj ⟨st, ys, x10', x11', rfl, b6, rw6, hL6, hys, hst, hopts⟩
          have hW6 : H6' W0 = some (.lst words6) := b6 _ _ nrW.symm hW4
          refine ⟨_, rfl, _, rfl, _, _, rfl, rfl, _, rfl, ?_⟩
          refine ite2 (fun _ => ?_) (fun _ => ?_)
          · refine ⟨_, rfl, r, a, W0, ns, words6, rfl, rw6, (b4.trans b6).seqF har hs, har, .inl (.inl hW6), nrW.symm, by decide, by decide, fun x H7 hx b7 rw7 => ?_⟩
            have b7' : But r H6' H7 := b7
            have kb7 : Keep K H6' H7 := rw6.keep b7
            obtain ⟨wd, rfl, hwd⟩ := words_ok hx
            have hL7 : H7 L0 = some (.lst ys) := b7 _ _ nrL.symm hL6
            refine ⟨_, rfl, .inl ⟨rfl, _, .inl (.inl hL7)⟩, _, rfl, _, rfl, r, a, ns, n0 + 1, (by rw [← em]; rfl), rw7, (b4.trans (b6.trans b7')).seqF har hs, har, by omega, by omega, fun y H8 hy b8 rw8 => ⟨_, rfl, (by show 2 ≤ sizeLine; decide), fun p hp => ?_⟩⟩
            have hL8 : H8 L0 = some (.lst ys) := b8 _ _ nrL.symm hL7
            have s9 : Same H8 (upd H8 p (.tup [.int (y : Nat), vW wd])) := same_new hp
            have hL9 := s9 _ _ hL8
            have lys : ys.length = st.length := by rw [hys.len, List.length_map]
            refine ⟨L0, ys, _, rfl, rfl, hL9, small1000 (by omega), ?_⟩
            have kL : Keep K (upd H8 p (.tup [.int (y : Nat), vW wd])) (upd (upd H8 p (.tup [.int (y : Nat), vW wd])) L0 (.lst (ys ++ [.ref p]))) := keep_lst hL9
            refine ⟨st ++ [(y, wd)], _, _, _, rfl, but_new (((b6.trans b7').trans b8).trans (Same.but s9)) hL0, rw_lst (rw8.same s9) nrL, upd_same, ?_, by rw [List.length_append, hst]; rfl, fun o ho => ?_⟩
            · rw [List.map_append]
              exact (hys.keep ((kb7.trans (rw7.keep b8)).trans ((keep_same s9).trans kL))).snoc (at_opt.mpr ⟨p, rfl, kL _ _ (.inl (.inl upd_same))⟩)
            · rcases List.mem_append.mp ho with z | z
              · exact hopts o z
              · rw [List.mem_singleton.mp z]
                exact ⟨hy, hwd⟩
          · refine ⟨_, rfl, 1, rfl, W0, words6, rfl, .inl (.inl hW6), fun pc hpc => ?_⟩
            have sc : Same H6' (upd H6' pc (.lst (cutV words6 (some 1) none))) := same_new hpc
            have npr : pc ≠ r := fun z => by obtain ⟨_, h⟩ := rw6.lst; rw [← z, hpc] at h; cases h
            refine ⟨r, a, pc, ns, _, rfl, rw6.same sc, ((b4.trans b6).trans (Same.but sc)).seqF har hs, har, .inl (.inl upd_same), npr, by decide, by decide, fun x H7 hx b7 rw7 => ?_⟩
            have b7' : But r H6' H7 := (Same.but sc).trans b7
            have kb7 : Keep K H6' H7 := (keep_same sc).trans ((rw6.same sc).keep b7)
            have hx : x ∈ words6 := List.mem_of_mem_drop (List.mem_of_mem_take hx)
            have b7 : But r H6' H7 := b7'
            obtain ⟨wd, rfl, hwd⟩ := words_ok hx
            have hL7 : H7 L0 = some (.lst ys) := b7 _ _ nrL.symm hL6
            refine ⟨_, rfl, .inl ⟨rfl, _, .inl (.inl hL7)⟩, _, rfl, _, rfl, r, a, ns, n0 + 1, (by rw [← em]; rfl), rw7, (b4.trans (b6.trans b7')).seqF har hs, har, by omega, by omega, fun y H8 hy b8 rw8 => ⟨_, rfl, (by show 2 ≤ sizeLine; decide), fun p hp => ?_⟩⟩
            have hL8 : H8 L0 = some (.lst ys) := b8 _ _ nrL.symm hL7
            have s9 : Same H8 (upd H8 p (.tup [.int (y : Nat), vW wd])) := same_new hp
            have hL9 := s9 _ _ hL8
            have lys : ys.length = st.length := by rw [hys.len, List.length_map]
            refine ⟨L0, ys, _, rfl, rfl, hL9, small1000 (by omega), ?_⟩
            have kL : Keep K (upd H8 p (.tup [.int (y : Nat), vW wd])) (upd (upd H8 p (.tup [.int (y : Nat), vW wd])) L0 (.lst (ys ++ [.ref p]))) := keep_lst hL9
            refine ⟨st ++ [(y, wd)], _, _, _, rfl, but_new (((b6.trans b7').trans b8).trans (Same.but s9)) hL0, rw_lst (rw8.same s9) nrL, upd_same, ?_, by rw [List.length_append, hst]; rfl, fun o ho => ?_⟩
            · rw [List.map_append]
              exact (hys.keep ((kb7.trans (rw7.keep b8)).trans ((keep_same s9).trans kL))).snoc (at_opt.mpr ⟨p, rfl, kL _ _ (.inl (.inl upd_same))⟩)
            · rcases List.mem_append.mp ho with z | z
              · exact hopts o z
              · rw [List.mem_singleton.mp z]
                exact ⟨hy, hwd⟩
        · rintro σ H6' ⟨st, ys, x10', x11', rfl, b6, rw6, hL6, hys, hst, hopts⟩
          have hF6 : H6' F0 = some (.lst xs) := b6 _ _ nrF.symm hF4
          have hW6 : H6' W0 = some (.lst words6) := b6 _ _ nrW.symm hW4
          refine ⟨_, rfl, .inl ⟨rfl, _, .inl (.inl hF6)⟩, _, rfl, L0, ys, rfl, .inl ⟨.inl (.inl hL6), fun l hl' => ?_⟩⟩
          have s7 : Same H6' (upd H6' l (.tup ys)) := same_new hl'
          have hF7 := s7 _ _ hF6
          have lxs : xs.length = M'.length := by rw [hxs.len, List.length_map]
          refine ⟨F0, xs, _, rfl, rfl, hF7, small1000 (by omega), ?_⟩
          have kF : Keep K (upd H6' l (.tup ys)) (upd (upd H6' l (.tup ys)) F0 (.lst (xs ++ [.ref l]))) := keep_lst hF7
          have bF : But r H (upd (upd H6' l (.tup ys)) F0 (.lst (xs ++ [.ref l]))) := fun c u n e => by
            have hc : c ≠ F0 := fun z => nF0H (by rw [← z, e]; intro z; cases z)
            rw [upd_ne hc]
            exact ((b4.trans b6).trans (Same.but s7)) c u n e
          refine ⟨M' ++ [st], _, _, _, _, _, _, rfl, bF, rw_lst (rw6.same s7) nrF, by rw [upd_ne nFW.symm]; exact s7 _ _ hW6, upd_same, ?_, by rw [List.length_append, hl]; rfl, ⟨fun st' h' => ?_, fun st' h' => ?_⟩⟩
          · rw [List.map_append]
            exact (hxs.keep ((rw4.keep b6).trans ((keep_same s7).trans kF))).snoc (at_tup.mpr ⟨l, ys, rfl, kF _ _ (.inl (.inl upd_same)), hys.keep ((keep_same s7).trans kF)⟩)
          · rcases List.mem_append.mp h' with z | z
            · exact sts.few st' z
            · rw [List.mem_singleton.mp z]; omega
          · rcases List.mem_append.mp h' with z | z
            · exact sts.opt st' z
            · rw [List.mem_singleton.mp z]; exact hopts
      · refine iteDN hz (.inr ⟨_, rfl, ?_⟩)
        obtain ⟨le, hle, ele⟩ := least false
        rw [ele]
        refine ⟨_, rfl, _, rfl, _, rfl, _, _, rfl, rfl, _, rfl, _, _, rfl, rfl, r, a, ns, 5 - le, (by show [V.ref r, V.int ((4 : Int) + 1 - (le : Int))] = _; rw [show (4 : Int) + 1 - (le : Int) = ((5 - le : Nat) : Int) by omega]), rw5, b5.seqF har hs, har, by omega, by omega, fun n1 H6 hn1 b6 rw6 => ?_⟩
        refine ⟨_, _, rfl, rfl, _, rfl, by omega, by omega, for_rng (le + n1) (by omega) (fun j σ H' => ∃ (st : List (Nat × Option Str)) (ys : List V) (x10 x11 : Option V), σ = [some (.ref r), some (.int 4), some (.int 4), some (.int (1 + (n0 : Int))), some (.ref F0), some (.ref W0), some (.int way), some (.int (0 + (i : Nat))), some (.ref L0), some (.int (le : Nat)), x10, x11] ∧ But r H4 H' ∧ Rw H' r a ∧ H' L0 = some (.lst ys) ∧ Ats K H' ys (st.map kOpt) ∧ st.length = j ∧ ∀ o ∈ st, o.1 < n0 + 1 ∧ WordOk o.2)
          ⟨[], [], _, _, rfl, (Same.but s5).trans b6, rw6, b6 _ _ nrL.symm hL5, .nil', rfl, fun o ho => by cases ho⟩ ?_ ?_⟩
        · rintro j σ H6' hj ⟨st, ys, x10', x11', rfl, b6, rw6, hL6, hys, hst, hopts⟩
          have hW6 : H6' W0 = some (.lst words6) := b6 _ _ nrW.symm hW4
          refine ⟨_, rfl, _, rfl, _, _, rfl, rfl, _, rfl, ?_⟩
          refine ite2 (fun _ => ?_) (fun _ => ?_)
          · refine ⟨_, rfl, r, a, W0, ns, words6, rfl, rw6, (b4.trans b6).seqF har hs, har, .inl (.inl hW6), nrW.symm, by decide, by decide, fun x H7 hx b7 rw7 => ?_⟩
            have b7' : But r H6' H7 := b7
            have kb7 : Keep K H6' H7 := rw6.keep b7
            obtain ⟨wd, rfl, hwd⟩ := words_ok hx
            have hL7 : H7 L0 = some (.lst ys) := b7 _ _ nrL.symm hL6
            refine ⟨_, rfl, .inl ⟨rfl, _, .inl (.inl hL7)⟩, _, rfl, _, rfl, r, a, ns, n0 + 1, (by rw [← em]; rfl), rw7, (b4.trans (b6.trans b7')).seqF har hs, har, by omega, by omega, fun y H8 hy b8 rw8 => ⟨_, rfl, (by show 2 ≤ sizeLine; decide), fun p hp => ?_⟩⟩
            have hL8 : H8 L0 = some (.lst ys) := b8 _ _ nrL.symm hL7
            have s9 : Same H8 (upd H8 p (.tup [.int (y : Nat), vW wd])) := same_new hp
            have hL9 := s9 _ _ hL8
            have lys : ys.length = st.length := by rw [hys.len, List.length_map]
            refine ⟨L0, ys, _, rfl, rfl, hL9, small1000 (by omega), ?_⟩
            have kL : Keep K (upd H8 p (.tup [.int (y : Nat), vW wd])) (upd (upd H8 p (.tup [.int (y : Nat), vW wd])) L0 (.lst (ys ++ [.ref p]))) := keep_lst hL9
            refine ⟨st ++ [(y, wd)], _, _, _, rfl, but_new (((b6.trans b7').trans b8).trans (Same.but s9)) hL0, rw_lst (rw8.same s9) nrL, upd_same, ?_, by rw [List.length_append, hst]; rfl, fun o ho => ?_⟩
            · rw [List.map_append]
              exact (hys.keep ((kb7.trans (rw7.keep b8)).trans ((keep_same s9).trans kL))).snoc (at_opt.mpr ⟨p, rfl, kL _ _ (.inl (.inl upd_same))⟩)
            · rcases List.mem_append.mp ho with z | z
              · exact hopts o z
              · rw [List.mem_singleton.mp z]
                exact ⟨hy, hwd⟩
          · refine ⟨_, rfl, 1, rfl, W0, words6, rfl, .inl (.inl hW6), fun pc hpc => ?_⟩
            have sc : Same H6' (upd H6' pc (.lst (cutV words6 (some 1) none))) := same_new hpc
            have npr : pc ≠ r := fun z => by obtain ⟨_, h⟩ := rw6.lst; rw [← z, hpc] at h; cases h
            refine ⟨r, a, pc, ns, _, rfl, rw6.same sc, ((b4.trans b6).trans (Same.but sc)).seqF har hs, har, .inl (.inl upd_same), npr, by decide, by decide, fun x H7 hx b7 rw7 => ?_⟩
            have b7' : But r H6' H7 := (Same.but sc).trans b7
            have kb7 : Keep K H6' H7 := (keep_same sc).trans ((rw6.same sc).keep b7)
            have hx : x ∈ words6 := List.mem_of_mem_drop (List.mem_of_mem_take hx)
            have b7 : But r H6' H7 := b7'
            obtain ⟨wd, rfl, hwd⟩ := words_ok hx
            have hL7 : H7 L0 = some (.lst ys) := b7 _ _ nrL.symm hL6
            refine ⟨_, rfl, .inl ⟨rfl, _, .inl (.inl hL7)⟩, _, rfl, _, rfl, r, a, ns, n0 + 1, (by rw [← em]; rfl), rw7, (b4.trans (b6.trans b7')).seqF har hs, har, by omega, by omega, fun y H8 hy b8 rw8 => ⟨_, rfl, (by show 2 ≤ sizeLine; decide), fun p hp => ?_⟩⟩
            have hL8 : H8 L0 = some (.lst ys) := b8 _ _ nrL.symm hL7
            have s9 : Same H8 (upd H8 p (.tup [.int (y : Nat), vW wd])) := same_new hp
            have hL9 := s9 _ _ hL8
            have lys : ys.length = st.length := by rw [hys.len, List.length_map]
            refine ⟨L0, ys, _, rfl, rfl, hL9, small1000 (by omega), ?_⟩
            have kL : Keep K (upd H8 p (.tup [.int (y : Nat), vW wd])) (upd (upd H8 p (.tup [.int (y : Nat), vW wd])) L0 (.lst (ys ++ [.ref p]))) := keep_lst hL9
            refine ⟨st ++ [(y, wd)], _, _, _, rfl, but_new (((b6.trans b7').trans b8).trans (Same.but s9)) hL0, rw_lst (rw8.same s9) nrL, upd_same, ?_, by rw [List.length_append, hst]; rfl, fun o ho => ?_⟩
            · rw [List.map_append]
              exact (hys.keep ((kb7.trans (rw7.keep b8)).trans ((keep_same s9).trans kL))).snoc (at_opt.mpr ⟨p, rfl, kL _ _ (.inl (.inl upd_same))⟩)
            · rcases List.mem_append.mp ho with z | z
              · exact hopts o z
              · rw [List.mem_singleton.mp z]
                exact ⟨hy, hwd⟩
        · rintro σ H6' ⟨st, ys, x10', x11', rfl, b6, rw6, hL6, hys, hst, hopts⟩
          have hF6 : H6' F0 = some (.lst xs) := b6 _ _ nrF.symm hF4
          have hW6 : H6' W0 = some (.lst words6) := b6 _ _ nrW.symm hW4
          refine ⟨_, rfl, .inl ⟨rfl, _, .inl (.inl hF6)⟩, _, rfl, L0, ys, rfl, .inl ⟨.inl (.inl hL6), fun l hl' => ?_⟩⟩
          have s7 : Same H6' (upd H6' l (.tup ys)) := same_new hl'
          have hF7 := s7 _ _ hF6
          have lxs : xs.length = M'.length := by rw [hxs.len, List.length_map]
          refine ⟨F0, xs, _, rfl, rfl, hF7, small1000 (by omega), ?_⟩
          have kF : Keep K (upd H6' l (.tup ys)) (upd (upd H6' l (.tup ys)) F0 (.lst (xs ++ [.ref l]))) := keep_lst hF7
          have bF : But r H (upd (upd H6' l (.tup ys)) F0 (.lst (xs ++ [.ref l]))) := fun c u n e => by
            have hc : c ≠ F0 := fun z => nF0H (by rw [← z, e]; intro z; cases z)
            rw [upd_ne hc]
            exact ((b4.trans b6).trans (Same.but s7)) c u n e
          refine ⟨M' ++ [st], _, _, _, _, _, _, rfl, bF, rw_lst (rw6.same s7) nrF, by rw [upd_ne nFW.symm]; exact s7 _ _ hW6, upd_same, ?_, by rw [List.length_append, hl]; rfl, ⟨fun st' h' => ?_, fun st' h' => ?_⟩⟩
          · rw [List.map_append]
            exact (hxs.keep ((rw4.keep b6).trans ((keep_same s7).trans kF))).snoc (at_tup.mpr ⟨l, ys, rfl, kF _ _ (.inl (.inl upd_same)), hys.keep ((keep_same s7).trans kF)⟩)
          · rcases List.mem_append.mp h' with z | z
            · exact sts.few st' z
            · rw [List.mem_singleton.mp z]; omega
          · rcases List.mem_append.mp h' with z | z
            · exact sts.opt st' z
            · rw [List.mem_singleton.mp z]; exact hopts
    · rintro σ H4 ⟨M', xs, x7, x8, x9, x10, x11, rfl, b4, rw4, hW4, hF4, hxs, hl, sts⟩
      refine ⟨_, rfl, F0, xs, rfl, .inl ⟨.inl (.inl hF4), fun l hl' => ?_⟩⟩
      refine q M' _ _ (b4.trans (Same.but (same_new hl'))) (rw_new rw4 hl') ⟨⟨by omega, by omega, sts.few, fun st hst o ho => by rw [hl]; exact (sts.opt st hst o ho).1⟩, fun st hst o ho => (sts.opt st hst o ho).2⟩ (at_tup.mpr ⟨l, xs, rfl, .inl (.inl upd_same), hxs.keep (keep_same (same_new hl'))⟩)
end
end OLC
end
section
set_option Elab.async false
set_option linter.all false
set_option maxRecDepth 100000
set_option maxHeartbeats 2000000
/-! xs == [], xs != [] -/
namespace OLC
open PySem PySem.Spec PyProof.Rows L2
section
variable {X : Cx}
def rNil (K : Fr) (b : Bool) : R2 := fun x y H Q => ∃ l m xs, x = .ref l ∧ y = .ref m ∧ SqL K H l xs ∧ SqL K H m [] ∧ Q (.bl (if b then !decide (xs = []) else decide (xs = []))) H
theorem op_eqNil (hu : X.A.units < cLine) : OpR X (compareOp .Eq) (rNil X.K false) := by
  intro pins s σ H x y v u Q I rx ry h
  obtain ⟨l, m, xs, rfl, rfl, h1, h2, q⟩ := h
  cases rx
  cases ry
  obtain ⟨its, rv, p1, _⟩ := I.list h1
  obtain ⟨its2, rv2, p2, _⟩ := I.list h2
  cases rv2
  cases rv with
  | nil => exact SeqAt.eq_listAt (e := fun _ => true) p1.isList p2.isList rfl hu (fun j h1 _ => absurd h1 (Nat.not_lt_zero _)) ⟨.bl _, H, I, rfl, q⟩
  | cons r rr => exact SeqAt.eq_list_lengthsAt p1.isList p2.isList (by simp) hu ⟨.bl _, H, I, rfl, by simpa using q⟩
theorem op_neNil (hu : X.A.units < cLine) : OpR X (compareOp .NotEq) (rNil X.K true) := by
  intro pins s σ H x y v u Q I rx ry h
  obtain ⟨l, m, xs, rfl, rfl, h1, h2, q⟩ := h
  cases rx
  cases ry
  obtain ⟨its, rv, p1, _⟩ := I.list h1
  obtain ⟨its2, rv2, p2, _⟩ := I.list h2
  cases rv2
  cases rv with
  | nil => exact SeqAt.RcNeAt.lists (e := fun _ => true) p1.isList p2.isList rfl hu (fun j h1 _ => absurd h1 (Nat.not_lt_zero _)) _ _ _ _ ⟨.bl _, H, I, rfl, q⟩
  | cons r rr => exact SeqAt.RcNeAt.lists_lengths p1.isList p2.isList (by simp) hu _ _ _ _ ⟨.bl _, H, I, rfl, by simpa using q⟩
end
end OLC
end
section
set_option Elab.async false
set_option linter.all false
set_option maxRecDepth 100000
set_option maxHeartbeats 2000000
/-! the law's table -/
namespace OLC
open PySem PySem.Spec PyProof.Rows L2 OLT
section
variable {P : Program} {w : World} {K : Fr} {mg : Str → Option Value} {base : Heap} {C S f : Addr} {fd : FuncData}
/-- a row as it may be -/
def RowOk (k m : Nat) (r : List Nat) : Prop := 1 ≤ r.length ∧ r.length ≤ m ∧ ∀ x ∈ r, x < k
/-- the rows so far -/
structure Tbs (M : Mc) (k i : Nat) (T : OL.Tb) : Prop where
  len : T.length = i
  each : ∀ s, s < i → (OL.rowsOf T s).length = (OL.opts M s).length
  row : ∀ rs ∈ T, ∀ r ∈ rs, RowOk k 3 r
theorem Tbs.snoc {M : Mc} {k i : Nat} {T : OL.Tb} (h : Tbs M k i T) {rs : List (List Nat)} (h1 : rs.length = (OL.opts M i).length) (h2 : ∀ r ∈ rs, RowOk k 3 r) : Tbs M k (i + 1) (T ++ [rs]) := by
  refine ⟨by rw [List.length_append, h.len]; rfl, fun s hs => ?_, fun rs' hr => ?_⟩
  · by_cases e : s < i
    · rw [← h.each s e]
      unfold OL.rowsOf
      rw [List.getElem?_append_left (by rw [h.len]; exact e)]
    · have e2 : s = i := by omega
      subst e2
      rw [← h1]
      unfold OL.rowsOf
      rw [List.getElem?_append_right (by rw [h.len]; exact Nat.le_refl _), h.len, Nat.sub_self]
      rfl
  · rcases List.mem_append.mp hr with z | z
    · exact h.row rs' z
    · rw [List.mem_singleton.mp z]; exact h2
theorem seqIx {n x : Nat} (h : x < n) : seqIndex? (x : Int) n = some x := (ixN_seq (show ixN n (x : Int) = some x by unfold ixN; rw [if_pos (by omega), if_pos (by omega)]; simp)).1
theorem RowsAre.erase {H : Hp} {xs : List V} {k n j : Nat} (h : RowsAre K H xs k n) : RowsAre K H (xs.eraseIdx j) k n := fun x hx => h x (List.mem_of_mem_eraseIdx hx)
def spLTable (K : Fr) : Sp := fun vs H Q _ => ∃ (r a : Addr) (ns : List Int) (v : V) (M : Mc) (k : Nat), vs = [.ref r, v, .int k, .int 3] ∧ Rw H r a ∧ SqL K H a (ns.map V.int) ∧ Far K a r (ns.map V.int) ∧ At K H v (kMc M) ∧ OL.MOk M ∧ 1 ≤ k ∧ k ≤ 4 ∧
  ∀ (Tb : OL.Tb) (u : V) (H' : Hp), But r H H' → Rw H' r a → OL.TOk M k Tb → At K H' u (kTb Tb) → Q u H'
theorem ok_ltable {f1 f2 f3 : Addr} {d1 d2 d3 : FuncData} (T : Tx K mg C S) (F : FnP K "_law_table" "_law_table" sLTable f fd) (G1 : Cal P w K mg base "_law_taken" 1 pLTaken (spTaken K) f1 d1 [] []) (G2 : Cal P w K mg base "_law_row" 2 pLRow (spLRow K) f2 d2 [] []) (G3 : Cal P w K mg base "_law_every" 1 pLEvery (spEvery K) f3 d3 [] []) :
    FnOk P w K mg base CX0 3 f fd pLTable (spLTable K) := by
  refine okN F scLTable (fun vs H Q E h => ?_) (fun cdv A0 outer s H vs Q E hr h => ?_)
  · obtain ⟨r, a, ns, v, M, k, rfl, _⟩ := h
    rfl
  · obtain ⟨r, a, ns, v, M, k, rfl, hrw, hs, har, hM, ok, k1, k4, q⟩ := h
    have hr1 := hr.mono (j := 1) (by decide)
    have hu := hr.units0
    refine ⟨_, pss_cons (ps_par (i := 4) (j := 5) (by rfl) scLTable.nd rfl rfl (by decide) rfl rfl (pa_cons (pe_cal G1 hr1 (pa_cons (pv 0) (pa_cons pe_int pa_nil))) (pa_cons (pe_lst pa_nil) pa_nil)) (by rfl))
      (pss_cons (ps_for PassesOwn.never rfl (pi_tup (pv 1)) (pg_name (i := 6) scLTable.nd rfl (Or.inl rfl))
        (pss_cons (ps_setLc (i := 8) (own := [("_law_option", 7)]) (g := gName 7) rfl scLTable.nd rfl rfl (sw_true rfl rfl rfl (by decide +kernel)) (pi_tup (pv 6)) (blkOk_by (N := nLTable) (sc := defScope sLTable) (by decide +kernel)) (fun _ _ _ _ _ => pg_name (i := 7) scLTable.nd rfl (Or.inl rfl)) (fun _ _ _ _ _ => pts_nil)
          (fun _ _ _ _ _ => pe_cal G2 hr (pa_cons (pv 0) (pa_cons (pv 2) (pa_cons (pv 3) pa_nil)))))
        (pss_cons (ps_if (PW.pt (pw_and (pt_cmpR op_gt (pv 4) pe_int (nomark _)) (pw_and1 (pt_cmpR op_gt (pv 2) pe_int (nomark _)))))
          (pss_cons (ps_par (i := 9) (j := 8) (by rfl) scLTable.nd rfl rfl (by decide) rfl rfl (pa_cons pe_int (pa_cons (pe_lst pa_nil) pa_nil)) (by rfl))
          (pss_cons (ps_while PassesOwn.never (pt_cmpR op_lt (pe_callB call_len (by rfl) T.len boot_len (pa_cons (pe_cal G3 hr1 (pa_cons (pv 2) (pa_cons (pv 9) pa_nil))) pa_nil)) (pe_callB call_len (by rfl) T.len boot_len (pa_cons (pv 6) pa_nil)) (nomark _))
            (pss_one (ps_set (i := 9) scLTable.nd rfl (.inl rfl) (pe_op op_add (pv 9) pe_int))))
          (pss_cons (ps_set (i := 10) scLTable.nd rfl (.inl rfl) (pe_cal G3 hr1 (pa_cons (pv 2) (pa_cons (pv 9) pa_nil))))
          (pss_cons (ps_for PassesOwn.never rfl (pi_tup (pv 6)) (pg_name (i := 7) scLTable.nd rfl (Or.inl rfl))
            (pss_one (ps_expr (pe_bm PySem.F.plainAttrs_list PySem.F.slot_list_append PySem.F.type_list_append mt_append (pv 8) (pa_cons (pe_bm PySem.F.plainAttrs_list PySem.F.slot_list_pop PySem.F.type_list_pop mt_popAt (pv 10) (pa_cons (pe_cal G1 hr1 (pa_cons (pv 0) (pa_cons (pe_callB call_len (by rfl) T.len boot_len (pa_cons (pv 10) pa_nil)) pa_nil))) pa_nil)) pa_nil)))))
          (pss_one (ps_if (PW.pt (pw_and (pt_cmpR op_eq (pv 4) pe_int (nomark _)) (pw_and1 (pt_cmpR (op_neNil hu) (pv 8) (pe_lst pa_nil) (nomark _)))))
            (pss_one (ps_asg (pe_op op_catT (pe_ix ix_list (pv 8) pe_int (fun _ _ => rfl)) (pe_cal G2 hr (pa_cons (pv 0) (pa_cons (pv 2) (pa_cons pe_int pa_nil))))) (pg_sub (pv 8) pe_int set_list))) pss_nil)))))) pss_nil)
        (pss_one (ps_expr (pe_bm PySem.F.plainAttrs_list PySem.F.slot_list_append PySem.F.type_list_append mt_append (pv 5) (pa_cons (pe_callTy call_tuple_of (by rfl) T.tup (by decide +kernel) (pa_cons (pv 8) pa_nil)) pa_nil)))))))
      (pss_one (ps_ret (pe_callTy call_tuple_of (by rfl) T.tup (by decide +kernel) (pa_cons (pv 5) pa_nil))))), ?_⟩
    obtain ⟨am, xm, rfl, hsm, hlm, hxm⟩ := mc_at hM
    have hmost := ok.most
    refine ⟨_, rfl, r, a, ns, 3, rfl, hrw, hs, har, by decide, by decide, fun way H1 hway b1 rw1 => ?_⟩
    refine ⟨Nat.zero_le _, fun F0 hF0 => ⟨_, _, rfl, ?_⟩⟩
    have nrF : r ≠ F0 := by obtain ⟨ys, h⟩ := rw1.lst; exact ne_of_none h hF0
    have nF0H : ¬ H F0 ≠ none := fun z => by
      cases e : H F0 with
      | none => exact z e
      | some u => exact absurd hF0 (by rw [b1 F0 u nrF.symm e]; intro z; cases z)
    have b2 : But r H (upd H1 F0 (.lst [])) := b1.trans (Same.but (same_new hF0))
    have rw2 : Rw (upd H1 F0 (.lst [])) r a := rw_new rw1 hF0
    have hF2 : upd H1 F0 (.lst []) F0 = some (.lst []) := upd_same
    generalize upd H1 F0 (.lst []) = H2 at b2 rw2 hF2 ⊢
    refine ⟨_, rfl, am, rfl, ⟨_, hrw.keep b2 _ _ hsm⟩, for_walk xm.length (fun i σ H' => ∃ (T' : OL.Tb) (xs : List V) (x6 x7 x8 x9 x10 : Option V), σ = [some (.ref r), some (.ref am), some (.int k), some (.int 3), some (.int way), some (.ref F0), x6, x7, x8, x9, x10] ∧ But r H H' ∧ Rw H' r a ∧ H' F0 = some (.lst xs) ∧ Ats K H' xs (T'.map kRows) ∧ Tbs M k i T')
      ⟨[], [], _, _, _, _, _, rfl, b2, rw2, hF2, .nil', ⟨rfl, fun s hs => absurd hs (Nat.not_lt_zero _), fun rs h => by cases h⟩⟩ (fun i σ H' hi ⟨_, _, _, _, _, _, _, _, b, _⟩ => itt_go (K := K) (hrw.keep b _ _ hsm) hi) (fun σ H' ⟨_, _, _, _, _, _, _, _, b, _⟩ => itt_stop (K := K) (hrw.keep b _ _ hsm)) ?_ ?_⟩
    · rintro i x σ H4 H4' hi ⟨T', xs, x6, x7, x8, x9, x10, rfl, b4, rw4, hF4, hxs, tbs⟩ ⟨rfl, y'⟩
      have ex := y' _ (hrw.keep b4 _ _ hsm)
      have him : i < M.length := by omega
      obtain ⟨c, ys0, e0, hc, hlc, -⟩ := hxm i him
      rw [e0] at ex
      cases ex
      have hc4 := hrw.keep b4 _ _ hc
      have few : (OL.opts M i).length ≤ 4 := few_opts ok him
      have lxs : xs.length = i := by rw [hxs.len, List.length_map, tbs.len]
      -- rows
      refine ⟨_, rfl, c, rfl, ⟨_, hc4⟩, fun D hD => ?_⟩
      have nrD : r ≠ D := by obtain ⟨ys, h⟩ := rw4.lst; exact ne_of_none h hD
      refine walkG ys0.length (fun j H' => ∃ (acc : List V) (rs : List (List Nat)), H' D = some (.lst acc) ∧ But r H4' H' ∧ Rw H' r a ∧ Ats K H' acc (rs.map kRow) ∧ rs.length = j ∧ ∀ r' ∈ rs, RowOk k 3 r')
        ⟨[], [], upd_same, but_new But.refl hD, rw_new rw4 hD, .nil', rfl, fun r' h => by cases h⟩ (fun j H' hj ⟨_, _, _, b, _⟩ => itt_go (K := K) (rw4.keep b _ _ hc4) hj) (fun H' ⟨_, _, _, b, _⟩ => itt_stop (K := K) (rw4.keep b _ _ hc4)) ?_ ?_
      · rintro j x H5 H5' hj ⟨acc, rs, hacc, b5, rw5, hacs, hlr, hro⟩ ⟨rfl, y''⟩
        refine ⟨rfl, ?_⟩
        refine ⟨_, rfl, _, rfl, _, rfl, r, a, ns, k, 3, rfl, rw5, (b4.trans b5).seqF har hs, har, k1, by omega, by decide, by decide, fun row D' H6 b6 rw6 hD' g1 g2 g3 => ?_⟩
        have hacc6 := b6 _ _ nrD.symm hacc
        have lacc : acc.length = rs.length := by rw [hacs.len, List.length_map]
        have kd : Keep K H6 (upd H6 D (.lst (acc ++ [.ref D']))) := keep_lst hacc6
        refine ⟨acc, hacc6, small1000 (by omega), _, rs ++ [row], upd_same, but_new (b5.trans b6) hD, rw_lst rw6 nrD, ?_, by rw [List.length_append, hlr]; rfl, fun r' h => ?_⟩
        · rw [List.map_append]
          exact (hacs.keep ((rw5.keep b6).trans kd)).snoc (at_row.mpr ⟨D', rfl, kd _ _ hD'⟩)
        · rcases List.mem_append.mp h with z | z
          · exact hro r' z
          · rw [List.mem_singleton.mp z]; exact ⟨g1, g2, g3⟩
      · rintro H5 ⟨acc, rs, hacc, b5, rw5, hacs, hlr, hro⟩
        have hlr2 : rs.length = (OL.opts M i).length := by rw [hlr, hlc]
        refine ⟨_, rfl, _, _, rfl, rfl, _, rfl, ?_⟩
        refine ite2 (fun _ => ?_) (fun _ => ?_)
        · refine ⟨_, rfl, _, _, rfl, rfl, _, rfl, ?_⟩
          by_cases hk : (1 : Int) < k
          · refine iteD hk ?_
            refine ⟨Nat.zero_le _, fun R hR => ⟨_, _, rfl, ?_⟩⟩
            have s6 : Same H5 (upd H5 R (.lst [])) := same_new hR
            have hR6 : upd H5 R (.lst []) R = some (.lst []) := upd_same
            have hRH : H4' R = none := by
              cases e : H4' R with
              | none => rfl
              | some u =>
                have nRr : R ≠ r := fun z => by obtain ⟨_, h⟩ := rw5.lst; rw [← z, hR] at h; cases h
                exact absurd hR (by rw [b5 R u nRr e]; intro z; cases z)
            have nrR : r ≠ R := by obtain ⟨ys, h⟩ := rw4.lst; exact ne_of_none h hRH
            have b6 : But r H4' (upd H5 R (.lst [])) := b5.trans (Same.but s6)
            have rw6 := rw5.same s6
            generalize upd H5 R (.lst []) = H6 at s6 hR6 b6 rw6 ⊢
            have hc6 := rw4.keep b6 _ _ hc4
            refine ⟨fun m σ H' => ∃ n, m + n = 2 ∧ 1 ≤ n ∧ σ = [some (.ref r), some (.ref am), some (.int k), some (.int 3), some (.int way), some (.ref F0), some (.ref c), x7, some (.ref R), some (.int (n : Nat)), x10] ∧ Same H6 H', ⟨1, 1, rfl, Nat.le_refl _, rfl, Same.refl H6⟩, ?_⟩
            rintro m σ H7 ⟨n, hmn, hn1, rfl, s7⟩
            refine ⟨_, rfl, _, rfl, k, n, rfl, k1, k4, by omega, fun H8 D8 es s8 hD8n hD8 hl8 hr8 => ?_⟩
            have s68 := s7.trans s8
            refine ⟨_, es.length, rfl, .inl ⟨_, .inl (.inl hD8), rfl⟩, _, rfl, _, ys0.length, rfl, .inr ⟨_, keep_same s68 _ _ hc6, rfl⟩, _, _, rfl, rfl, _, rfl, ?_⟩
            have hk2 : 2 ≤ k := by omega
            by_cases hlt : (es.length : Int) < ys0.length
            · refine iteD hlt ?_
              have hn : n = 1 := by
                rcases (show n = 1 ∨ n = 2 by omega) with z | z
                · exact z
                · subst z
                  have : 2 * 2 ≤ k * k := Nat.mul_le_mul hk2 hk2
                  rw [Nat.pow_two] at hl8
                  omega
              subst hn
              exact ⟨fun σ' H' => ∃ m', m' < m ∧ ∃ n, m' + n = 2 ∧ 1 ≤ n ∧ σ' = [some (.ref r), some (.ref am), some (.int k), some (.int 3), some (.int way), some (.ref F0), some (.ref c), x7, some (.ref R), some (.int (n : Nat)), x10] ∧ Same H6 H', fun _ _ z => z, _, rfl, _, _, rfl, rfl, 0, by omega, 2, rfl, by decide, rfl, s68⟩
            · refine iteDN hlt ?_
              -- every once more
              refine ⟨_, rfl, _, rfl, k, n, rfl, k1, k4, by omega, fun H9 E0 es9 s9 hE9n hE9 hl9 hr9 => ?_⟩
              have s69 := s68.trans s9
              have hbig : ys0.length ≤ k ^ n := by rw [← hl8]; omega
              have b9 : But r H4' H9 := b6.trans (Same.but s69)
              have rw9 := rw6.same s69
              have hR9 := s69 _ _ hR6
              have nRE : R ≠ E0 := ne_of_none (s68 _ _ hR6) hE9n
              have nrE : r ≠ E0 := by obtain ⟨ys, h⟩ := (rw6.same s68).lst; exact ne_of_none h hE9n
              have hEH : H4' E0 = none := by
                cases e : H4' E0 with
                | none => rfl
                | some u => exact absurd hE9n (by rw [s68 _ _ (b6 E0 u nrE.symm e)]; intro z; cases z)
              have hn2 : n ≤ 2 := by omega
              refine ⟨_, rfl, c, rfl, ⟨_, rw4.keep b9 _ _ hc4⟩, for_walk ys0.length (fun j σ H' => ∃ (rs : List (List Nat)) (ys es : List V) (x7 : Option V), σ = [some (.ref r), some (.ref am), some (.int k), some (.int 3), some (.int way), some (.ref F0), some (.ref c), x7, some (.ref R), some (.int (n : Nat)), some (.ref E0)] ∧ But r H4' H' ∧ Rw H' r a ∧ H' R = some (.lst ys) ∧ Ats K H' ys (rs.map kRow) ∧ rs.length = j ∧ (∀ r' ∈ rs, RowOk k 2 r') ∧ H' E0 = some (.lst es) ∧ RowsAre K H' es k n ∧ es.length + j = k ^ n)
                ⟨[], [], es9, _, rfl, b9, rw9, hR9, .nil', rfl, (fun r' h => by cases h), hE9, hr9, by omega⟩ (fun j σ H' hj ⟨_, _, _, _, _, b, _⟩ => itt_go (K := K) (rw4.keep b _ _ hc4) hj) (fun σ H' ⟨_, _, _, _, _, b, _⟩ => itt_stop (K := K) (rw4.keep b _ _ hc4)) ?_ ?_⟩
              · rintro j x σ HA HA' hj ⟨rsj, ysj, esj, x7j, rfl, bA, rwA, hRA, hysA, hlA, hroA, hEA, hrA, hcnt⟩ ⟨rfl, y''⟩
                have hkn : k ^ n ≤ 4 ^ 2 := Nat.le_trans (Nat.pow_le_pow_left k4 n) (Nat.pow_le_pow_right (by decide) hn2)
                have hpos : 1 ≤ esj.length := by omega
                have lysj : ysj.length = rsj.length := by rw [hysA.len, List.length_map]
                refine ⟨_, rfl, .inl ⟨rfl, _, .inl (.inl hRA)⟩, _, rfl, .inl ⟨rfl, _, .inl (.inl hEA)⟩, _, rfl, _, rfl, _, esj.length, rfl, .inl ⟨_, .inl (.inl hEA), rfl⟩, r, a, ns, esj.length, rfl, rwA, (b4.trans bA).seqF har hs, har, hpos, by omega, fun x1 HB hx1 bB rwB => ?_⟩
                have hEB := bB _ _ nrE.symm hEA
                have hRB := bB _ _ nrR.symm hRA
                have ey : esj[x1]? = some esj[x1] := List.getElem?_eq_getElem hx1
                obtain ⟨c1, row, ec1, hc1, hrl, hrk⟩ := hrA _ (List.mem_of_getElem? ey)
                rw [ec1] at ey
                refine ⟨E0, esj, _, x1, _, rfl, rfl, hEB, by omega, by omega, seqIx hx1, ey, ?_⟩
                have kE : Keep K HB (upd HB E0 (.lst (esj.eraseIdx x1))) := keep_lst hEB
                have hRC : upd HB E0 (.lst (esj.eraseIdx x1)) R = some (.lst ysj) := by rw [upd_ne nRE]; exact hRB
                refine ⟨R, ysj, _, rfl, rfl, hRC, small1000 (by omega), ?_⟩
                have kR : Keep K (upd HB E0 (.lst (esj.eraseIdx x1))) (upd (upd HB E0 (.lst (esj.eraseIdx x1))) R (.lst (ysj ++ [.ref c1]))) := keep_lst hRC
                have kAll : Keep K HA' (upd (upd HB E0 (.lst (esj.eraseIdx x1))) R (.lst (ysj ++ [.ref c1]))) := (rwA.keep bB).trans (kE.trans kR)
                refine ⟨rsj ++ [row], _, esj.eraseIdx x1, _, rfl, but_new (but_new (bA.trans bB) hEH) hRH, rw_lst (rw_lst rwB nrE) nrR, upd_same, ?_, by rw [List.length_append, hlA]; rfl, fun r' h => ?_, by rw [upd_ne nRE.symm]; exact upd_same, hrA.erase.keep kAll, ?_⟩
                · rw [List.map_append]
                  exact (hysA.keep kAll).snoc (at_row.mpr ⟨c1, rfl, kAll _ _ hc1⟩)
                · rcases List.mem_append.mp h with z | z
                  · exact hroA r' z
                  · rw [List.mem_singleton.mp z]; exact ⟨by omega, by omega, hrk⟩
                · rw [List.length_eraseIdx, if_pos hx1]
                  omega
              · rintro σ HA ⟨rsj, ysj, esj, x7j, rfl, bA, rwA, hRA, hysA, hlA, hroA, hEA, hrA, hcnt⟩
                have hlA2 : rsj.length = (OL.opts M i).length := by rw [hlA, hlc]
                have hro3 : ∀ r' ∈ rsj, RowOk k 3 r' := fun r' h => ⟨(hroA r' h).1, Nat.le_succ_of_le (hroA r' h).2.1, (hroA r' h).2.2⟩
                have lysj : ysj.length = rsj.length := by rw [hysA.len, List.length_map]
                refine ⟨_, rfl, rfl, _, rfl, ?_⟩
                refine ite2 (fun _ => ?_) (fun _ => ?_)
                · refine ⟨_, rfl, Nat.zero_le _, fun z0 hz0 => ?_⟩
                  have sz : Same HA (upd HA z0 (.lst [])) := same_new hz0
                  refine ⟨R, z0, ysj, rfl, rfl, .inl (.inl (sz _ _ hRA)), .inl (.inl upd_same), _, rfl, ?_⟩
                  have bZ := bA.trans (Same.but sz)
                  have rwZ := rwA.same sz
                  have hRZ := sz _ _ hRA
                  have hysZ := hysA.keep (keep_same sz)
                  generalize upd HA z0 (.lst []) = HZ at bZ rwZ hRZ hysZ ⊢
                  by_cases hnil : ysj = []
                  · refine iteNS hnil ?_
                    have hFt : HZ F0 = some (.lst xs) := bZ _ _ nrF.symm hF4
                    refine ⟨_, rfl, .inl ⟨rfl, _, .inl (.inl hFt)⟩, _, rfl, R, ysj, rfl, .inl ⟨.inl (.inl hRZ), fun lt hlt' => ?_⟩⟩
                    have st : Same HZ (upd HZ lt (.tup ysj)) := same_new hlt'
                    have hFt2 := st _ _ hFt
                    refine ⟨F0, xs, _, rfl, rfl, hFt2, small1000 (by omega), ?_⟩
                    have kF : Keep K (upd HZ lt (.tup ysj)) (upd (upd HZ lt (.tup ysj)) F0 (.lst (xs ++ [.ref lt]))) := keep_lst hFt2
                    have bF : But r H (upd (upd HZ lt (.tup ysj)) F0 (.lst (xs ++ [.ref lt]))) := fun c' u n e => by
                      have hc : c' ≠ F0 := fun z => nF0H (by rw [← z, e]; intro z; cases z)
                      rw [upd_ne hc]
                      exact ((b4.trans bZ).trans (Same.but st)) c' u n e
                    refine ⟨T' ++ [rsj], _, _, _, _, _, _, rfl, bF, rw_lst (rwZ.same st) nrF, upd_same, ?_, tbs.snoc hlA2 hro3⟩
                    rw [List.map_append]
                    exact (hxs.keep ((rw4.keep bZ).trans ((keep_same st).trans kF))).snoc (at_tup.mpr ⟨lt, ysj, rfl, kF _ _ (.inl (.inl upd_same)), hysZ.keep ((keep_same st).trans kF)⟩)
                  · refine iteN hnil ?_
                    cases rsj with
                    | nil => exact absurd (List.length_eq_zero_iff.mp (by rw [lysj]; rfl)) hnil
                    | cons r0 rs' =>
                      obtain ⟨y0, ys', rfl, hy0, hys'⟩ := ats_cons.mp hysZ
                      obtain ⟨c0, rfl, hc0⟩ := at_row.mp hy0
                      have hr0 := hroA r0 List.mem_cons_self
                      refine ⟨_, rfl, R, _, _, _, rfl, rfl, .inl (.inl hRZ), (atI_nat (j := 0) rfl), _, rfl, _, rfl, r, a, ns, k, 1, rfl, rwZ, (b4.trans bZ).seqF har hs, har, k1, by omega, by decide, by decide, fun row D' HC bC rwC hD' g1 g2 g3 => ?_⟩
                      have hc0C := rwZ.keep bC _ _ hc0
                      have ne0 : r0 ≠ [] := fun z => by have := hr0.1; rw [z] at this; exact absurd this (by decide)
                      have ne1 : row ≠ [] := fun z => by rw [z] at g1; exact absurd g1 (by decide)
                      have lr0 := hr0.2.1
                      refine ⟨c0, D', _, _, rfl, rfl, hc0C, hD', (fun z => ne0 (by simpa using z)), lenLine (by rw [List.length_map, List.length_map]; omega), (fun z => absurd (by simpa using z) ne1), fun _ p2 hp2 => ?_⟩
                      have s2 := same_new (o := .tup (r0.map (fun m : Nat => V.int m) ++ row.map fun m : Nat => V.int m)) hp2
                      have hRC : HC R = some (.lst (.ref c0 :: ys')) := bC _ _ nrR.symm hRZ
                      refine ⟨_, rfl, R, _, _, 0, rfl, rfl, s2 _ _ hRC, (by unfold ixN; rw [if_pos (by decide), if_pos (by rw [List.length_cons]; omega)]; rfl), ?_⟩
                      have hp2' : SqT K (upd HC p2 (.tup (r0.map (fun m : Nat => V.int m) ++ row.map fun m : Nat => V.int m))) p2 ((r0 ++ row).map fun m : Nat => V.int m) := .inl (.inl (by rw [upd_same, List.map_append]))
                      have bD := (bZ.trans bC).trans (Same.but s2)
                      have rwD := rwC.same s2
                      have hysD := hys'.keep ((rwZ.keep bC).trans (keep_same s2))
                      have hRD := s2 _ _ hRC
                      generalize upd HC p2 (.tup (r0.map (fun m : Nat => V.int m) ++ row.map fun m : Nat => V.int m)) = HD at hp2' bD rwD hysD hRD ⊢
                      have kk : Keep K HD (upd HD R (.lst (List.set (.ref c0 :: ys') 0 (.ref p2)))) := keep_lst hRD
                      have hysE : Ats K (upd HD R (.lst (List.set (.ref c0 :: ys') 0 (.ref p2)))) (List.set (.ref c0 :: ys') 0 (.ref p2)) (((r0 ++ row) :: rs').map kRow) := .cons' (at_row.mpr ⟨p2, rfl, kk _ _ hp2'⟩) (hysD.keep kk)
                      have bE : But r H4' (upd HD R (.lst (List.set (.ref c0 :: ys') 0 (.ref p2)))) := but_new bD hRH
                      have rwE := rw_lst (o := .lst (List.set (.ref c0 :: ys') 0 (.ref p2))) rwD nrR
                      have hRE : upd HD R (.lst (List.set (.ref c0 :: ys') 0 (.ref p2))) R = some (.lst (List.set (.ref c0 :: ys') 0 (.ref p2))) := upd_same
                      have hroE : ∀ r' ∈ (r0 ++ row) :: rs', RowOk k 3 r' := fun r' h => by
                        rcases List.mem_cons.mp h with z | z
                        · rw [z]
                          refine ⟨by rw [List.length_append]; omega, by rw [List.length_append]; omega, fun x hx => ?_⟩
                          rcases List.mem_append.mp hx with z1 | z1
                          · exact hr0.2.2 x z1
                          · exact g3 x z1
                        · exact hro3 r' (List.mem_cons_of_mem _ z)
                      generalize upd HD R (.lst (List.set (.ref c0 :: ys') 0 (.ref p2))) = HE at hysE bE rwE hRE ⊢
                      generalize List.set (.ref c0 :: ys') 0 (.ref p2) = ysE at hysE hRE ⊢
                      have hFt : HE F0 = some (.lst xs) := bE _ _ nrF.symm hF4
                      refine ⟨_, rfl, .inl ⟨rfl, _, .inl (.inl hFt)⟩, _, rfl, R, ysE, rfl, .inl ⟨.inl (.inl hRE), fun lt hlt' => ?_⟩⟩
                      have st : Same HE (upd HE lt (.tup ysE)) := same_new hlt'
                      have hFt2 := st _ _ hFt
                      refine ⟨F0, xs, _, rfl, rfl, hFt2, small1000 (by omega), ?_⟩
                      have kF : Keep K (upd HE lt (.tup ysE)) (upd (upd HE lt (.tup ysE)) F0 (.lst (xs ++ [.ref lt]))) := keep_lst hFt2
                      have bF : But r H (upd (upd HE lt (.tup ysE)) F0 (.lst (xs ++ [.ref lt]))) := fun c' u n e => by
                        have hc : c' ≠ F0 := fun z => nF0H (by rw [← z, e]; intro z; cases z)
                        rw [upd_ne hc]
                        exact ((b4.trans bE).trans (Same.but st)) c' u n e
                      refine ⟨T' ++ [((r0 ++ row) :: rs')], _, _, _, _, _, _, rfl, bF, rw_lst (rwE.same st) nrF, upd_same, ?_, tbs.snoc (by rw [← hlA2]; rfl) hroE⟩
                      rw [List.map_append]
                      exact (hxs.keep ((rw4.keep bE).trans ((keep_same st).trans kF))).snoc (at_tup.mpr ⟨lt, ysE, rfl, kF _ _ (.inl (.inl upd_same)), hysE.keep ((keep_same st).trans kF)⟩)
                · have hFt : HA F0 = some (.lst xs) := bA _ _ nrF.symm hF4
                  refine ⟨_, rfl, .inl ⟨rfl, _, .inl (.inl hFt)⟩, _, rfl, R, ysj, rfl, .inl ⟨.inl (.inl hRA), fun lt hlt' => ?_⟩⟩
                  have st : Same HA (upd HA lt (.tup ysj)) := same_new hlt'
                  have hFt2 := st _ _ hFt
                  refine ⟨F0, xs, _, rfl, rfl, hFt2, small1000 (by omega), ?_⟩
                  have kF : Keep K (upd HA lt (.tup ysj)) (upd (upd HA lt (.tup ysj)) F0 (.lst (xs ++ [.ref lt]))) := keep_lst hFt2
                  have bF : But r H (upd (upd HA lt (.tup ysj)) F0 (.lst (xs ++ [.ref lt]))) := fun c' u n e => by
                    have hc : c' ≠ F0 := fun z => nF0H (by rw [← z, e]; intro z; cases z)
                    rw [upd_ne hc]
                    exact ((b4.trans bA).trans (Same.but st)) c' u n e
                  refine ⟨T' ++ [rsj], _, _, _, _, _, _, rfl, bF, rw_lst (rwA.same st) nrF, upd_same, ?_, tbs.snoc hlA2 hro3⟩
                  rw [List.map_append]
                  exact (hxs.keep ((rw4.keep bA).trans ((keep_same st).trans kF))).snoc (at_tup.mpr ⟨lt, ysj, rfl, kF _ _ (.inl (.inl upd_same)), hysA.keep ((keep_same st).trans kF)⟩)
          · refine iteDN hk ?_
            have hFt : H5 F0 = some (.lst xs) := b5 _ _ nrF.symm hF4
            refine ⟨_, rfl, .inl ⟨rfl, _, .inl (.inl hFt)⟩, _, rfl, D, acc, rfl, .inl ⟨.inl (.inl hacc), fun lt hlt' => ?_⟩⟩
            have st : Same H5 (upd H5 lt (.tup acc)) := same_new hlt'
            have hFt2 := st _ _ hFt
            refine ⟨F0, xs, _, rfl, rfl, hFt2, small1000 (by omega), ?_⟩
            have kF : Keep K (upd H5 lt (.tup acc)) (upd (upd H5 lt (.tup acc)) F0 (.lst (xs ++ [.ref lt]))) := keep_lst hFt2
            have bF : But r H (upd (upd H5 lt (.tup acc)) F0 (.lst (xs ++ [.ref lt]))) := fun c' u n e => by
              have hc : c' ≠ F0 := fun z => nF0H (by rw [← z, e]; intro z; cases z)
              rw [upd_ne hc]
              exact ((b4.trans b5).trans (Same.but st)) c' u n e
            refine ⟨T' ++ [rs], _, _, _, _, _, _, rfl, bF, rw_lst (rw5.same st) nrF, upd_same, ?_, tbs.snoc hlr2 hro⟩
            rw [List.map_append]
            exact (hxs.keep ((rw4.keep b5).trans ((keep_same st).trans kF))).snoc (at_tup.mpr ⟨lt, acc, rfl, kF _ _ (.inl (.inl upd_same)), hacs.keep ((keep_same st).trans kF)⟩)
        · have hFt : H5 F0 = some (.lst xs) := b5 _ _ nrF.symm hF4
          refine ⟨_, rfl, .inl ⟨rfl, _, .inl (.inl hFt)⟩, _, rfl, D, acc, rfl, .inl ⟨.inl (.inl hacc), fun lt hlt' => ?_⟩⟩
          have st : Same H5 (upd H5 lt (.tup acc)) := same_new hlt'
          have hFt2 := st _ _ hFt
          refine ⟨F0, xs, _, rfl, rfl, hFt2, small1000 (by omega), ?_⟩
          have kF : Keep K (upd H5 lt (.tup acc)) (upd (upd H5 lt (.tup acc)) F0 (.lst (xs ++ [.ref lt]))) := keep_lst hFt2
          have bF : But r H (upd (upd H5 lt (.tup acc)) F0 (.lst (xs ++ [.ref lt]))) := fun c' u n e => by
            have hc : c' ≠ F0 := fun z => nF0H (by rw [← z, e]; intro z; cases z)
            rw [upd_ne hc]
            exact ((b4.trans b5).trans (Same.but st)) c' u n e
          refine ⟨T' ++ [rs], _, _, _, _, _, _, rfl, bF, rw_lst (rw5.same st) nrF, upd_same, ?_, tbs.snoc hlr2 hro⟩
          rw [List.map_append]
          exact (hxs.keep ((rw4.keep b5).trans ((keep_same st).trans kF))).snoc (at_tup.mpr ⟨lt, acc, rfl, kF _ _ (.inl (.inl upd_same)), hacs.keep ((keep_same st).trans kF)⟩)
    · rintro σ H4 ⟨T', xs, x6, x7, x8, x9, x10, rfl, b4, rw4, hF4, hxs, tbs⟩
      refine ⟨_, rfl, F0, xs, rfl, .inl ⟨.inl (.inl hF4), fun l hl' => ?_⟩⟩
      rw [hlm] at tbs
      exact q T' _ _ (b4.trans (Same.but (same_new hl'))) (rw_new rw4 hl') ⟨tbs.len, tbs.each, tbs.row⟩ (at_tup.mpr ⟨l, xs, rfl, .inl (.inl upd_same), hxs.keep (keep_same (same_new hl'))⟩)
end
end OLC
end
section
set_option Elab.async false
set_option linter.all false
set_option maxRecDepth 100000
set_option maxHeartbeats 2000000
/-! the law's own search: which states can say a word -/
namespace OLC
open PySem PySem.Spec PyProof.Rows L2
inductive ReachS (M : Mc) (s : Nat) : Nat → Prop
  | refl : ReachS M s s
  | step {p a : Nat} {w : Option Str} : ReachS M s p → (a, w) ∈ OL.opts M p → ReachS M s a
theorem say_of_reach {M : Mc} {s p : Nat} (h : ReachS M s p) (hc : OL.CanSay M p) : OL.CanSay M s := by
  induction h with
  | refl => exact hc
  | step _ hm ih => exact ih (.on hm hc)
theorem ReachS.head {M : Mc} {s a p : Nat} {w : Option Str} (hm : (a, w) ∈ OL.opts M s) (h : ReachS M a p) : ReachS M s p := by
  induction h with
  | refl => exact .step .refl hm
  | step _ hm2 ih => exact .step ih hm2
theorem reach_of_say {M : Mc} {s : Nat} (h : OL.CanSay M s) : ∃ p a x, ReachS M s p ∧ (a, some x) ∈ OL.opts M p := by
  induction h with
  | @here s a x hm => exact ⟨s, a, x, .refl, hm⟩
  | @on s a w hm _ ih =>
    obtain ⟨p, b, x, h1, h2⟩ := ih
    exact ⟨p, b, x, h1.head hm, h2⟩
structure SayIn (M : Mc) (s : Nat) (kvs : List (Key × V)) (b : Bool) : Prop where
  nd : (keys kvs).Nodup
  each : ∀ k ∈ keys kvs, ∃ p : Nat, p < M.length ∧ k = kI p ∧ ReachS M s p
  snd : b = true → OL.CanSay M s
  me : kI s ∈ keys kvs
def SayFull (M : Mc) (s : Nat) (kvs : List (Key × V)) (b : Bool) : Prop := (∀ p, ReachS M s p → kI p ∈ keys kvs) ∧ (OL.CanSay M s → b = true)
theorem SayIn.few {M : Mc} {s : Nat} {kvs : List (Key × V)} {b : Bool} (h : SayIn M s kvs b) : kvs.length ≤ M.length := by
  have h1 := OL.nodup_len (keys kvs) ((List.range M.length).map kI) h.nd fun k hk => by
    obtain ⟨p, h1, rfl, _⟩ := h.each k hk
    exact List.mem_map.mpr ⟨p, List.mem_range.mpr h1, rfl⟩
  simpa [keys] using h1
theorem SayIn.put {M : Mc} (ok : OL.MOk M) {s p a : Nat} {w : Option Str} {kvs : List (Key × V)} {b : Bool} {v : V} (h : SayIn M s kvs b) (hp : ReachS M s p) (hm : (a, w) ∈ OL.opts M p) : SayIn M s (putK kvs (kI a) v) (b || decide (w ≠ none)) := by
  refine ⟨?_, fun k hk => ?_, fun hb => ?_, mem_put.mpr (.inr h.me)⟩
  · rw [keys_put]
    by_cases e : kI a ∈ keys kvs
    · rw [if_pos e]; exact h.nd
    · rw [if_neg e]; exact nodup_snoc h.nd e
  · rcases mem_put.mp hk with e | e
    · exact ⟨a, OL.opts_lead ok hm, e, .step hp hm⟩
    · exact h.each k e
  · rcases (Bool.or_eq_true _ _).mp hb with z | z
    · exact h.snd z
    · have z2 := of_decide_eq_true z
      cases w with
      | none => exact absurd rfl z2
      | some x => exact say_of_reach hp (.here hm)
theorem say_turn {M : Mc} {s t : Nat} {kvs0 kvs1 : List (Key × V)} {b0 b1 : Bool} (h0 : SayIn M s kvs0 b0) (h1 : SayIn M s kvs1 b1) (mono : ∀ k ∈ keys kvs0, k ∈ keys kvs1) (mb : b0 = true → b1 = true)
    (ho : ∀ p, kI p ∈ keys kvs0 → ∀ a w, (a, w) ∈ OL.opts M p → kI a ∈ keys kvs1 ∧ (w ≠ none → b1 = true)) (e : SayFull M s kvs0 b0 ∨ t + 1 ≤ kvs0.length) : SayFull M s kvs1 b1 ∨ t + 1 + 1 ≤ kvs1.length := by
  rcases e with ⟨e1, e2⟩ | e
  · exact .inl ⟨fun p hp => mono _ (e1 p hp), fun hc => mb (e2 hc)⟩
  · by_cases q : ∃ p a w, kI p ∈ keys kvs0 ∧ (a, w) ∈ OL.opts M p ∧ kI a ∉ keys kvs0
    · obtain ⟨p, a, w, hp, hm, hn⟩ := q
      have h2 := OL.nodup_len (kI a :: keys kvs0) (keys kvs1) (List.nodup_cons.mpr ⟨hn, h0.nd⟩) fun k hk => by
        rcases List.mem_cons.mp hk with z | z
        · rw [z]; exact (ho p hp a w hm).1
        · exact mono k z
      have h3 : kvs0.length + 1 ≤ kvs1.length := by simpa [keys] using h2
      exact .inr (by omega)
    · have closed : ∀ p, ReachS M s p → kI p ∈ keys kvs0 := fun p hp => by
        induction hp with
        | refl => exact h0.me
        | @step p a w _ hm ih =>
          by_cases z : kI a ∈ keys kvs0
          · exact z
          · exact absurd ⟨p, a, w, ih, hm, z⟩ q
      refine .inl ⟨fun p hp => mono _ (closed p hp), fun hc => ?_⟩
      obtain ⟨p, a, x, hp, hm⟩ := reach_of_say hc
      exact (ho p (closed p hp) a _ hm).2 (by intro z; cases z)
theorem say_end {M : Mc} {s : Nat} {kvs : List (Key × V)} {b : Bool} (h : SayIn M s kvs b) (e : SayFull M s kvs b ∨ M.length + 1 ≤ kvs.length) : b = true ↔ OL.CanSay M s := by
  rcases e with e | e
  · exact ⟨h.snd, e.2⟩
  · exact absurd h.few (by omega)
end OLC
end
section
set_option Elab.async false
set_option linter.all false
set_option maxRecDepth 100000
set_option maxHeartbeats 2000000
/-! the law's search for the states that can say a word: its walk -/
namespace OLC
open PySem PySem.Spec PyProof.Rows L2 OLT
section
variable {P : Program} {w : World} {K : Fr} {mg : Str → Option Value} {base : Heap} {C S f : Addr} {fd : FuncData}
def LoudAt (K : Fr) (H : Hp) (D : Addr) (M : Mc) (ls : List Nat) : Prop := H D = some (.lst (ls.map fun t : Nat => V.int t)) ∧ (∀ t, t ∈ ls ↔ t < M.length ∧ OL.CanSay M t) ∧ ls.length ≤ M.length
def spLSay (K : Fr) : Sp := fun vs H Q _ => ∃ (v : V) (M : Mc), vs = [v] ∧ At K H v (kMc M) ∧ OL.MOk M ∧ ∀ (H' : Hp) (D : Addr) (ls : List Nat), Same H H' → H D = none → LoudAt K H' D M ls → Q (.ref D) H'
theorem or_dec {b : Bool} {w : Option Str} : (if b = true then V.bl true else V.bl (!decide (vW w = V.non))) = V.bl (b || decide (w ≠ none)) := by
  cases b <;> cases w <;> simp [vW]
theorem ok_lsay (T : Tx K mg C S) (F : FnP K "_law_can_say" "_law_can_say" sLSay f fd) : FnOk P w K mg base CX0 1 f fd pLSay (spLSay K) := by
  refine okN F scLSay (fun vs H Q E h => ?_) (fun cdv A0 outer s H vs Q E hr h => ?_)
  · obtain ⟨v, M, rfl, _⟩ := h
    rfl
  · obtain ⟨v, M, rfl, hM, ok, q⟩ := h
    have hu := hu_of hr
    refine ⟨_, pss_cons (ps_set (i := 1) scLSay.nd rfl (.inl rfl) (pe_lst pa_nil))
      (pss_cons (ps_for PassesOwn.never rfl (pi_range1 rfl T.rng (pa_cons (pe_callB call_len (by rfl) T.len boot_len (pa_cons (pv 0) pa_nil)) pa_nil)) (pg_name (i := 2) scLSay.nd rfl (Or.inl rfl))
        (pss_cons (ps_par (i := 3) (j := 4) (by rfl) scLSay.nd rfl rfl (by decide) rfl rfl (pa_cons (pe_disp (pps_cons (pv 2) pe_bl pps_nil) (by rfl) (by rfl) (fun z => by cases z) (by decide)) (pa_cons pe_bl pa_nil)) (by rfl))
        (pss_cons (ps_for PassesOwn.never rfl (pi_range1 rfl T.rng (pa_cons (pe_callB call_len (by rfl) T.len boot_len (pa_cons (pv 0) pa_nil)) pa_nil)) (pg_name (i := 5) scLSay.nd rfl (Or.inl rfl))
          (pss_one (ps_for PassesOwn.never rfl (pi_list (pe_callTy (call_listD rfl) (by rfl) T.lst (by decide +kernel) (pa_cons (pv 3) pa_nil))) (pg_name (i := 6) scLSay.nd rfl (Or.inl rfl))
            (pss_one (ps_for PassesOwn.never rfl (pi_tup (pe_ix ix_tup (pv 0) (pv 6) (fun _ _ => rfl))) (pg_tup rfl (pgs_cons (pg_name (i := 7) scLSay.nd rfl (.inl rfl)) (pgs_cons (pg_name (i := 8) scLSay.nd rfl (.inl rfl)) pgs_nil)))
              (pss_one (ps_asg (pe_tup (pa_cons pe_bl (pa_cons (pe_or (pv 4) (pe_one (pe_cmp (pc_notN (pv 8)) rfl))) pa_nil))) (pg_tup rfl (pgs_cons (pg_sub (pv 3) (pv 7) (set_dict hu)) (pgs_cons (pg_name (i := 4) scLSay.nd rfl (.inl rfl)) pgs_nil))))))))))
        (pss_one (ps_if (pt_val (pv 4)) (pss_one (ps_expr (pe_bm PySem.F.plainAttrs_list PySem.F.slot_list_append PySem.F.type_list_append mt_append (pv 1) (pa_cons (pv 2) pa_nil)))) pss_nil)))))
      (pss_one (ps_ret (pv 1)))), ?_⟩
    obtain ⟨a, xs, rfl, hs, hl, hx⟩ := mc_at hM
    have hmost := ok.most
    refine ⟨Nat.zero_le _, fun F0 hF0 => ?_⟩
    have sF : Same H (upd H F0 (.lst [])) := same_new hF0
    refine ⟨_, rfl, _, M.length, rfl, .inr ⟨_, keep_same sF _ _ hs, hl.symm⟩, _, rfl, by omega, by omega, for_rng M.length rfl (fun i σ H' => ∃ (ls : List Nat) (x2 x3 x4 x5 x6 x7 x8 : Option V), σ = [some (.ref a), some (.ref F0), x2, x3, x4, x5, x6, x7, x8] ∧ Same H H' ∧ H' F0 = some (.lst (ls.map fun t : Nat => V.int t)) ∧ (∀ t, t ∈ ls ↔ t < i ∧ OL.CanSay M t) ∧ ls.length ≤ i)
      ⟨[], _, _, _, _, _, _, _, rfl, sF, upd_same, fun t => ⟨fun h => (by cases h), fun h => absurd h.1 (Nat.not_lt_zero _)⟩, Nat.le_refl _⟩ ?_ ?_⟩
    · rintro i σ H1 hi ⟨ls, x2, x3, x4, x5, x6, x7, x8, rfl, s1, hF1, hls, hll⟩
      intro D hD
      refine ⟨_, rfl, upd_same, [(Sum.inl (0 + (i : Nat) : Int), .bl true)], rfl, (by show 1 ≤ 15; decide), ?_⟩
      refine ⟨_, _, rfl, ?_⟩
      have hDm : mergeK [] [((Sum.inl (0 + (i : Nat) : Int) : Key), V.bl true)] = [(kI i, V.bl true)] := by
        rw [Int.zero_add]
        rfl
      rw [hDm]
      have nFD : F0 ≠ D := ne_of_none hF1 hD
      have s2 : Same H1 (upd (upd H1 D (.dK [])) D (.dK [(kI i, V.bl true)])) := fun b o e => by rw [upd_ne (ne_of_none e hD), upd_ne (ne_of_none e hD)]; exact e
      have hD2 : upd (upd H1 D (.dK [])) D (.dK [(kI i, V.bl true)]) D = some (.dK [(kI i, V.bl true)]) := upd_same
      generalize upd (upd H1 D (.dK [])) D (.dK [(kI i, V.bl true)]) = H2 at s2 hD2 ⊢
      have kx : ∀ {H'}, Same H1 H' → Keep K H H' := fun e => (keep_same s1).trans (keep_same e)
      have si0 : SayIn M i [(kI i, V.bl true)] false := ⟨by simp [keys], fun k hk => ⟨i, hi, by simpa [keys] using hk, .refl⟩, fun z => (by cases z), by simp [keys]⟩
      refine ⟨_, rfl, _, M.length, rfl, .inr ⟨_, kx s2 _ _ hs, hl.symm⟩, _, rfl, by omega, by omega, for_rng M.length rfl (fun t σ H' => ∃ (kvs : List (Key × V)) (b : Bool) (x5 x6 x7 x8 : Option V), σ = [some (.ref a), some (.ref F0), some (.int (0 + (i : Nat))), some (.ref D), some (.bl b), x5, x6, x7, x8] ∧ Same H1 H' ∧ H' D = some (.dK kvs) ∧ SayIn M i kvs b ∧ (SayFull M i kvs b ∨ t + 1 ≤ kvs.length))
        ⟨_, false, _, _, _, _, rfl, s2, hD2, si0, .inr (Nat.le_refl _)⟩ ?_ ?_⟩
      · rintro t σ H3 ht ⟨kvs, b, x5, x6, x7, x8, rfl, s3, hD3, si, prog⟩
        refine ⟨_, rfl, D, kvs, rfl, .inl hD3, fun L hL => ?_⟩
        have s4 : Same H3 (upd H3 L (.lst (kvs.map fun kv => kV kv.1))) := same_new hL
        have hL4 : upd H3 L (.lst (kvs.map fun kv => kV kv.1)) L = some (.lst (kvs.map fun kv => kV kv.1)) := upd_same
        have nDL : D ≠ L := ne_of_none hD3 hL
        generalize upd H3 L (.lst (kvs.map fun kv => kV kv.1)) = H4 at s4 hL4 ⊢
        refine ⟨L, rfl, ⟨_, .inl (.inl hL4)⟩, for_walk (kvs.map fun kv => kV kv.1).length (fun j σ H' => ∃ (kvs1 : List (Key × V)) (b1 : Bool) (x6 x7 x8 : Option V), σ = [some (.ref a), some (.ref F0), some (.int (0 + (i : Nat))), some (.ref D), some (.bl b1), some (.int (0 + (t : Nat))), x6, x7, x8] ∧ Same H1 H' ∧ H' D = some (.dK kvs1) ∧ H' L = some (.lst (kvs.map fun kv => kV kv.1)) ∧ SayIn M i kvs1 b1 ∧ (∀ k ∈ keys kvs, k ∈ keys kvs1) ∧ (b = true → b1 = true) ∧
            ∀ j' p, j' < j → (keys kvs)[j']? = some (kI p) → ∀ a w, (a, w) ∈ OL.opts M p → kI a ∈ keys kvs1 ∧ (w ≠ none → b1 = true))
          ⟨kvs, b, _, _, _, rfl, s3.trans s4, s4 _ _ hD3, hL4, si, fun k h => h, id, fun j' p h => absurd h (Nat.not_lt_zero _)⟩ (fun j σ H' hj ⟨_, _, _, _, _, _, _, _, z, _⟩ => itl_go (K := K) (.inl (.inl z)) hj) (fun σ H' ⟨_, _, _, _, _, _, _, _, z, _⟩ => itl_stop (K := K) (.inl (.inl z))) ?_ ?_⟩
        · rintro j x σ H5 H5' hj ⟨kvs1, b1, x6, x7, x8, rfl, s5, hD5, hL5, si1, mono1, mb1, done1⟩ ⟨rfl, y'⟩
          have ex := y' _ (.inl (.inl hL5))
          have hjk : j < (keys kvs).length := by simpa [keys] using hj
          obtain ⟨p, hp, ep, hrp⟩ := si.each _ (List.getElem_mem hjk)
          have ekj : (keys kvs)[j]? = some (kI p) := by rw [List.getElem?_eq_getElem hjk, ep]
          have exp : x = .int p := by
            have : (kvs.map fun kv => kV kv.1)[j]? = ((keys kvs)[j]?).map kV := by unfold keys; rw [List.getElem?_map, List.getElem?_map]; cases kvs[j]? <;> rfl
            rw [this, ekj] at ex
            cases ex
            rfl
          subst exp
          obtain ⟨b', ys, e1, hb', hlen, hopt⟩ := hx p hp
          refine ⟨_, rfl, _, rfl, a, _, _, _, rfl, rfl, kx s5 _ _ hs, atI_nat e1, b', rfl, ⟨_, kx s5 _ _ hb'⟩, for_walk ys.length (fun o σ H' => ∃ (kvs2 : List (Key × V)) (b2 : Bool) (x7 x8 : Option V), σ = [some (.ref a), some (.ref F0), some (.int (0 + (i : Nat))), some (.ref D), some (.bl b2), some (.int (0 + (t : Nat))), some (.int (p : Nat)), x7, x8] ∧ Same H1 H' ∧ H' D = some (.dK kvs2) ∧ H' L = some (.lst (kvs.map fun kv => kV kv.1)) ∧ SayIn M i kvs2 b2 ∧ (∀ k ∈ keys kvs1, k ∈ keys kvs2) ∧ (b1 = true → b2 = true) ∧
              ∀ o', o' < o → kI (OL.optOf M p o').1 ∈ keys kvs2 ∧ ((OL.optOf M p o').2 ≠ none → b2 = true))
            ⟨kvs1, b1, _, _, rfl, s5, hD5, hL5, si1, fun k h => h, id, fun o' h => absurd h (Nat.not_lt_zero _)⟩ (fun o σ H' ho ⟨_, _, _, _, _, z, _⟩ => itt_go (K := K) (kx z _ _ hb') ho) (fun σ H' ⟨_, _, _, _, _, z, _⟩ => itt_stop (K := K) (kx z _ _ hb')) ?_ ?_⟩
          · rintro o x σ H6 H6' ho ⟨kvs2, b2, x7, x8, rfl, s6, hD6, hL6, si2, mono2, mb2, done2⟩ ⟨rfl, y''⟩
            have exo := y'' _ (kx s6 _ _ hb')
            have hop : o < (OL.opts M p).length := by omega
            obtain ⟨c, e2, hc⟩ := hopt o hop
            rw [e2] at exo
            cases exo
            have hmem := OL.optOf_mem (M := M) (s := p) (o := o) hop
            generalize eo : OL.optOf M p o = oo at hc hmem
            obtain ⟨aa, ww⟩ := oo
            refine ⟨c, _, rfl, kx s6 _ _ hc, rfl, _, _, rfl, _, _, rfl, rfl, ?_⟩
            refine ⟨_, rfl, b2, rfl, ?_⟩
            have fewk := si2.few
            have done : ∀ (b3 : Bool) (pz : Addr), b3 = (b2 || decide (ww ≠ none)) → H6' pz = none → ∀ (H7 : Hp), H7 = upd (upd H6' pz (.tup [.bl true, .bl b3])) D (.dK (putK kvs2 (kI aa) (.bl true))) →
                ∃ (kvs2 : List (Key × V)) (b2 : Bool) (x7 x8 : Option V), ([some (.ref a), some (.ref F0), some (.int (0 + (i : Nat))), some (.ref D), some (.bl b3), some (.int (0 + (t : Nat))), some (.int (p : Nat)), some (.int (aa : Nat)), some (vW ww)] : L2.St) = [some (.ref a), some (.ref F0), some (.int (0 + (i : Nat))), some (.ref D), some (.bl b2), some (.int (0 + (t : Nat))), some (.int (p : Nat)), x7, x8] ∧ Same H1 H7 ∧ H7 D = some (.dK kvs2) ∧ H7 L = some (.lst (kvs.map fun kv => kV kv.1)) ∧ SayIn M i kvs2 b2 ∧ (∀ k ∈ keys kvs1, k ∈ keys kvs2) ∧ (b1 = true → b2 = true) ∧
                  ∀ o', o' < o + 1 → kI (OL.optOf M p o').1 ∈ keys kvs2 ∧ ((OL.optOf M p o').2 ≠ none → b2 = true) := fun b3 pz eb hpz H7 eH => by
              subst eH
              have sz : Same H6' (upd H6' pz (.tup [.bl true, .bl b3])) := same_new hpz
              refine ⟨putK kvs2 (kI aa) (.bl true), b3, _, _, rfl, same_lst (s6.trans sz) hD, upd_same, ?_, ?_, fun k hk => mem_put.mpr (.inr (mono2 k hk)), fun hb1 => by rw [eb, mb2 hb1]; rfl, fun o' ho' => ?_⟩
              · rw [upd_ne nDL.symm]
                exact sz _ _ hL6
              · rw [eb]
                exact si2.put ok hrp hmem
              · by_cases z : o' < o
                · obtain ⟨g1, g2⟩ := done2 o' z
                  exact ⟨mem_put.mpr (.inr g1), fun n => by rw [eb, g2 n]; rfl⟩
                · have z2 : o' = o := by omega
                  subst z2
                  rw [eo]
                  exact ⟨mem_put.mpr (.inl rfl), fun n => by rw [eb, decide_eq_true n, Bool.or_true]⟩
            cases hb2 : b2 with
            | true =>
              subst hb2
              refine iteT ⟨(by show 2 ≤ sizeLine; decide), fun pz hpz => ?_⟩
              refine ⟨pz, _, rfl, .inl (.inl upd_same), rfl, _, _, rfl, _, rfl, _, rfl, D, _, rfl, DPut.k (k := kI aa) (same_new hpz _ _ hD6) (small1000 (by omega)), _, _, rfl, rfl, ?_⟩
              exact done true pz rfl hpz _ rfl
            | false =>
              subst hb2
              refine iteF ⟨_, rfl, (by show 2 ≤ sizeLine; decide), fun pz hpz => ?_⟩
              refine ⟨pz, _, rfl, .inl (.inl upd_same), rfl, _, _, rfl, _, rfl, _, rfl, D, _, rfl, DPut.k (k := kI aa) (same_new hpz _ _ hD6) (small1000 (by omega)), _, _, rfl, rfl, ?_⟩
              exact done _ pz (by cases ww <;> rfl) hpz _ rfl
          · rintro σ H6 ⟨kvs2, b2, x7', x8', rfl, s6, hD6, hL6, si2, mono2, mb2, done2⟩
            refine ⟨kvs2, b2, _, _, _, rfl, s6, hD6, hL6, si2, fun k hk => mono2 k (mono1 k hk), fun z => mb2 (mb1 z), fun j' p' hj' ep' a' w' hm' => ?_⟩
            by_cases z : j' < j
            · obtain ⟨g1, g2⟩ := done1 j' p' z ep' a' w' hm'
              exact ⟨mono2 _ g1, fun n => mb2 (g2 n)⟩
            · have z2 : j' = j := by omega
              subst z2
              rw [ekj] at ep'
              have z3 := kI_inj (Option.some.inj ep')
              subst z3
              obtain ⟨o', ho', eo'⟩ := List.mem_iff_getElem.mp hm'
              have e3 : OL.optOf M p o' = (a', w') := by unfold OL.optOf; rw [List.getElem?_eq_getElem ho', eo']; rfl
              have := done2 o' (by omega)
              rw [e3] at this
              exact this
        · rintro σ H5 ⟨kvs1, b1, x6', x7', x8', rfl, s5, hD5, hL5, si1, mono1, mb1, done1⟩
          refine ⟨kvs1, b1, _, _, _, _, rfl, s5, hD5, si1, say_turn si si1 mono1 mb1 (fun p hp a' w' hm' => ?_) prog⟩
          obtain ⟨j', hj', ej'⟩ := List.mem_iff_getElem.mp hp
          exact done1 j' p (by simpa [keys] using hj') (by rw [List.getElem?_eq_getElem hj', ej']) a' w' hm'
      · rintro σ H3 ⟨kvs, b, x5', x6', x7', x8', rfl, s3, hD3, si, prog⟩
        have hb := say_end si prog
        have hF3 := s3 _ _ hF1
        refine ⟨_, rfl, b, rfl, ?_⟩
        cases b with
        | true =>
          refine iteT ?_
          refine ⟨_, rfl, .inl ⟨rfl, _, .inl (.inl hF3)⟩, _, rfl, F0, _, _, rfl, rfl, hF3, small1000 (by rw [List.length_map]; omega), ?_⟩
          refine ⟨ls ++ [i], _, _, _, _, _, _, _, rfl, same_lst (s1.trans s3) hF0, ?_, fun t => ?_, by rw [List.length_append]; show ls.length + 1 ≤ i + 1; omega⟩
          · rw [upd_same, List.map_append, Int.zero_add]
            rfl
          · rw [List.mem_append, hls t, List.mem_singleton]
            constructor
            · rintro (⟨g1, g2⟩ | g)
              · exact ⟨by omega, g2⟩
              · rw [g]; exact ⟨by omega, hb.mp rfl⟩
            · rintro ⟨g1, g2⟩
              by_cases z : t < i
              · exact .inl ⟨z, g2⟩
              · exact .inr (by omega)
        | false =>
          refine iteF ?_
          refine ⟨ls, _, _, _, _, _, _, _, rfl, s1.trans s3, hF3, fun t => ?_, by omega⟩
          rw [hls t]
          constructor
          · rintro ⟨g1, g2⟩
            exact ⟨by omega, g2⟩
          · rintro ⟨g1, g2⟩
            refine ⟨?_, g2⟩
            by_cases z : t < i
            · exact z
            · have z2 : t = i := by omega
              subst z2
              exact absurd (hb.mpr g2) (by simp)
    · rintro σ H1 ⟨ls, x2, x3, x4, x5, x6, x7, x8, rfl, s1, hF1, hls, hll⟩
      exact ⟨_, rfl, q H1 F0 ls s1 hF0 ⟨hF1, hls, hll⟩⟩
end
end OLC
end
section
set_option Elab.async false
set_option linter.all false
set_option maxRecDepth 100000
set_option maxHeartbeats 400000
/-! sorted(xs), xs a list of pairs ([whole numbers], anything), the lists all different -/
namespace SF
open PySem PySem.Spec PyProof.Rows L2 PySem.W
/-- v, of vs, is a pair, and its first reads as d -/
def FstIs (h : Heap) (vs : List Value) (v : Value) (d : PyData) : Prop := v ∈ vs ∧ ∃ (a : Addr) (o : Obj) (f g : Value) (n : Nat) (as : List Addr), v = .ref a ∧ h.get? a = some o ∧ o.cls = .type "tuple" ∧ o.data = .seq #[f, g] n ∧ Reads h f d as
noncomputable def fstKind (h : Heap) (vs : List Value) (ds : List PyData) : PyProof.Rows.KeyKind where
  toKeyOrd := listOrd itemOrd
  keyOf v := open Classical in if q : ∃ d, d ∈ ds ∧ FstIs h vs v d then some (keyToks q.choose) else none
  dflt := ([] : List (Int ⊕ List Nat))
theorem fst_one {h : Heap} {vs : List Value} {v : Value} {d d' : PyData} (hal : alike d d' = true) (r : FstIs h vs v d) (r' : FstIs h vs v d') : d = d' := by
  obtain ⟨_, a, o, f, g, n, as, rfl, h1, _, h2, h3⟩ := r
  obtain ⟨_, a', o', f', g', n', as', e, h1', _, h2', h3'⟩ := r'
  cases e
  rw [h1] at h1'
  cases h1'
  rw [h2] at h2'
  cases h2'
  exact alike_unique _ _ _ _ _ hal h3 h3'
theorem fst_some {h : Heap} {vs : List Value} {ds : List PyData} (hal : AllAlike ds) {v : Value} {d : PyData} (hd : d ∈ ds) (r : FstIs h vs v d) : (fstKind h vs ds).keyOf v = some (keyToks d) := by
  have q : ∃ d, d ∈ ds ∧ FstIs h vs v d := ⟨d, hd, r⟩
  have e : (fstKind h vs ds).keyOf v = some (keyToks q.choose) := by
    show (open Classical in if q : ∃ d, d ∈ ds ∧ FstIs h vs v d then some (keyToks q.choose) else none) = _
    rw [dif_pos q]
  obtain ⟨h1, h2⟩ := q.choose_spec
  rw [e, fst_one (hal _ h1 _ hd) h2 r]
theorem fst_inv {h : Heap} {vs : List Value} {ds : List PyData} {v : Value} {k : List (Int ⊕ List Nat)} (e : (fstKind h vs ds).keyOf v = some k) : ∃ d, d ∈ ds ∧ FstIs h vs v d ∧ k = keyToks d := by
  by_cases q : ∃ d, d ∈ ds ∧ FstIs h vs v d
  · have e' : (fstKind h vs ds).keyOf v = some (keyToks q.choose) := by
      show (open Classical in if q : ∃ d, d ∈ ds ∧ FstIs h vs v d then some (keyToks q.choose) else none) = _
      rw [dif_pos q]
    obtain ⟨h1, h2⟩ := q.choose_spec
    rw [e'] at e
    exact ⟨_, h1, h2, (Option.some.inj e).symm⟩
  · have e' : (fstKind h vs ds).keyOf v = none := by
      show (open Classical in if q : ∃ d, d ∈ ds ∧ FstIs h vs v d then some (keyToks q.choose) else none) = _
      rw [dif_neg q]
      rfl
    rw [e'] at e
    exact absurd e (by simp)
theorem fst_tups {h : Heap} {us : List Value} : ∀ {vs : List Value} {ds : List PyData}, EachIs (fun v d => FstIs h us v d) vs ds → ∃ fs, KatTups h vs fs ∧ fs.length = vs.length ∧ ∀ f ∈ fs, ∃ d as, d ∈ ds ∧ Reads h f d as
  | _, _, .nil => ⟨[], KatTups.nil, rfl, fun f hf => by cases hf⟩
  | _, _, .cons (b := d) h0 t => by
    obtain ⟨fs, k1, k2, k3⟩ := fst_tups t
    obtain ⟨_, a, o, f, g, n, as, rfl, h1, h2, h3, h4⟩ := h0
    refine ⟨f :: fs, KatTups.cons h1 h2 h3 rfl k1, by rw [List.length_cons, List.length_cons, k2], fun x hx => ?_⟩
    rcases List.mem_cons.mp hx with z | z
    · rw [z]; exact ⟨d, as, List.mem_cons_self, h4⟩
    · obtain ⟨d', as', m1, m2⟩ := k3 x z
      exact ⟨d', as', List.mem_cons_of_mem _ m1, m2⟩
section
variable {prog : Program} {w : World} {A : Around} {s : Shared}
theorem sorts_fst {us vs : List Value} {ds : List PyData} (e : EachIs (fun v d => FstIs s.heap us v d) vs ds) (hal : AllAlike ds) (hk : ∀ d ∈ ds, ∃ l, d = .list l) (hu : ∀ d, d ∈ ds → A.units + d.depth < cLine)
    (hinj : ∀ v d u d', d ∈ ds → d' ∈ ds → FstIs s.heap us v d → FstIs s.heap us u d' → PyData.eqv d d' = true → v = u) : SortsAt prog w A s (fstKind s.heap us ds) vs := by
  have room : ∀ {d d' : PyData}, d ∈ ds → A.units + min d.depth d'.depth < cLine := fun {d d'} hd => Nat.lt_of_le_of_lt (Nat.add_le_add_left (Nat.min_le_left _ _) _) (hu d hd)
  refine ⟨fun v hv => ?_, tuples' true, ?_, fun h2 E Q hq => ?_⟩
  · obtain ⟨d, hd, r⟩ := e.left v hv
    exact ⟨_, fst_some hal hd r⟩
  · intro E x y a b Q ha hb hq
    obtain ⟨d, hd, ra, rfl⟩ := fst_inv ha
    obtain ⟨d', hd', rb, rfl⟩ := fst_inv hb
    have hdd := hal d hd d' hd'
    have hroom := room (d' := d') hd
    have hq' : Q (dataLt d d') s := hq
    have hxy := hinj x d y d' hd hd' ra rb
    have hone := fst_one (d := d) (d' := d') hdd (h := s.heap) (vs := us) (v := x) ra
    obtain ⟨l, el⟩ := hk d hd
    obtain ⟨_, p, o, f, g, n, as, rfl, h1, h2, h3, h4⟩ := id ra
    obtain ⟨_, p', o', f', g', n', as', rfl, h1', h2', h3', h4'⟩ := id rb
    refine kat_lt h1 h3 h1' h3' ?_
    show KatLex prog w A true (decide (2 < 2)) Q [(f, f'), (g, g')] 0 s
    refine kat_cons (eqAt_alike d d' A s _ _ _ _ h4 h4' hdd hroom prog w _ _ ?_)
    cases hx : PyData.eqv d d' with
    | true =>
      have exy := hxy hx
      have e1 : d = d' := hone (by rw [exy]; exact rb)
      subst e1
      cases exy
      rw [h1] at h1'
      cases h1'
      rw [h3] at h3'
      cases h3'
      have irr : dataLt d d = false := by
        show PyProof.Rows.lexLt itemOrd _ _ = false
        exact lex_irrefl _
      rw [irr] at hq'
      refine kat_yes (kat_cons (SeqAt.EqAt.same g prog w _ _ (kat_yes (kat_nil hq'))))
    | false =>
      refine kat_no ?_
      show wpAny (model prog w) A (oneLt' true f f') Q _ s
      exact oneLt_alike (fun _ xs z => by rw [el] at z; cases z) h4 h4' hdd (by rw [el]; intro z; cases z) hroom hq'
  · obtain ⟨fs, t1, t2, t3⟩ := fst_tups e
    have et : (Value.type "list" != Value.type "tuple") = true := by first | decide +kernel | rfl | decide
    refine kat_kind (T := Value.type "list") t1 (by omega) (fun f hf => ?_) (beq_self_eq_true _) (by rw [et]; exact hq)
    obtain ⟨d, as, m1, m2⟩ := t3 f hf
    obtain ⟨l, rfl⟩ := hk d m1
    exact looks_reads m2
end
/-- the list of a row of whole numbers -/
abbrev li (ns : List Int) : PyData := .list (ns.map PyData.int)
theorem alike_li (a b : List Int) : alike (li a) (li b) = true := by
  unfold li
  rw [alike]
  exact alike_ints _ _
theorem eqv_ints : ∀ {a b : List Int}, PyData.eqvAll (a.map PyData.int) (b.map PyData.int) = true → a = b
  | [], [], _ => rfl
  | [], _ :: _, h => by simp [PyData.eqvAll] at h
  | _ :: _, [], h => by simp [PyData.eqvAll] at h
  | x :: a, y :: b, h => by
    rw [List.map_cons, List.map_cons, eqv_all_cons, Bool.and_eq_true] at h
    rw [eqv_ints h.2]
    have h1 : x = y := by simpa [PyData.eqv] using h.1
    rw [h1]
theorem eqv_li {a b : List Int} (h : PyData.eqv (li a) (li b) = true) : a = b := eqv_ints (by simpa [li, PyData.eqv] using h)
theorem dataLe_li : dataLe false li = fun p q => decide (p ≤ q) := by
  funext p q
  show (!dataLt (li q) (li p)) = _
  rw [dataLt_list]
  show (!rowLt (q.map .int) (p.map .int)) = _
  rw [dataLt_ints]
  by_cases h : q < p
  · have h' : ¬ p ≤ q := fun r => List.not_lt.mpr r h
    simp [h, h']
  · have h' : p ≤ q := List.not_lt.mp h
    simp [h, h']
/-- the items, by their rows -/
def byRows (ys : List V) (ns : List (List Int)) : List V := ((ys.zip ns).mergeSort fun a b => decide (a.2 ≤ b.2)).map Prod.fst
def rSortF (K : PySem.W.Frag) : List V → Hp → VK → Prop := fun xs H Q => ∃ (l : Addr) (ys : List V) (ns : List (List Int)), xs = [.ref l] ∧ SqL K H l ys ∧ ns.length = ys.length ∧ ns.Nodup ∧ (∀ m ∈ ns, m.length ≤ 6) ∧
  (∀ (i : Nat) (y : V) (m : List Int), ys[i]? = some y → ns[i]? = some m → ∃ (a b : Addr) (z : V), y = .ref a ∧ SqT K H a [.ref b, z] ∧ SqL K H b (m.map V.int)) ∧ ∀ p, H p = none → Q (.ref p) (upd H p (.lst (byRows ys ns)))
theorem vals_eachR {β : Type} : ∀ {us : List Value} {ps : List (V × β)}, EachIs (fun (u : Value) (p : V × β) => RelV p.1 u) us ps → Vals (ps.map Prod.fst) us
  | _, _, .nil => .nil
  | _, _, .cons h1 h2 => .cons h1 (vals_eachR h2)
theorem dp_ints {K : PySem.W.Frag} {H : Hp} : ∀ (m : List Int), DpAll K H (m.map V.int) (m.map PyData.int)
  | [] => .nil
  | x :: m => .cons (.int x) (dp_ints m)
theorem each_of_get {α β : Type} {R : α → β → Prop} : ∀ {as : List α} {bs : List β}, as.length = bs.length → (∀ (i : Nat) a b, as[i]? = some a → bs[i]? = some b → R a b) → EachIs R as bs
  | [], [], _, _ => .nil
  | [], _ :: _, h, _ => by simp at h
  | _ :: _, [], h, _ => by simp at h
  | a :: as, b :: bs, h, g => .cons (g 0 a b rfl rfl) (each_of_get (by simpa using h) fun i x y e1 e2 => g (i + 1) x y (by simpa using e1) (by simpa using e2))
variable {X : Cx}
theorem call_sortF (hu : X.A.units + 64 < cLine) : CallR X (.builtin "sorted") (rSortF X.K) := by
  intro pins s σ H vs us Q I r h
  obtain ⟨l, ys, ns, rfl, hs, hlen, nd, six, each, q⟩ := h
  obtain rfl := Vals.ref1 r
  obtain ⟨its, rv, hl, hz⟩ := I.list hs
  have hZ : its.length ≤ sizeLine := by rw [← rv.length]; exact hz
  have lit : its.length = ns.length := by rw [hlen, rv.length]
  have hfst : ∀ (i : Nat) (u : Value) (m : List Int), its[i]? = some u → ns[i]? = some m → FstIs s.heap its u (li m) := fun i u m e1 e2 => by
    have hi : i < ys.length := by rw [← hlen]; exact (List.getElem?_eq_some_iff.mp e2).1
    obtain ⟨u', e3, ru⟩ := rv.get (List.getElem?_eq_getElem hi)
    rw [e1] at e3
    cases e3
    obtain ⟨a, b, z, ey, ht, hb⟩ := each i _ m (List.getElem?_eq_getElem hi) e2
    rw [ey] at ru
    cases ru
    obtain ⟨its2, rv2, ⟨o, ho, hc, n, hd⟩, _⟩ := I.tuple ht
    obtain ⟨f, g, e, rf, rg⟩ := vals2 rv2
    subst e
    obtain ⟨as, hr⟩ := Dp.reads I _ _ _ (.lst hb (dp_ints m)) rf
    exact ⟨List.mem_of_getElem? e1, a, o, f, g, n, as, rfl, ho, hc, hd, hr⟩
  have he : EachIs (fun u m => FstIs s.heap its u (li m)) its ns := each_of_get lit hfst
  have he' : EachIs (fun u m => FstIs (sortingHeap (copyHeap s.heap its) (s.heap.objs.size + 1) its) its u (li m)) its ns := he.mono fun u m ⟨hm, a, o, f, g, n, as, e1, e2, e3, e4, e5⟩ => ⟨hm, a, o, f, g, n, as, e1, sorting_copy_old e2, e3, e4, PyProof.Rows.Reads.keeps (fun _ _ => sorting_copy_old) e5⟩
  have hal : AllAlike (ns.map li) := AllAlike.of alike_li
  have e2 : EachIs (fun u d => FstIs (sortingHeap (copyHeap s.heap its) (s.heap.objs.size + 1) its) its u d) its (ns.map li) := each_map li he'
  have hinj : ∀ v d u d', d ∈ ns.map li → d' ∈ ns.map li → FstIs (sortingHeap (copyHeap s.heap its) (s.heap.objs.size + 1) its) its v d → FstIs (sortingHeap (copyHeap s.heap its) (s.heap.objs.size + 1) its) its u d' → PyData.eqv d d' = true → v = u := fun v d u d' hd hd' hv hu' heq => by
    have pos : ∀ (v : Value) (d : PyData), d ∈ ns.map li → FstIs (sortingHeap (copyHeap s.heap its) (s.heap.objs.size + 1) its) its v d → ∃ i, ∃ hi : i < ns.length, its[i]? = some v ∧ d = li ns[i] := fun v d hd hv => by
      obtain ⟨i, hi, ei⟩ := List.mem_iff_getElem.mp hv.1
      have hi2 : i < ns.length := by omega
      have h1 : FstIs (sortingHeap (copyHeap s.heap its) (s.heap.objs.size + 1) its) its v (li ns[i]) := by
        have q0 := hfst i v ns[i] (by rw [List.getElem?_eq_getElem hi, ei]) (List.getElem?_eq_getElem hi2)
        obtain ⟨hm, a, o, f, g, n, as, e1, e2, e3, e4, e5⟩ := q0
        exact ⟨hm, a, o, f, g, n, as, e1, sorting_copy_old e2, e3, e4, PyProof.Rows.Reads.keeps (fun _ _ => sorting_copy_old) e5⟩
      refine ⟨i, hi2, by rw [List.getElem?_eq_getElem hi, ei], fst_one (hal _ hd _ (List.mem_map.mpr ⟨_, List.getElem_mem hi2, rfl⟩)) hv h1⟩
    obtain ⟨i, hi, g1, rfl⟩ := pos v d hd hv
    obtain ⟨j, hj, g2, rfl⟩ := pos u d' hd' hu'
    have e3 := eqv_li heq
    have e4 : i = j := (List.getElem_inj nd).mp e3
    subst e4
    rw [g1] at g2
    exact Option.some.inj g2
  have S : SortsAt X.prog X.w X.A.in1.in1 { s with heap := sortingHeap (copyHeap s.heap its) (s.heap.objs.size + 1) its } (fstKind (sortingHeap (copyHeap s.heap its) (s.heap.objs.size + 1) its) its (ns.map li)) its := by
    refine sorts_fst (s := { s with heap := sortingHeap (copyHeap s.heap its) (s.heap.objs.size + 1) its }) e2 hal (fun d hd => ?_) (fun d hd => ?_) hinj
    · obtain ⟨m, _, rfl⟩ := List.mem_map.mp hd
      exact ⟨_, rfl⟩
    · obtain ⟨m, _, rfl⟩ := List.mem_map.mp hd
      have e5 : (li m).depth ≤ 2 := by
        unfold li
        rw [PyData.depth, depth_ints]
        decide
      show X.A.units + 1 + 1 + _ < cLine
      omega
  refine sorted_vals hl.isList S hZ ?_
  have hout : EachIs (fun (u : Value) (p : V × List Int) => RelV p.1 u) (sortVals (fstKind (sortingHeap (copyHeap s.heap its) (s.heap.objs.size + 1) its) its (ns.map li)) false its its) ((ys.zip ns).mergeSort (dataLe false fun p : V × List Int => li p.2)) := by
    refine sortVals_each (κ := fstKind (sortingHeap (copyHeap s.heap its) (s.heap.objs.size + 1) its) its (ns.map li)) (fun p : V × List Int => keyToks (li p.2)) ?_ ?_
    · refine each_of_get (by rw [List.length_zip, hlen, rv.length]; simp) fun i a b e1 e3 => ?_
      obtain ⟨b1, b2⟩ := b
      obtain ⟨g1, g2⟩ := List.getElem?_zip_eq_some.mp e3
      obtain ⟨u, g3, g4⟩ := rv.get g1
      rw [e1] at g3
      cases g3
      exact g4
    · refine each_of_get (by rw [List.length_zip, hlen, rv.length]; simp) fun i a b e1 e3 => ?_
      obtain ⟨b1, b2⟩ := b
      obtain ⟨g1, g2⟩ := List.getElem?_zip_eq_some.mp e3
      obtain ⟨hm, a', o, f, g, n, as, k1, k2, k3, k4, k5⟩ := hfst i a b2 e1 g2
      exact fst_some hal (List.mem_map.mpr ⟨b2, List.mem_of_getElem? g2, rfl⟩) ⟨hm, a', o, f, g, n, as, k1, sorting_copy_old k2, k3, k4, PyProof.Rows.Reads.keeps (fun _ _ => sorting_copy_old) k5⟩
  have ele : (dataLe false fun p : V × List Int => li p.2) = fun a b => decide (a.2 ≤ b.2) := by
    funext a b
    have := congrFun (congrFun dataLe_li a.2) b.2
    exact this
  rw [ele] at hout
  have rout : Vals (byRows ys ns) (sortVals (fstKind (sortingHeap (copyHeap s.heap its) (s.heap.objs.size + 1) its) its (ns.map li)) false its its) := by
    exact vals_eachR hout
  generalize sortVals (fstKind (sortingHeap (copyHeap s.heap its) (s.heap.objs.size + 1) its) its (ns.map li)) false its its = out at rout ⊢
  obtain ⟨ep, he''⟩ := PyProof.Rows.sortedAll_at s.heap its out.toArray
  have lout : (byRows ys ns).length ≤ sizeLine := by
    unfold byRows
    rw [List.length_map, List.length_mergeSort, List.length_zip, hlen, Nat.min_self]
    exact hz
  exact ⟨.ref _, upd H (s.heap.objs.size + 1) (.lst (byRows ys ns)), I.laid (t' := s.toks) (fun _ _ => PyProof.Rows.sortedAll_old) (Nat.le_succ _) ⟨lout, out, ep, rout, by simpa using he''⟩, rfl, q _ (I.hok.fresh (Nat.le_succ _))⟩
end SF
end
section
set_option Elab.async false
set_option linter.all false
set_option maxRecDepth 100000
set_option maxHeartbeats 4000000
/-! the law's turn of the search: the pairs behind a pair -/
namespace OLC
open PySem PySem.Spec PyProof.Rows L2 OLT
section
variable {P : Program} {w : World} {K : Fr} {mg : Str → Option Value} {base : Heap} {C S f : Addr} {fd : FuncData}
def chP (M : Mc) (pr : OL.Pr) : Nat → List OL.Pr
  | 0 => []
  | 1 => if pr.1.2.1 = none then (OL.choices M pr.1.1).map fun c => (c, pr.2) else []
  | _ => OL.chosen M pr
theorem chP_few {M : Mc} {Tb : OL.Tb} {pr : OL.Pr} (ok : OL.MOk M) (h : OL.PrOk M Tb pr) (j : Nat) : (chP M pr j).length ≤ 8 := by
  have h1 := OL.chosen_few ok h
  match j with
  | 0 => exact Nat.zero_le _
  | 1 =>
    refine Nat.le_trans ?_ h1
    show (chP M pr 1).length ≤ _
    unfold OL.chosen
    rw [List.length_append]
    exact Nat.le_add_right _ _
  | n + 2 => exact h1
/-- one side of a pair, gone on -/
abbrev gg (M : Mc) (Tb : OL.Tb) (t : Nat × Nat × Nat) : OL.Pl × Option Str := OL.goneOn M Tb t.1 t.2.1 t.2.2
open Classical in
noncomputable def lf (M : Mc) (Tb : OL.Tb) (t : Nat × Nat × Nat) : Bool := decide (OL.CanFrom M (gg M Tb t).1)
theorem lf_iff {M : Mc} {Tb : OL.Tb} {t : Nat × Nat × Nat} : lf M Tb t = true ↔ OL.CanFrom M (gg M Tb t).1 := by simp [lf]
theorem inV_ints {t : Nat} {ls : List Nat} : inV (.int (t : Nat)) (ls.map fun t : Nat => V.int t) = true ↔ t ∈ ls := by
  unfold inV
  rw [List.any_eq_true]
  constructor
  · rintro ⟨x, hx, e⟩
    obtain ⟨t', ht', rfl⟩ := List.mem_map.mp hx
    have e : decide ((t' : Int) = (t : Int)) = true := by simpa [eqV] using e
    have e := of_decide_eq_true e
    rwa [show t = t' by omega]
  · exact fun h => ⟨.int t, List.mem_map.mpr ⟨t, h, rfl⟩, by simp [eqV]⟩
theorem flat_ints {ls : List Nat} : (ls.map fun t : Nat => V.int t).all flatV = true := by
  rw [List.all_eq_true]
  intro x hx
  obtain ⟨t', _, rfl⟩ := List.mem_map.mp hx
  rfl
def spLBehind (K : Fr) : Sp := fun vs H Q _ => ∃ (v u t : V) (M : Mc) (k : Nat) (Tb : OL.Tb) (pr : OL.Pr), vs = [v, u, t] ∧ At K H v (kMc M) ∧ At K H u (kTb Tb) ∧ OL.MOk M ∧ OL.TOk M k Tb ∧ At K H t (kPr pr) ∧ OL.PrOk M Tb pr ∧
  ∀ (H' : Hp) (R A : Addr) (b : Bool) (xs : List V), Same H H' → SqT K H' R [.ref A, .bl b] → H A = none → H' A = some (.lst xs) → Ats K H' xs ((OL.sucs M Tb pr).map kPr) → (b = true ↔ OL.Bad M Tb pr) → Q (.ref R) H'
theorem ok_lbehind {f1 : Addr} {d1 : FuncData} (T : Tx K mg C S) (F : FnP K "_law_pairs_behind" "_law_pairs_behind" sLBehind f fd) (G1 : Cal P w K mg base "_law_can_say" 1 pLSay (spLSay K) f1 d1 [] []) : FnOk P w K mg base CX0 2 f fd pLBehind (spLBehind K) := by
  refine okN F scLBehind (fun vs H Q E h => ?_) (fun cdv A0 outer s H vs Q E hr h => ?_)
  · obtain ⟨v, u, t, M, k, Tb, pr, rfl, _⟩ := h
    rfl
  · obtain ⟨v, u, t, M, k, Tb, pr, rfl, hM, hT, ok, okT, hv, hpr, q⟩ := h
    refine ⟨_, pss_cons (ps_par (i := 3) (j := 4) (by rfl) scLBehind.nd rfl rfl (by decide) rfl rfl (pa_cons (pe_lst pa_nil) (pa_cons (pe_cal G1 hr (pa_cons (pv 0) pa_nil)) pa_nil)) (by rfl))
      (pss_cons (ps_for PassesOwn.never rfl (pi_tup (pe_tup (pa_cons pe_int (pa_cons pe_int pa_nil)))) (pg_name (i := 5) scLBehind.nd rfl (Or.inl rfl))
        (pss_cons (ps_asg (pe_ix ix_tup (pv 2) (pv 5) (fun _ _ => rfl)) (pg_tup rfl (pgs_cons (pg_name (i := 6) scLBehind.nd rfl (.inl rfl)) (pgs_cons (pg_name (i := 7) scLBehind.nd rfl (.inl rfl)) (pgs_cons (pg_name (i := 8) scLBehind.nd rfl (.inl rfl)) pgs_nil)))))
        (pss_one (ps_if (pt_cmpR op_isN (pv 7) pe_non (nomark _))
          (pss_one (ps_for PassesOwn.never rfl (pi_range1 rfl T.rng (pa_cons (pe_callB call_len (by rfl) T.len boot_len (pa_cons (pe_ix ix_tup (pv 0) (pv 6) (fun _ _ => rfl)) pa_nil)) pa_nil)) (pg_name (i := 9) scLBehind.nd rfl (Or.inl rfl))
            (pss_cons (ps_set (i := 10) scLBehind.nd rfl (.inl rfl) (pe_tup (pa_cons (pv 6) (pa_cons (pv 9) (pa_cons pe_int pa_nil)))))
            (pss_one (ps_expr (pe_bm PySem.F.plainAttrs_list PySem.F.slot_list_append PySem.F.type_list_append mt_append (pv 3) (pa_cons (pe_ifExp (pt_cmpR op_eq (pv 5) pe_int (nomark _)) (pe_tup (pa_cons (pv 10) (pa_cons (pe_ix ix_tup (pv 2) pe_int (fun _ _ => rfl)) pa_nil))) (pe_tup (pa_cons (pe_ix ix_tup (pv 2) pe_int (fun _ _ => rfl)) (pa_cons (pv 10) pa_nil)))) pa_nil))))))) pss_nil))))
      (pss_cons (ps_if (PW.pt (pw_or (pt_cmpR op_isN (pe_ix ix_tup (pe_ix ix_tup (pv 2) pe_int (fun _ _ => rfl)) pe_int (fun _ _ => rfl)) pe_non (nomark _)) (pw_or1 (pt_cmpR op_isN (pe_ix ix_tup (pe_ix ix_tup (pv 2) pe_int (fun _ _ => rfl)) pe_int (fun _ _ => rfl)) pe_non (nomark _)))))
        (pss_one (ps_ret (pe_tup (pa_cons (pv 3) (pa_cons pe_bl pa_nil))))) pss_nil)
      (pss_cons (ps_setLc (i := 11) (own := [("_law_place", 10)]) (g := gName 10) rfl scLBehind.nd rfl rfl (sw_true rfl rfl rfl (by decide +kernel)) (pi_tup (pv 2)) (blkOk_by (N := nLBehind) (sc := defScope sLBehind) (by decide +kernel)) (fun _ _ _ _ _ => pg_name (i := 10) scLBehind.nd rfl (Or.inl rfl)) (fun _ _ _ _ _ => pts_nil)
          (fun _ _ _ _ _ => pe_ix (ix_tupK (K := K)) (pe_ix (ix_tupK (K := K)) (pv 1) (pe_ix (ix_tupK (K := K)) (pv 10) pe_int (fun _ _ => rfl)) (fun _ _ => rfl)) (pe_ix (ix_tupK (K := K)) (pv 10) pe_int (fun _ _ => rfl)) (fun _ _ => rfl)))
      (pss_cons (ps_if (pt_cmpR op_ne (pe_ix ix_tup (pe_ix ix_list (pv 11) pe_int (fun _ _ => rfl)) (pe_ix ix_tup (pe_ix ix_tup (pv 2) pe_int (fun _ _ => rfl)) pe_int (fun _ _ => rfl)) (fun _ _ => rfl)) (pe_ix ix_tup (pe_ix ix_list (pv 11) pe_int (fun _ _ => rfl)) (pe_ix ix_tup (pe_ix ix_tup (pv 2) pe_int (fun _ _ => rfl)) pe_int (fun _ _ => rfl)) (fun _ _ => rfl)) (nomark _))
        (pss_one (ps_ret (pe_tup (pa_cons (pv 3) (pa_cons pe_bl pa_nil))))) pss_nil)
      (pss_cons (ps_par3 (i := 12) (j := 13) (l := 14) (by rfl) scLBehind.nd rfl rfl rfl (by decide) (by decide) (by decide) rfl rfl rfl (pa_cons (pe_lst pa_nil) (pa_cons (pe_lst pa_nil) (pa_cons (pe_lst pa_nil) pa_nil))) (by rfl))
      (pss_cons (ps_for PassesOwn.never rfl (EZ.pi_zipTL T.zip (pa_cons (pv 2) (pa_cons (pv 11) pa_nil))) (pg_tup rfl (pgs_cons (pg_name (i := 10) scLBehind.nd rfl (.inl rfl)) (pgs_cons (pg_name (i := 15) scLBehind.nd rfl (.inl rfl)) pgs_nil)))
        (pss_cons (ps_asg (pv 10) (pg_tup rfl (pgs_cons (pg_name (i := 6) scLBehind.nd rfl (.inl rfl)) (pgs_cons (pg_name (i := 7) scLBehind.nd rfl (.inl rfl)) (pgs_cons (pg_name (i := 8) scLBehind.nd rfl (.inl rfl)) pgs_nil)))))
        (pss_cons (ps_asg (pe_ix ix_tup (pe_ix ix_tup (pv 0) (pv 6) (fun _ _ => rfl)) (pv 7) (fun _ _ => rfl)) (pg_tup rfl (pgs_cons (pg_name (i := 16) scLBehind.nd rfl (.inl rfl)) (pgs_cons (pg_name (i := 17) scLBehind.nd rfl (.inl rfl)) pgs_nil))))
        (pss_cons (ps_set (i := 18) scLBehind.nd rfl (.inl rfl) (pe_cmpR op_eq (pe_op op_add (pv 8) pe_int) (pe_callB call_len (by rfl) T.len boot_len (pa_cons (pv 15) pa_nil)) (nomark _)))
        (pss_cons (ps_expr (pe_bm PySem.F.plainAttrs_list PySem.F.slot_list_append PySem.F.type_list_append mt_append (pv 12) (pa_cons (pe_ifExp (pt_val (pv 18)) (pe_tup (pa_cons (pv 16) (pa_cons pe_non (pa_cons pe_int pa_nil)))) (pe_tup (pa_cons (pv 6) (pa_cons (pv 7) (pa_cons (pe_op op_add (pv 8) pe_int) pa_nil))))) pa_nil)))
        (pss_cons (ps_expr (pe_bm PySem.F.plainAttrs_list PySem.F.slot_list_append PySem.F.type_list_append mt_append (pv 13) (pa_cons (pe_ifExp (pt_val (pv 18)) (pv 17) pe_non) pa_nil)))
        (pss_one (ps_expr (pe_bm PySem.F.plainAttrs_list PySem.F.slot_list_append PySem.F.type_list_append mt_append (pv 14) (pa_cons (pe_ifExp (PW.pt (pw_or (pt_val (pv 18)) (pw_or1 (pt_cmpR op_isN (pv 17) pe_non (nomark _))))) (pe_cmpR op_in_seq (pv 16) (pv 4) (by rfl)) pe_bl) pa_nil))))))))))
      (pss_cons (ps_if (pt_cmpR op_eq (pe_ix ix_list (pv 13) pe_int (fun _ _ => rfl)) (pe_ix ix_list (pv 13) pe_int (fun _ _ => rfl)) (nomark _))
        (pss_one (ps_ret (pe_tup (pa_cons (pe_op op_cat (pv 3) (pe_lst (pa_cons (pe_callTy call_tuple_of (by rfl) T.tup (by decide +kernel) (pa_cons (pv 12) pa_nil)) pa_nil))) (pa_cons pe_bl pa_nil))))) pss_nil)
      (pss_one (ps_ret (pe_tup (pa_cons (pv 3) (pa_cons (pe_or (pe_cmpR op_notIn_seq pe_non (pv 13) (by rfl)) (pe_one (pe_ix ix_list (pv 14) (pe_bm PySem.F.plainAttrs_list PySem.F.slot_list_index PySem.F.type_list_index mt_index (pv 13) (pa_cons pe_non pa_nil)) (fun _ _ => rfl)))) pa_nil)))))))))))), ?_⟩
    obtain ⟨am, xm, rfl, hsm, hlm, hxm⟩ := mc_at hM
    obtain ⟨at', xt, rfl, hst, hlt, hxt⟩ := tb_at hT
    obtain ⟨c, x, y, rfl, hc, hx, hy⟩ := at_pr.mp hv
    obtain ⟨⟨s1', o1, n1⟩, ⟨s2', o2, n2⟩⟩ := pr
    obtain ⟨cx, rfl, hcx⟩ := at_pl.mp hx
    obtain ⟨cy, rfl, hcy⟩ := at_pl.mp hy
    have hs1 : s1' < M.length := hpr.1.1
    have hs2 : s2' < M.length := hpr.2.1
    refine ⟨Nat.zero_le _, fun F0 hF0 => ⟨_, rfl, .ref am, M, rfl, hM.keep (keep_same (same_new hF0)), ok, fun H1 D ls z1 hD loud => ⟨_, _, rfl, ?_⟩⟩⟩
    have hF1' : H1 F0 = some (.lst []) := z1 _ _ upd_same
    have s01 : Same H H1 := (same_new hF0).trans z1
    refine ⟨(by show 2 ≤ sizeLine; decide), fun p2 hp2 => ?_⟩
    have s12 := same_new (o := .tup [.int 0, .int 1]) hp2
    have hp2' : upd H1 p2 (.tup [.int 0, .int 1]) p2 = some (.tup [.int 0, .int 1]) := upd_same
    have hF2' := s12 _ _ hF1'
    have hF2n : H F0 = none := hF0
    have s02 : Same H (upd H1 p2 (.tup [.int 0, .int 1])) := s01.trans s12
    obtain ⟨hloud, hls, hll⟩ := loud
    have np2 : p2 ≠ F0 := fun z => by rw [z, hF1'] at hp2; cases hp2
    have hloud2 := s12 _ _ hloud
    generalize upd H1 p2 (.tup [.int 0, .int 1]) = H2 at s02 hp2' hF2' hloud2 ⊢
    have hDn : D ≠ F0 := fun z => by rw [z, upd_same] at hD; cases hD
    have hDH : H D = none := by rw [upd_ne hDn] at hD; exact hD
    have hc2 := keep_same s02 _ _ hc
    have hcx2 := keep_same s02 _ _ hcx
    have hcy2 := keep_same s02 _ _ hcy
    have hx2 := hx.keep (keep_same s02)
    have hy2 := hy.keep (keep_same s02)
    refine ⟨p2, rfl, ⟨_, .inl (.inl hp2')⟩, for_walk 2 (fun i σ H' => ∃ (x5 x6 x7 x8 x9 x10 : Option V) (xs : List V), σ = [some (.ref am), some (.ref at'), some (.ref c), some (.ref F0), some (.ref D), x5, x6, x7, x8, x9, x10, none, none, none, none, none, none, none, none] ∧ But F0 H2 H' ∧ H' F0 = some (.lst xs) ∧ Ats K H' xs ((chP M ((s1', o1, n1), (s2', o2, n2)) i).map kPr))
      ⟨_, _, _, _, _, _, [], rfl, But.refl, hF2', .nil'⟩ (fun i σ H' hi ⟨_, _, _, _, _, _, _, _, z, _⟩ => itt_go (K := K) (xs := [.int 0, .int 1]) (.inl (.inl (z _ _ np2 hp2'))) hi) (fun σ H' ⟨_, _, _, _, _, _, _, _, z, _⟩ => itt_stop (K := K) (xs := [.int 0, .int 1]) (.inl (.inl (z _ _ np2 hp2')))) ?_ ?_⟩
    · rintro i x σ HX H3' hi ⟨x5, x6, x7, x8, x9, x10, xs, rfl, s1, hF1, hxs⟩ ⟨rfl, y'⟩
      have ex := y' _ (.inl (.inl (s1 _ _ np2 hp2')))
      clear y'
      match i, hi, ex, hxs with

      | 0, _, ex, hxs =>
          obtain rfl : V.int 0 = x := by simpa using ex
          refine ⟨_, rfl, _, rfl, c, _, _, _, rfl, rfl, But.tup hF2' s1 _ _ hc2, (atI_nat (j := 0) rfl), cx, _, rfl, But.tup hF2' s1 _ _ hcx2, rfl, _, _, rfl, _, _, rfl, _, _, rfl, rfl, ?_⟩
          refine ⟨_, rfl, rfl, _, rfl, ?_⟩
          cases o1 with
          | some o' =>
            refine iteDN (by intro z; cases z) ?_
            refine ⟨_, _, _, _, _, _, xs, rfl, s1, hF1, ?_⟩
            have e : chP M ((s1', some o', n1), (s2', o2, n2)) 1 = chP M ((s1', some o', n1), (s2', o2, n2)) 0 := by simp [chP, OL.chosen]
            rw [e]
            exact hxs
          | none =>
            refine iteD rfl ?_
            obtain ⟨bm, ym, e1, hbm, hlen, -⟩ := hxm s1' hs1
            have fw : (OL.opts M s1').length ≤ 4 := few_opts ok hs1
            refine ⟨_, rfl, _, rfl, am, _, _, _, rfl, rfl, ((keep_same s02).trans (But.tup hF2' s1)) _ _ hsm, atI_nat e1, _, (OL.opts M s1').length, rfl, .inr ⟨_, ((keep_same s02).trans (But.tup hF2' s1)) _ _ hbm, hlen.symm⟩, _, rfl, by omega, by omega, for_rng (OL.opts M s1').length rfl (fun t σ H' => ∃ (x9 x10 : Option V) (xs' : List V), σ = [some (.ref am), some (.ref at'), some (.ref c), some (.ref F0), some (.ref D), some (.int 0), some (.int (s1' : Nat)), some .non, some (.int (n1 : Nat)), x9, x10, none, none, none, none, none, none, none, none] ∧ But F0 H2 H' ∧ H' F0 = some (.lst xs') ∧ Ats K H' xs' ((chP M ((s1', none, n1), (s2', o2, n2)) 0 ++ ((OL.choices M s1').take t).map fun c' => ((c', (s2', o2, n2)) : OL.Pr)).map kPr))
              ⟨_, _, _, rfl, s1, hF1, by simpa using hxs⟩ ?_ ?_⟩
            · rintro t σ H3 ht ⟨x9, x10, xs', rfl, s3, hF3, hxs'⟩
              refine ⟨_, rfl, _, rfl, (by show 3 ≤ sizeLine; decide), fun p3 hp3 => ?_⟩
              have z3 := same_new (o := .tup [.int (s1' : Nat), .int (0 + (t : Nat)), .int 0]) hp3
              have hpl : At K (upd H3 p3 (.tup [.int (s1' : Nat), .int (0 + (t : Nat)), .int 0])) (.ref p3) (kPl (s1', some t, 0)) := at_pl.mpr ⟨p3, rfl, by rw [show (0 + (t : Nat) : Int) = (t : Nat) by omega]; exact .inl (.inl upd_same)⟩
              generalize upd H3 p3 (.tup [.int (s1' : Nat), .int (0 + (t : Nat)), .int 0]) = H4 at z3 hpl ⊢
              have hF4 := z3 _ _ hF3
              refine ⟨_, rfl, .inl ⟨rfl, _, .inl (.inl hF4)⟩, _, rfl, rfl, _, rfl, iteD rfl ?_⟩
              refine ⟨_, rfl, _, rfl, c, _, _, _, rfl, rfl, But.tup hF2' (s3.trans (Same.but z3)) _ _ hc2, (atI_nat (j := 1) rfl), (by show 2 ≤ sizeLine; decide), fun p4 hp4 => ?_⟩
              have z4 := same_new (o := .tup [.ref p3, .ref cy]) hp4
              have hll : xs'.length ≤ 8 + t := by
                rw [hxs'.len, List.length_map, List.length_append, List.length_map, List.length_take]
                have := chP_few (pr := ((s1', none, n1), (s2', o2, n2))) ok hpr 0
                omega
              refine ⟨F0, xs', _, rfl, rfl, z4 _ _ hF4, small1000 (by omega), _, _, _, rfl, (s3.trans (Same.but (z3.trans z4))).trans but_upd, upd_same, ?_⟩
              have hic : t < (OL.choices M s1').length := by unfold OL.choices; rw [List.length_map, List.length_range]; exact ht
              have eci : (OL.choices M s1')[t]? = some (s1', some t, 0) := by
                unfold OL.choices
                rw [List.getElem?_map, List.getElem?_range ht]
                rfl
              have kk : Keep K H4 (upd (upd H4 p4 (.tup [.ref p3, .ref cy])) F0 (.lst (xs' ++ [.ref p4]))) := (keep_same z4).trans (keep_lst (z4 _ _ hF4))
              have eT : chP M ((s1', none, n1), (s2', o2, n2)) 0 ++ ((OL.choices M s1').take (t + 1)).map (fun c' => ((c', (s2', o2, n2)) : OL.Pr)) = (chP M ((s1', none, n1), (s2', o2, n2)) 0 ++ ((OL.choices M s1').take t).map (fun c' => ((c', (s2', o2, n2)) : OL.Pr))) ++ [(fun c' : OL.Pl => ((c', (s2', o2, n2)) : OL.Pr)) (s1', some t, 0)] := by
                rw [List.take_add_one, eci, List.map_append, ← List.append_assoc]
                rfl
              rw [eT, List.map_append]
              refine (hxs'.keep ((keep_same z3).trans kk)).snoc (at_pr.mpr ⟨p4, _, _, rfl, keep_lst (z4 _ _ hF4) _ _ (.inl (.inl upd_same)), hpl.keep kk, hy2.keep ((But.tup hF2' (s3.trans (Same.but z3))).trans kk)⟩)
            · rintro σ H3 ⟨x9, x10, xs', rfl, s3, hF3, hxs'⟩
              refine ⟨_, _, _, _, _, _, xs', rfl, s3, hF3, ?_⟩
              have et : (OL.choices M s1').take (OL.opts M s1').length = OL.choices M s1' := List.take_of_length_le (by unfold OL.choices; rw [List.length_map, List.length_range]; exact Nat.le_refl _)
              rw [et] at hxs'
              have e : chP M ((s1', none, n1), (s2', o2, n2)) 1 = chP M ((s1', none, n1), (s2', o2, n2)) 0 ++ (OL.choices M s1').map fun c' => ((c', (s2', o2, n2)) : OL.Pr) := by simp [chP, OL.chosen]
              rw [e]
              exact hxs'

      | 1, _, ex, hxs =>
          obtain rfl : V.int 1 = x := by simpa using ex
          refine ⟨_, rfl, _, rfl, c, _, _, _, rfl, rfl, But.tup hF2' s1 _ _ hc2, (atI_nat (j := 1) rfl), cy, _, rfl, But.tup hF2' s1 _ _ hcy2, rfl, _, _, rfl, _, _, rfl, _, _, rfl, rfl, ?_⟩
          refine ⟨_, rfl, rfl, _, rfl, ?_⟩
          cases o2 with
          | some o' =>
            refine iteDN (by intro z; cases z) ?_
            refine ⟨_, _, _, _, _, _, xs, rfl, s1, hF1, ?_⟩
            have e : chP M ((s1', o1, n1), (s2', some o', n2)) 2 = chP M ((s1', o1, n1), (s2', some o', n2)) 1 := by simp [chP, OL.chosen]
            rw [e]
            exact hxs
          | none =>
            refine iteD rfl ?_
            obtain ⟨bm, ym, e1, hbm, hlen, -⟩ := hxm s2' hs2
            have fw : (OL.opts M s2').length ≤ 4 := few_opts ok hs2
            refine ⟨_, rfl, _, rfl, am, _, _, _, rfl, rfl, ((keep_same s02).trans (But.tup hF2' s1)) _ _ hsm, atI_nat e1, _, (OL.opts M s2').length, rfl, .inr ⟨_, ((keep_same s02).trans (But.tup hF2' s1)) _ _ hbm, hlen.symm⟩, _, rfl, by omega, by omega, for_rng (OL.opts M s2').length rfl (fun t σ H' => ∃ (x9 x10 : Option V) (xs' : List V), σ = [some (.ref am), some (.ref at'), some (.ref c), some (.ref F0), some (.ref D), some (.int 1), some (.int (s2' : Nat)), some .non, some (.int (n2 : Nat)), x9, x10, none, none, none, none, none, none, none, none] ∧ But F0 H2 H' ∧ H' F0 = some (.lst xs') ∧ Ats K H' xs' ((chP M ((s1', o1, n1), (s2', none, n2)) 1 ++ ((OL.choices M s2').take t).map fun c' => (((s1', o1, n1), c') : OL.Pr)).map kPr))
              ⟨_, _, _, rfl, s1, hF1, by simpa using hxs⟩ ?_ ?_⟩
            · rintro t σ H3 ht ⟨x9, x10, xs', rfl, s3, hF3, hxs'⟩
              refine ⟨_, rfl, _, rfl, (by show 3 ≤ sizeLine; decide), fun p3 hp3 => ?_⟩
              have z3 := same_new (o := .tup [.int (s2' : Nat), .int (0 + (t : Nat)), .int 0]) hp3
              have hpl : At K (upd H3 p3 (.tup [.int (s2' : Nat), .int (0 + (t : Nat)), .int 0])) (.ref p3) (kPl (s2', some t, 0)) := at_pl.mpr ⟨p3, rfl, by rw [show (0 + (t : Nat) : Int) = (t : Nat) by omega]; exact .inl (.inl upd_same)⟩
              generalize upd H3 p3 (.tup [.int (s2' : Nat), .int (0 + (t : Nat)), .int 0]) = H4 at z3 hpl ⊢
              have hF4 := z3 _ _ hF3
              refine ⟨_, rfl, .inl ⟨rfl, _, .inl (.inl hF4)⟩, _, rfl, rfl, _, rfl, iteDN (by intro z; cases z) ?_⟩
              refine ⟨_, rfl, c, _, _, _, rfl, rfl, But.tup hF2' (s3.trans (Same.but z3)) _ _ hc2, rfl, _, rfl, (by show 2 ≤ sizeLine; decide), fun p4 hp4 => ?_⟩
              have z4 := same_new (o := .tup [.ref cx, .ref p3]) hp4
              have hll : xs'.length ≤ 8 + t := by
                rw [hxs'.len, List.length_map, List.length_append, List.length_map, List.length_take]
                have := chP_few (pr := ((s1', o1, n1), (s2', none, n2))) ok hpr 1
                omega
              refine ⟨F0, xs', _, rfl, rfl, z4 _ _ hF4, small1000 (by omega), _, _, _, rfl, (s3.trans (Same.but (z3.trans z4))).trans but_upd, upd_same, ?_⟩
              have hic : t < (OL.choices M s2').length := by unfold OL.choices; rw [List.length_map, List.length_range]; exact ht
              have eci : (OL.choices M s2')[t]? = some (s2', some t, 0) := by
                unfold OL.choices
                rw [List.getElem?_map, List.getElem?_range ht]
                rfl
              have kk : Keep K H4 (upd (upd H4 p4 (.tup [.ref cx, .ref p3])) F0 (.lst (xs' ++ [.ref p4]))) := (keep_same z4).trans (keep_lst (z4 _ _ hF4))
              have eT : chP M ((s1', o1, n1), (s2', none, n2)) 1 ++ ((OL.choices M s2').take (t + 1)).map (fun c' => (((s1', o1, n1), c') : OL.Pr)) = (chP M ((s1', o1, n1), (s2', none, n2)) 1 ++ ((OL.choices M s2').take t).map (fun c' => (((s1', o1, n1), c') : OL.Pr))) ++ [(fun c' : OL.Pl => (((s1', o1, n1), c') : OL.Pr)) (s2', some t, 0)] := by
                rw [List.take_add_one, eci, List.map_append, ← List.append_assoc]
                rfl
              rw [eT, List.map_append]
              refine (hxs'.keep ((keep_same z3).trans kk)).snoc (at_pr.mpr ⟨p4, _, _, rfl, keep_lst (z4 _ _ hF4) _ _ (.inl (.inl upd_same)), hx2.keep ((But.tup hF2' (s3.trans (Same.but z3))).trans kk), hpl.keep kk⟩)
            · rintro σ H3 ⟨x9, x10, xs', rfl, s3, hF3, hxs'⟩
              refine ⟨_, _, _, _, _, _, xs', rfl, s3, hF3, ?_⟩
              have et : (OL.choices M s2').take (OL.opts M s2').length = OL.choices M s2' := List.take_of_length_le (by unfold OL.choices; rw [List.length_map, List.length_range]; exact Nat.le_refl _)
              rw [et] at hxs'
              have e : chP M ((s1', o1, n1), (s2', none, n2)) 2 = chP M ((s1', o1, n1), (s2', none, n2)) 1 ++ (OL.choices M s2').map fun c' => (((s1', o1, n1), c') : OL.Pr) := by simp [chP, OL.chosen]
              rw [e]
              exact hxs'
    · rintro σ H3 ⟨x5, x6, x7, x8, x9, x10, xs, rfl, s1, hF3, hxs⟩
      have s3 : Same H H3 := fun b o e => s1 b o (ne_of_none e hF0) (s02 b o e)
      have hc3 := keep_same s3 _ _ hc
      have hcx3 := keep_same s3 _ _ hcx
      have hcy3 := keep_same s3 _ _ hcy
      have hD3 := s1 _ _ hDn hloud2
      have lxs : xs.length ≤ 8 := by rw [hxs.len, List.length_map]; exact OL.chosen_few ok hpr
      have hxs : Ats K H3 xs ((OL.chosen M ((s1', o1, n1), (s2', o2, n2))).map kPr) := hxs
      clear hc2 hcx2 hcy2 hx2 hy2
      have bad0 : ∀ (H' : Hp), Same H H' → H' F0 = some (.lst xs) → Keep K H3 H' → OL.together M Tb ((s1', o1, n1), (s2', o2, n2)) = none → ∀ R, H' R = none → Q (.ref R) (upd H' R (.tup [.ref F0, .bl false])) := fun H' z1 z2 z3 z4 R hR => by
        have e : OL.sucs M Tb ((s1', o1, n1), (s2', o2, n2)) = OL.chosen M ((s1', o1, n1), (s2', o2, n2)) := by unfold OL.sucs OL.last1; rw [z4]; simp
        have zR := same_new (o := .tup [.ref F0, .bl false]) hR
        refine q _ R F0 false xs (z1.trans zR) (.inl (.inl upd_same)) hF0 (zR _ _ z2) ?_ ⟨fun z => (by cases z), fun z => absurd z (OL.not_bad_none z4)⟩
        rw [e]
        exact hxs.keep (z3.trans (keep_same zR))
      refine ⟨_, rfl, c, _, _, _, rfl, rfl, hc3, rfl, cx, _, _, _, rfl, rfl, hcx3, (atI_nat (j := 1) rfl), rfl, _, rfl, ?_⟩
      cases o1 with
      | none =>
        refine iteD rfl ?_
        refine ⟨_, rfl, (by show 2 ≤ sizeLine; decide), fun R hR => ?_⟩
        exact bad0 H3 s3 hF3 Keep.refl (by simp [OL.together]) R hR
      | some o1 =>
      refine iteDN (by intro z; cases z) ?_
      refine ⟨_, rfl, c, _, _, _, rfl, rfl, hc3, (atI_nat (j := 1) rfl), cy, _, _, _, rfl, rfl, hcy3, (atI_nat (j := 1) rfl), rfl, _, rfl, ?_⟩
      cases o2 with
      | none =>
        refine iteD rfl ?_
        refine ⟨_, rfl, (by show 2 ≤ sizeLine; decide), fun R hR => ?_⟩
        exact bad0 H3 s3 hF3 Keep.refl (by simp [OL.together]) R hR
      | some o2 =>
      refine iteDN (by intro z; cases z) ?_
      have ho1 : o1 < (OL.opts M s1').length := hpr.1.2.1
      have ho2 : o2 < (OL.opts M s2').length := hpr.2.2.1
      have hn1 : n1 < (OL.rowOf Tb s1' o1).length := hpr.1.2.2
      have hn2 : n2 < (OL.rowOf Tb s2' o2).length := hpr.2.2.2
      obtain ⟨b1, y1, e11, hb1, l11, hy1⟩ := hxt s1' (by rw [okT.len]; exact hs1)
      obtain ⟨b2, y2, e21, hb2, l21, hy2⟩ := hxt s2' (by rw [okT.len]; exact hs2)
      obtain ⟨r1, e12, hr1⟩ := hy1 o1 (by rw [okT.each _ hs1]; exact ho1)
      obtain ⟨r2, e22, hr2⟩ := hy2 o2 (by rw [okT.each _ hs2]; exact ho2)
      -- the lines
      refine ⟨_, rfl, c, rfl, ⟨_, hc3⟩, fun L hL => ?_⟩
      refine walkG 2 (fun i H' => H' L = some (.lst (([.ref r1, .ref r2] : List V).take i)) ∧ Same H3 H') ⟨upd_same, same_new hL⟩ (fun i H' hi e => itt_go (K := K) (a := c) (xs := [.ref cx, .ref cy]) (keep_same e.2 _ _ hc3) hi) (fun H' e => itt_stop (K := K) (a := c) (xs := [.ref cx, .ref cy]) (keep_same e.2 _ _ hc3)) ?_ ?_
      · rintro i x' H4 H5 hi ⟨h4, s4⟩ ⟨rfl, y'⟩
        have ex := y' _ (keep_same s4 _ _ hc3)
        clear y'
        have k5 : Keep K H H5 := keep_same (s3.trans s4)
        match i, hi, ex, h4 with
        | 0, _, ex, h4 =>
          obtain rfl : V.ref cx = x' := by simpa using ex
          refine ⟨rfl, ?_⟩
          refine ⟨_, rfl, _, rfl, cx, _, _, _, rfl, rfl, k5 _ _ hcx, rfl, at', _, _, _, rfl, rfl, k5 _ _ hst, atI_nat e11, _, rfl, cx, _, _, _, rfl, rfl, k5 _ _ hcx, (atI_nat (j := 1) rfl), b1, _, _, _, rfl, rfl, k5 _ _ hb1, atI_nat e12, ?_⟩
          exact ⟨_, h4, small1000 (by first | decide | simp), upd_same, same_lst s4 hL⟩
        | 1, _, ex, h4 =>
          obtain rfl : V.ref cy = x' := by simpa using ex
          refine ⟨rfl, ?_⟩
          refine ⟨_, rfl, _, rfl, cy, _, _, _, rfl, rfl, k5 _ _ hcy, rfl, at', _, _, _, rfl, rfl, k5 _ _ hst, atI_nat e21, _, rfl, cy, _, _, _, rfl, rfl, k5 _ _ hcy, (atI_nat (j := 1) rfl), b2, _, _, _, rfl, rfl, k5 _ _ hb2, atI_nat e22, ?_⟩
          exact ⟨_, h4, small1000 (by first | decide | simp), upd_same, same_lst s4 hL⟩
      · rintro H4 ⟨h4, s4⟩
        have h4 : H4 L = some (.lst [.ref r1, .ref r2]) := h4
        have sH4 := s3.trans s4
        have k4 : Keep K H H4 := keep_same sH4
        have m1 : ∃ m, (OL.rowOf Tb s1' o1)[n1]? = some m := ⟨_, List.getElem?_eq_getElem hn1⟩
        have m2 : ∃ m, (OL.rowOf Tb s2' o2)[n2]? = some m := ⟨_, List.getElem?_eq_getElem hn2⟩
        obtain ⟨m1, em1⟩ := m1
        obtain ⟨m2, em2⟩ := m2
        have em1' : ((OL.rowOf Tb s1' o1).map fun m : Nat => V.int m)[n1]? = some (.int (m1 : Nat)) := by rw [List.getElem?_map, em1]; rfl
        have em2' : ((OL.rowOf Tb s2' o2).map fun m : Nat => V.int m)[n2]? = some (.int (m2 : Nat)) := by rw [List.getElem?_map, em2]; rfl
        refine ⟨_, rfl, L, _, _, _, rfl, rfl, .inl (.inl h4), rfl, _, rfl, c, _, _, _, rfl, rfl, k4 _ _ hc, rfl, cx, _, _, _, rfl, rfl, k4 _ _ hcx, (atI_nat (j := 2) rfl), r1, _, _, _, rfl, rfl, k4 _ _ hr1, atI_nat em1', ?_⟩
        refine ⟨_, rfl, L, _, _, _, rfl, rfl, .inl (.inl h4), (atI_nat (j := 1) rfl), _, rfl, c, _, _, _, rfl, rfl, k4 _ _ hc, (atI_nat (j := 1) rfl), cy, _, _, _, rfl, rfl, k4 _ _ hcy, (atI_nat (j := 2) rfl), r2, _, _, _, rfl, rfl, k4 _ _ hr2, atI_nat em2', ?_⟩
        refine ⟨rfl, _, rfl, ?_⟩
        by_cases em : m1 = m2
        · refine iteNS (by rw [em]) ?_
          have et : OL.together M Tb ((s1', some o1, n1), (s2', some o2, n2)) = some (((gg M Tb (s1', o1, n1)).1, (gg M Tb (s2', o2, n2)).1), (gg M Tb (s1', o1, n1)).2, (gg M Tb (s2', o2, n2)).2) := by
            have em1 : OL.nextMark Tb s1' o1 n1 = some m1 := em1
            have em2 : OL.nextMark Tb s2' o2 n2 = some m2 := em2
            simp only [OL.together]
            rw [em1, em2, em, if_pos rfl]
          refine ⟨Nat.zero_le _, fun A hA => ⟨Nat.zero_le _, fun B hB => ⟨Nat.zero_le _, fun C' hC => ⟨_, _, _, rfl, ?_⟩⟩⟩⟩
          have nAB : A ≠ B := fun z => by rw [← z, upd_same] at hB; cases hB
          have nBC : B ≠ C' := fun z => by rw [← z, upd_same] at hC; cases hC
          have nAC : A ≠ C' := fun z => by rw [← z, upd_ne nAB, upd_same] at hC; cases hC
          have hBn : H4 B = none := by rw [upd_ne nAB.symm] at hB; exact hB
          have hCn : H4 C' = none := by rw [upd_ne nBC.symm, upd_ne nAC.symm] at hC; exact hC
          have s5 : Same H4 (upd (upd (upd H4 A (.lst [])) B (.lst [])) C' (.lst [])) := (same_new hA).trans ((same_new hB).trans (same_new hC))
          have hA5 : upd (upd (upd H4 A (.lst [])) B (.lst [])) C' (.lst []) A = some (.lst []) := by rw [upd_ne nAC, upd_ne nAB, upd_same]
          have hB5 : upd (upd (upd H4 A (.lst [])) B (.lst [])) C' (.lst []) B = some (.lst []) := by rw [upd_ne nBC, upd_same]
          have hC5 : upd (upd (upd H4 A (.lst [])) B (.lst [])) C' (.lst []) C' = some (.lst []) := upd_same
          generalize upd (upd (upd H4 A (.lst [])) B (.lst [])) C' (.lst []) = H5 at s5 hA5 hB5 hC5 ⊢
          have items : ∀ (i : Nat) (x y : V), ([.ref cx, .ref cy] : List V)[i]? = some x → ([.ref r1, .ref r2] : List V)[i]? = some y → ∃ (s o n : Nat) (cc rr : Addr), [(s1', o1, n1), (s2', o2, n2)][i]? = some (s, o, n) ∧ x = .ref cc ∧ SqT K H cc [.int (s : Nat), .int (o : Nat), .int (n : Nat)] ∧ y = .ref rr ∧ SqT K H rr ((OL.rowOf Tb s o).map fun m : Nat => V.int m) ∧ s < M.length ∧ o < (OL.opts M s).length ∧ n < (OL.rowOf Tb s o).length := fun i x y e1 e2 => by
            match i, e1, e2 with
            | 0, e1, e2 =>
              cases e1; cases e2
              exact ⟨s1', o1, n1, cx, r1, rfl, rfl, hcx, rfl, hr1, hs1, ho1, hn1⟩
            | 1, e1, e2 =>
              cases e1; cases e2
              exact ⟨s2', o2, n2, cy, r2, rfl, rfl, hcy, rfl, hr2, hs2, ho2, hn2⟩
            | n + 2, e1, e2 => cases e1
          refine ⟨_, rfl, _, rfl, c, L, [.ref cx, .ref cy], [.ref r1, .ref r2], rfl, keep_same s5 _ _ (k4 _ _ hc), .inl (.inl (s5 _ _ h4)), EZ.for_zipTL (xs := [.ref cx, .ref cy]) (ys := [.ref r1, .ref r2]) rfl (fun i σ H' => ∃ (x6 x7 x8 x10 x15 x16 x17 x18 : Option V) (acc : List V), σ = [some (.ref am), some (.ref at'), some (.ref c), some (.ref F0), some (.ref D), x5, x6, x7, x8, x9, x10, some (.ref L), some (.ref A), some (.ref B), some (.ref C'), x15, x16, x17, x18] ∧ Same H4 H' ∧ H' A = some (.lst acc) ∧ Ats K H' acc (([(s1', o1, n1), (s2', o2, n2)].take i).map fun t => kPl (gg M Tb t).1) ∧ H' B = some (.lst (([(s1', o1, n1), (s2', o2, n2)].take i).map fun t => vW (gg M Tb t).2)) ∧ H' C' = some (.lst (([(s1', o1, n1), (s2', o2, n2)].take i).map fun t => V.bl (lf M Tb t))))
            ⟨_, _, _, _, _, _, _, _, [], rfl, s5, hA5, .nil', hB5, hC5⟩ (fun i σ H' ⟨_, _, _, _, _, _, _, _, _, _, z, _⟩ => ⟨keep_same z _ _ (k4 _ _ hc), .inl (.inl (z _ _ h4))⟩) ?_ ?_⟩
          · rintro i x y T' σ H6 ex ey ⟨x6, x7, x8, x10, x15, x16, x17, x18, acc, rfl, s6, hA6, hacc, hB6, hC6⟩ hT'
            obtain ⟨s', o', n', cc, rr, eTL, rfl, hcc, rfl, hrr, hs', ho', hn'⟩ := items i x y ex ey
            have z7 := same_new (o := .tup [.ref cc, .ref rr]) hT'
            have hT7 : upd H6 T' (.tup [.ref cc, .ref rr]) T' = some (.tup [.ref cc, .ref rr]) := upd_same
            have hA7 := z7 _ _ hA6
            have hB7 := z7 _ _ hB6
            have hC7 := z7 _ _ hC6
            have hacc7 := hacc.keep (keep_same z7)
            have s7 := s6.trans z7
            generalize upd H6 T' (.tup [.ref cc, .ref rr]) = H7 at s7 hT7 hA7 hB7 hC7 hacc7 ⊢
            have k7 : Keep K H H7 := k4.trans (keep_same s7)
            have hil : i < 2 := (List.getElem?_eq_some_iff.mp ex).1
            have lacc : acc.length ≤ 2 := by rw [hacc7.len, List.length_map, List.length_take]; exact Nat.le_trans (Nat.min_le_left _ _) (by omega)
            have ltk : ∀ {β : Type} (g : (Nat × Nat × Nat) → β), (([(s1', o1, n1), (s2', o2, n2)].take i).map g).length ≤ 2 := fun g => by rw [List.length_map, List.length_take]; exact Nat.le_trans (Nat.min_le_left _ _) (by omega)
            obtain ⟨bm, ym, ebm, hbm, lbm, hym⟩ := hxm s' hs'
            obtain ⟨co, eco, hco⟩ := hym o' ho'
            refine ⟨T', _, rfl, .inl (.inl hT7), rfl, _, _, rfl, _, _, rfl, rfl, ?_⟩
            refine ⟨_, rfl, cc, _, rfl, k7 _ _ hcc, rfl, _, _, rfl, _, _, rfl, _, _, rfl, rfl, ?_⟩
            refine ⟨_, rfl, _, rfl, am, _, _, _, rfl, rfl, k7 _ _ hsm, atI_nat ebm, _, rfl, bm, _, _, _, rfl, rfl, k7 _ _ hbm, atI_nat eco, co, _, rfl, k7 _ _ hco, rfl, _, _, rfl, _, _, rfl, rfl, ?_⟩
            refine ⟨_, rfl, _, _, rfl, rfl, _, rfl, _, (OL.rowOf Tb s' o').length, rfl, .inr ⟨_, k7 _ _ hrr, by rw [List.length_map]⟩, rfl, ?_⟩
            generalize hwh : decide (V.int ((n' : Int) + 1) = V.int ((OL.rowOf Tb s' o').length : Nat)) = wh
            have hwh2 : wh = true ↔ n' + 1 = (OL.rowOf Tb s' o').length := by
              rw [← hwh, decide_eq_true_iff]
              constructor
              · intro z
                have := V.int.inj z
                omega
              · intro z
                rw [← z]
                rfl
            clear hwh
            have eplus : ∀ {β : Type} (g : (Nat × Nat × Nat) → β), ([(s1', o1, n1), (s2', o2, n2)].take (i + 1)).map g = (([(s1', o1, n1), (s2', o2, n2)].take i).map g) ++ [g (s', o', n')] := fun g => by
              rw [List.take_add_one, eTL, List.map_append]
              rfl
            generalize eoo : OL.optOf M s' o' = oo at hco
            obtain ⟨aa, ww⟩ := oo
            -- the end of the turn
            have fin : ∀ (pl : Addr) (H8 : Hp), Same H4 H8 → H8 A = some (.lst (acc ++ [.ref pl])) → Ats K H8 (acc ++ [.ref pl]) (([(s1', o1, n1), (s2', o2, n2)].take (i + 1)).map fun t => kPl (gg M Tb t).1) → H8 B = some (.lst (([(s1', o1, n1), (s2', o2, n2)].take i).map fun t => vW (gg M Tb t).2)) → H8 C' = some (.lst (([(s1', o1, n1), (s2', o2, n2)].take i).map fun t => V.bl (lf M Tb t))) → ∀ (σ : L2.St) (vw : V) (vb : Bool), σ = [some (.ref am), some (.ref at'), some (.ref c), some (.ref F0), some (.ref D), x5, some (.int (s' : Nat)), some (.int (o' : Nat)), some (.int (n' : Nat)), x9, some (.ref cc), some (.ref L), some (.ref A), some (.ref B), some (.ref C'), some (.ref rr), some (.int (aa : Nat)), some (vW ww), some (.bl wh)] →
                vw = vW (gg M Tb (s', o', n')).2 → vb = lf M Tb (s', o', n') → ∃ (x6 x7 x8 x10 x15 x16 x17 x18 : Option V) (acc : List V), σ = [some (.ref am), some (.ref at'), some (.ref c), some (.ref F0), some (.ref D), x5, x6, x7, x8, x9, x10, some (.ref L), some (.ref A), some (.ref B), some (.ref C'), x15, x16, x17, x18] ∧ Same H4 (upd (upd H8 B (.lst ((([(s1', o1, n1), (s2', o2, n2)].take i).map fun t => vW (gg M Tb t).2) ++ [vw]))) C' (.lst ((([(s1', o1, n1), (s2', o2, n2)].take i).map fun t => V.bl (lf M Tb t)) ++ [.bl vb]))) ∧
                  (upd (upd H8 B (.lst ((([(s1', o1, n1), (s2', o2, n2)].take i).map fun t => vW (gg M Tb t).2) ++ [vw]))) C' (.lst ((([(s1', o1, n1), (s2', o2, n2)].take i).map fun t => V.bl (lf M Tb t)) ++ [.bl vb]))) A = some (.lst acc) ∧ Ats K (upd (upd H8 B (.lst ((([(s1', o1, n1), (s2', o2, n2)].take i).map fun t => vW (gg M Tb t).2) ++ [vw]))) C' (.lst ((([(s1', o1, n1), (s2', o2, n2)].take i).map fun t => V.bl (lf M Tb t)) ++ [.bl vb]))) acc (([(s1', o1, n1), (s2', o2, n2)].take (i + 1)).map fun t => kPl (gg M Tb t).1) ∧
                  (upd (upd H8 B (.lst ((([(s1', o1, n1), (s2', o2, n2)].take i).map fun t => vW (gg M Tb t).2) ++ [vw]))) C' (.lst ((([(s1', o1, n1), (s2', o2, n2)].take i).map fun t => V.bl (lf M Tb t)) ++ [.bl vb]))) B = some (.lst (([(s1', o1, n1), (s2', o2, n2)].take (i + 1)).map fun t => vW (gg M Tb t).2)) ∧
                  (upd (upd H8 B (.lst ((([(s1', o1, n1), (s2', o2, n2)].take i).map fun t => vW (gg M Tb t).2) ++ [vw]))) C' (.lst ((([(s1', o1, n1), (s2', o2, n2)].take i).map fun t => V.bl (lf M Tb t)) ++ [.bl vb]))) C' = some (.lst (([(s1', o1, n1), (s2', o2, n2)].take (i + 1)).map fun t => V.bl (lf M Tb t))) := by
              rintro pl H8 s8 hA8 hacc8 hB8 hC8 σ vw vb rfl rfl rfl
              have hC9 : upd H8 B (.lst ((([(s1', o1, n1), (s2', o2, n2)].take i).map fun t => vW (gg M Tb t).2) ++ [vW (gg M Tb (s', o', n')).2])) C' = some (.lst (([(s1', o1, n1), (s2', o2, n2)].take i).map fun t => V.bl (lf M Tb t))) := by rw [upd_ne nBC.symm]; exact hC8
              refine ⟨_, _, _, _, _, _, _, _, acc ++ [.ref pl], rfl, same_lst (same_lst s8 hBn) hCn, ?_, hacc8.keep ((keep_lst hB8).trans (keep_lst hC9)), ?_, ?_⟩
              · rw [upd_ne nAC, upd_ne nAB]; exact hA8
              · rw [upd_ne nBC, upd_same, eplus]
              · rw [upd_same, eplus]
            cases hwv : wh with
            | true =>
              have hd : n' + 1 = (OL.rowOf Tb s' o').length := hwh2.mp hwv
              have eg : gg M Tb (s', o', n') = ((aa, none, 0), ww) := by
                show OL.goneOn M Tb s' o' n' = _
                unfold OL.goneOn
                rw [if_neg (by omega), eoo]
              have elf : lf M Tb (s', o', n') = inV (.int (aa : Nat)) (ls.map fun t : Nat => V.int t) := by
                have haa : aa < M.length := by
                  have := OL.opts_lead ok (OL.optOf_mem ho')
                  rw [eoo] at this
                  exact this
                rw [Bool.eq_iff_iff, lf_iff, inV_ints, eg, hls]
                exact ⟨fun z => ⟨haa, z⟩, fun z => z.2⟩
              refine ⟨_, rfl, .inl ⟨rfl, _, .inl (.inl hA7)⟩, _, rfl, true, rfl, iteT ?_⟩
              refine ⟨_, rfl, (by show 3 ≤ sizeLine; decide), fun pl hpl => ?_⟩
              have z8 := same_new (o := .tup [.int (aa : Nat), .non, .int 0]) hpl
              refine ⟨A, acc, _, rfl, rfl, z8 _ _ hA7, small1000 (by omega), ?_⟩
              have hB8 : upd (upd H7 pl (.tup [.int (aa : Nat), .non, .int 0])) A (.lst (acc ++ [.ref pl])) B = some (.lst (([(s1', o1, n1), (s2', o2, n2)].take i).map fun t => vW (gg M Tb t).2)) := by rw [upd_ne nAB.symm]; exact z8 _ _ hB7
              have hC8 : upd (upd H7 pl (.tup [.int (aa : Nat), .non, .int 0])) A (.lst (acc ++ [.ref pl])) C' = some (.lst (([(s1', o1, n1), (s2', o2, n2)].take i).map fun t => V.bl (lf M Tb t))) := by rw [upd_ne nAC.symm]; exact z8 _ _ hC7
              have hA8 : upd (upd H7 pl (.tup [.int (aa : Nat), .non, .int 0])) A (.lst (acc ++ [.ref pl])) A = some (.lst (acc ++ [.ref pl])) := upd_same
              have s8 : Same H4 (upd (upd H7 pl (.tup [.int (aa : Nat), .non, .int 0])) A (.lst (acc ++ [.ref pl]))) := same_lst (s7.trans z8) hA
              have kA : Keep K (upd H7 pl (.tup [.int (aa : Nat), .non, .int 0])) (upd (upd H7 pl (.tup [.int (aa : Nat), .non, .int 0])) A (.lst (acc ++ [.ref pl]))) := keep_lst (z8 _ _ hA7)
              have hacc8 : Ats K (upd (upd H7 pl (.tup [.int (aa : Nat), .non, .int 0])) A (.lst (acc ++ [.ref pl]))) (acc ++ [.ref pl]) (([(s1', o1, n1), (s2', o2, n2)].take (i + 1)).map fun t => kPl (gg M Tb t).1) := by
                rw [eplus, eg]
                exact (hacc7.keep ((keep_same z8).trans kA)).snoc (at_pl.mpr ⟨pl, rfl, kA _ _ (.inl (.inl upd_same))⟩)
              generalize upd (upd H7 pl (.tup [.int (aa : Nat), .non, .int 0])) A (.lst (acc ++ [.ref pl])) = H8 at hB8 hC8 hA8 s8 hacc8 ⊢
              refine ⟨_, rfl, .inl ⟨rfl, _, .inl (.inl hB8)⟩, _, rfl, true, rfl, iteT ⟨_, rfl, B, _, _, rfl, rfl, hB8, small1000 (Nat.le_trans (ltk _) (show 2 ≤ 1000 by decide)), ?_⟩⟩
              have hC9 : ∀ o, upd H8 B o C' = some (.lst (([(s1', o1, n1), (s2', o2, n2)].take i).map fun t => V.bl (lf M Tb t))) := fun o => by rw [upd_ne nBC.symm]; exact hC8
              have hD9 : ∀ o, upd H8 B o D = some (.lst (ls.map fun t : Nat => V.int t)) := fun o => by rw [upd_ne (ne_of_none (s4 _ _ hD3) hBn)]; exact s8 _ _ (s4 _ _ hD3)
              refine ⟨_, rfl, .inl ⟨rfl, _, .inl (.inl (hC9 _))⟩, _, rfl, true, rfl, iteT ?_⟩
              refine iteT ⟨_, rfl, _, rfl, D, _, rfl, .inl (.inl (.inl (hD9 _))), rfl, flat_ints, C', _, _, rfl, rfl, hC9 _, small1000 (Nat.le_trans (ltk _) (show 2 ≤ 1000 by decide)), ?_⟩
              exact fin pl H8 s8 hA8 hacc8 hB8 hC8 _ _ _ (by rw [hwv]; rfl) (by rw [eg]) elf.symm
            | false =>
              have hd : ¬ n' + 1 = (OL.rowOf Tb s' o').length := fun z => by rw [hwh2.mpr z] at hwv; cases hwv
              have eg : gg M Tb (s', o', n') = ((s', some o', n' + 1), none) := by
                show OL.goneOn M Tb s' o' n' = _
                unfold OL.goneOn
                rw [if_pos (by omega)]
              refine ⟨_, rfl, .inl ⟨rfl, _, .inl (.inl hA7)⟩, _, rfl, false, rfl, iteF ?_⟩
              refine ⟨_, rfl, _, rfl, _, rfl, _, _, rfl, rfl, (by show 3 ≤ sizeLine; decide), fun pl hpl => ?_⟩
              have z8 := same_new (o := .tup [.int (s' : Nat), .int (o' : Nat), .int ((n' : Int) + 1)]) hpl
              refine ⟨A, acc, _, rfl, rfl, z8 _ _ hA7, small1000 (by omega), ?_⟩
              have hB8 : upd (upd H7 pl (.tup [.int (s' : Nat), .int (o' : Nat), .int ((n' : Int) + 1)])) A (.lst (acc ++ [.ref pl])) B = some (.lst (([(s1', o1, n1), (s2', o2, n2)].take i).map fun t => vW (gg M Tb t).2)) := by rw [upd_ne nAB.symm]; exact z8 _ _ hB7
              have hC8 : upd (upd H7 pl (.tup [.int (s' : Nat), .int (o' : Nat), .int ((n' : Int) + 1)])) A (.lst (acc ++ [.ref pl])) C' = some (.lst (([(s1', o1, n1), (s2', o2, n2)].take i).map fun t => V.bl (lf M Tb t))) := by rw [upd_ne nAC.symm]; exact z8 _ _ hC7
              have hA8 : upd (upd H7 pl (.tup [.int (s' : Nat), .int (o' : Nat), .int ((n' : Int) + 1)])) A (.lst (acc ++ [.ref pl])) A = some (.lst (acc ++ [.ref pl])) := upd_same
              have s8 : Same H4 (upd (upd H7 pl (.tup [.int (s' : Nat), .int (o' : Nat), .int ((n' : Int) + 1)])) A (.lst (acc ++ [.ref pl]))) := same_lst (s7.trans z8) hA
              have kA : Keep K (upd H7 pl (.tup [.int (s' : Nat), .int (o' : Nat), .int ((n' : Int) + 1)])) (upd (upd H7 pl (.tup [.int (s' : Nat), .int (o' : Nat), .int ((n' : Int) + 1)])) A (.lst (acc ++ [.ref pl]))) := keep_lst (z8 _ _ hA7)
              have hacc8 : Ats K (upd (upd H7 pl (.tup [.int (s' : Nat), .int (o' : Nat), .int ((n' : Int) + 1)])) A (.lst (acc ++ [.ref pl]))) (acc ++ [.ref pl]) (([(s1', o1, n1), (s2', o2, n2)].take (i + 1)).map fun t => kPl (gg M Tb t).1) := by
                rw [eplus, eg]
                exact (hacc7.keep ((keep_same z8).trans kA)).snoc (at_pl.mpr ⟨pl, rfl, kA _ _ (.inl (.inl upd_same))⟩)
              generalize upd (upd H7 pl (.tup [.int (s' : Nat), .int (o' : Nat), .int ((n' : Int) + 1)])) A (.lst (acc ++ [.ref pl])) = H8 at hB8 hC8 hA8 s8 hacc8 ⊢
              refine ⟨_, rfl, .inl ⟨rfl, _, .inl (.inl hB8)⟩, _, rfl, false, rfl, iteF ⟨B, _, _, rfl, rfl, hB8, small1000 (Nat.le_trans (ltk _) (show 2 ≤ 1000 by decide)), ?_⟩⟩
              have hC9 : ∀ o, upd H8 B o C' = some (.lst (([(s1', o1, n1), (s2', o2, n2)].take i).map fun t => V.bl (lf M Tb t))) := fun o => by rw [upd_ne nBC.symm]; exact hC8
              have hD9 : ∀ o, upd H8 B o D = some (.lst (ls.map fun t : Nat => V.int t)) := fun o => by rw [upd_ne (ne_of_none (s4 _ _ hD3) hBn)]; exact s8 _ _ (s4 _ _ hD3)
              refine ⟨_, rfl, .inl ⟨rfl, _, .inl (.inl (hC9 _))⟩, _, rfl, false, rfl, iteF ⟨_, rfl, rfl, _, rfl, ?_⟩⟩
              have hcf : OL.CanFrom M (gg M Tb (s', o', n')).1 ↔ ww ≠ none ∨ OL.CanSay M aa := by
                rw [eg]
                show (OL.optOf M s' o').2 ≠ none ∨ OL.CanSay M (OL.optOf M s' o').1 ↔ _
                rw [eoo]
              cases ww with
              | none =>
                have elf : lf M Tb (s', o', n') = inV (.int (aa : Nat)) (ls.map fun t : Nat => V.int t) := by
                  have haa : aa < M.length := by
                    have := OL.opts_lead ok (OL.optOf_mem ho')
                    rw [eoo] at this
                    exact this
                  rw [Bool.eq_iff_iff, lf_iff, inV_ints, hcf, hls]
                  exact ⟨fun z => ⟨haa, z.elim (fun n => absurd rfl n) id⟩, fun z => .inr z.2⟩
                refine iteD rfl ?_
                refine ⟨_, rfl, _, rfl, D, _, rfl, .inl (.inl (.inl (hD9 _))), rfl, flat_ints, C', _, _, rfl, rfl, hC9 _, small1000 (Nat.le_trans (ltk _) (show 2 ≤ 1000 by decide)), ?_⟩
                exact fin pl H8 s8 hA8 hacc8 hB8 hC8 _ _ _ (by rw [hwv]; rfl) (by rw [eg]; rfl) elf.symm
              | some ww =>
                have elf : lf M Tb (s', o', n') = true := by
                  rw [lf_iff, hcf]
                  exact .inl (by intro z; cases z)
                refine iteDN (by intro z; cases z) ?_
                refine ⟨C', _, _, rfl, rfl, hC9 _, small1000 (Nat.le_trans (ltk _) (show 2 ≤ 1000 by decide)), ?_⟩
                exact fin pl H8 s8 hA8 hacc8 hB8 hC8 _ _ _ (by rw [hwv]; rfl) (by rw [eg]; rfl) elf.symm
          · rintro σ H6 ⟨x6, x7, x8, x10, x15, x16, x17, x18, acc, rfl, s6, hA6, hacc, hB6, hC6⟩
            have hB6 : H6 B = some (.lst [vW (gg M Tb (s1', o1, n1)).2, vW (gg M Tb (s2', o2, n2)).2]) := hB6
            have hC6 : H6 C' = some (.lst [.bl (lf M Tb (s1', o1, n1)), .bl (lf M Tb (s2', o2, n2))]) := hC6
            have hacc : Ats K H6 acc [kPl (gg M Tb (s1', o1, n1)).1, kPl (gg M Tb (s2', o2, n2)).1] := hacc
            have hF6 := s6 _ _ (s4 _ _ hF3)
            have hxs6 := hxs.keep (keep_same (s4.trans s6))
            have sH6 := sH4.trans s6
            have l1 := lf_iff (M := M) (Tb := Tb) (t := (s1', o1, n1))
            have l2 := lf_iff (M := M) (Tb := Tb) (t := (s2', o2, n2))
            have hbad := OL.bad_some et
            have esl : OL.last1 M Tb ((s1', some o1, n1), (s2', some o2, n2)) = if (gg M Tb (s1', o1, n1)).2 = (gg M Tb (s2', o2, n2)).2 then [((gg M Tb (s1', o1, n1)).1, (gg M Tb (s2', o2, n2)).1)] else [] := by
              unfold OL.last1
              rw [et]
            generalize lf M Tb (s1', o1, n1) = f1 at l1 hC6
            generalize lf M Tb (s2', o2, n2) = f2 at l2 hC6
            generalize gg M Tb (s1', o1, n1) = g1 at l1 hacc hB6 hbad esl
            generalize gg M Tb (s2', o2, n2) = g2 at l2 hacc hB6 hbad esl
            obtain ⟨p1, w1⟩ := g1
            obtain ⟨p2', w2⟩ := g2
            refine ⟨_, rfl, B, _, _, _, rfl, rfl, .inl (.inl hB6), rfl, _, rfl, B, _, _, _, rfl, rfl, .inl (.inl hB6), (atI_nat (j := 1) rfl), (by cases w1 <;> cases w2 <;> rfl), _, rfl, ?_⟩
            by_cases hw : w1 = w2
            · refine iteD (by rw [hw]) ?_
              rw [if_pos hw] at esl
              have lacc : acc.length = 2 := hacc.len
              refine ⟨_, rfl, _, rfl, A, acc, rfl, .inl ⟨.inl (.inl hA6), fun l hl => ⟨(by show 1 ≤ sizeLine; decide), fun m hm => ?_⟩⟩⟩
              have z7 := (same_new (o := .tup acc) hl).trans (same_new (o := .lst [.ref l]) hm)
              refine ⟨F0, m, xs, [.ref l], rfl, rfl, z7 _ _ hF6, upd_same, lenLine (by rw [List.length_singleton]; omega), fun R0 hR0 => ⟨(by show 2 ≤ sizeLine; decide), fun R hR => ?_⟩⟩
              have z8 := (same_new (o := .lst (xs ++ [.ref l])) hR0).trans (same_new (o := .tup [.ref R0, .bl false]) hR)
              have hR0n : H R0 = none := by
                cases e : H R0 with
                | none => rfl
                | some u => rw [(sH6.trans z7) _ _ e] at hR0; cases hR0
              refine q _ R R0 false (xs ++ [.ref l]) (sH6.trans (z7.trans z8)) (.inl (.inl upd_same)) hR0n (same_new (o := .tup [.ref R0, .bl false]) hR _ _ upd_same) ?_ ⟨fun z => (by cases z), fun z => absurd hw (hbad.mp z).1⟩
              show Ats K _ _ ((OL.chosen M _ ++ OL.last1 M Tb _).map kPr)
              rw [esl, List.map_append]
              have kz := (keep_same (z7.trans z8) : Keep K H6 _)
              exact (hxs6.keep kz).snoc (at_tup.mpr ⟨l, acc, rfl, keep_same ((same_new (o := .lst [.ref l]) hm).trans z8) _ _ (.inl (.inl upd_same)), hacc.keep kz⟩)
            · refine iteDN (fun z => hw (vW_inj z)) ?_
              rw [if_neg hw] at esl
              have es : OL.sucs M Tb ((s1', some o1, n1), (s2', some o2, n2)) = OL.chosen M ((s1', some o1, n1), (s2', some o2, n2)) := by unfold OL.sucs; rw [esl, List.append_nil]
              have fin : ∀ (b : Bool), (b = true ↔ OL.PartAt M (p1, p2') (w1, w2)) → ∀ R, H6 R = none → Q (.ref R) (upd H6 R (.tup [.ref F0, .bl b])) := fun b hb R hR => by
                have z7 := same_new (o := .tup [.ref F0, .bl b]) hR
                refine q _ R F0 b xs (sH6.trans z7) (.inl (.inl upd_same)) hF0 (z7 _ _ hF6) ?_ (hb.trans hbad.symm)
                rw [es]
                exact hxs6.keep (keep_same z7)
              refine ⟨_, rfl, _, rfl, B, _, rfl, .inl (.inl (.inl hB6)), rfl, (by cases w1 <;> cases w2 <;> rfl), ?_⟩
              cases w1 with
              | none =>
                refine ⟨false, rfl, iteF ?_⟩
                refine ⟨_, rfl, _, rfl, .inl ⟨rfl, _, .inl (.inl hB6)⟩, B, _, .non, 0, .non, rfl, rfl, .inl (.inl hB6), rfl, (by cases w2 <;> rfl), rfl, rfl, (fun m z hm => absurd hm (Nat.not_lt_zero _)), C', _, _, _, rfl, rfl, .inl (.inl hC6), rfl, (by show 2 ≤ sizeLine; decide), fun R hR => ?_⟩
                refine fin f1 ?_ R hR
                rw [l1]
                constructor
                · exact fun z => ⟨hw, .inr (.inl ⟨rfl, z⟩)⟩
                · rintro ⟨_, y1⟩
                  rcases y1 with ⟨y1, _⟩ | ⟨_, y1⟩ | ⟨y1, _⟩
                  · exact absurd rfl y1
                  · exact y1
                  · exact absurd rfl y1
              | some w1 =>
                cases w2 with
                | none =>
                  refine ⟨false, rfl, iteF ?_⟩
                  refine ⟨_, rfl, _, rfl, .inl ⟨rfl, _, .inl (.inl hB6)⟩, B, _, .non, 1, .non, rfl, rfl, .inl (.inl hB6), rfl, rfl, rfl, rfl, (fun m z hm e => by
                    have e0 : m = 0 := by omega
                    subst e0
                    cases e
                    rfl), C', _, _, _, rfl, rfl, .inl (.inl hC6), (atI_nat (j := 1) rfl), (by show 2 ≤ sizeLine; decide), fun R hR => ?_⟩
                  refine fin f2 ?_ R hR
                  rw [l2]
                  constructor
                  · exact fun z => ⟨hw, .inr (.inr ⟨(by intro z; cases z), rfl, z⟩)⟩
                  · rintro ⟨_, y1⟩
                    rcases y1 with ⟨_, y1⟩ | ⟨y1, _⟩ | ⟨_, _, y1⟩
                    · exact absurd rfl y1
                    · cases y1
                    · exact y1
                | some w2 =>
                  refine ⟨true, rfl, iteT ⟨(by show 2 ≤ sizeLine; decide), fun R hR => ?_⟩⟩
                  exact fin true ⟨fun _ => ⟨hw, .inl ⟨(by intro z; cases z), (by intro z; cases z)⟩⟩, fun _ => rfl⟩ R hR
        · refine iteN (by intro z; cases z; exact em rfl) ?_
          refine ⟨_, rfl, (by show 2 ≤ sizeLine; decide), fun R hR => ?_⟩
          refine bad0 H4 sH4 (s4 _ _ hF3) (keep_same s4) ?_ R hR
          have em1 : OL.nextMark Tb s1' o1 n1 = some m1 := em1
          have em2 : OL.nextMark Tb s2' o2 n2 = some m2 := em2
          simp only [OL.together]
          rw [em1, em2, if_neg (by intro z; cases z; exact em rfl)]
end
end OLC
end
section
set_option Elab.async false
set_option linter.all false
set_option maxRecDepth 100000
set_option maxHeartbeats 1000000
/-! the law's own search -/
namespace OLC
open PySem PySem.Spec PyProof.Rows L2 OLT
section
variable {P : Program} {w : World} {K : Fr} {mg : Str → Option Value} {base : Heap} {C S f : Addr} {fd : FuncData}
def LawRes (K : Fr) (M : Mc) (Tb : OL.Tb) (r : V) (H' : Hp) : Prop :=
  (¬ OL.Safe M Tb ∧ r = .non) ∨ ∃ (D : Addr) (xs : List V) (l : List OL.Pr), r = .ref D ∧ OL.Safe M Tb ∧ H' D = some (.lst xs) ∧ Ats K H' xs (l.map kPr) ∧ Asc l ∧ ∀ p, p ∈ l ↔ OL.Reach M Tb p
def spLPaper (K : Fr) : Sp := fun vs H Q _ => ∃ (v u : V) (M : Mc) (k : Nat) (Tb : OL.Tb), vs = [v, u] ∧ At K H v (kMc M) ∧ At K H u (kTb Tb) ∧ OL.MOk M ∧ OL.TOk M k Tb ∧ ∀ (r : V) (H' : Hp), Same H H' → LawRes K M Tb r H' → Q r H'
theorem ord_at {pr : OL.Pr} : ∀ (t : Nat) (x : V), ([.int pr.1.1, vN pr.1.2.1, .int pr.1.2.2] ++ [.int pr.2.1, vN pr.2.2.1, .int pr.2.2.2] : List V)[t]? = some x → (x = .non ∧ (ordPr pr)[t]? = some (-1)) ∨ ∃ z : Int, x = .int z ∧ (ordPr pr)[t]? = some z := by
  obtain ⟨⟨a, b, c⟩, ⟨a', b', c'⟩⟩ := pr
  intro t x h
  match t, h with
  | 0, h => cases h; exact .inr ⟨_, rfl, rfl⟩
  | 1, h =>
    cases h
    cases b with
    | none => exact .inl ⟨rfl, rfl⟩
    | some b => exact .inr ⟨_, rfl, rfl⟩
  | 2, h => cases h; exact .inr ⟨_, rfl, rfl⟩
  | 3, h => cases h; exact .inr ⟨_, rfl, rfl⟩
  | 4, h =>
    cases h
    cases b' with
    | none => exact .inl ⟨rfl, rfl⟩
    | some b => exact .inr ⟨_, rfl, rfl⟩
  | 5, h => cases h; exact .inr ⟨_, rfl, rfl⟩
  | n + 6, h => cases h
theorem rows_sorted {ys : List V} {l : List OL.Pr} (hl : ys.length = l.length) : ∃ cs : List (V × OL.Pr), SF.byRows ys (l.map ordPr) = cs.map Prod.fst ∧ l.mergeSort leP = cs.map Prod.snd ∧ ∀ c ∈ cs, c ∈ ys.zip l := by
  have e1 : ys.zip (l.map ordPr) = (ys.zip l).map fun c => (c.1, ordPr c.2) := by
    rw [List.zip_map_right]
    rfl
  have e2 : l = (ys.zip l).map Prod.snd := by rw [List.map_snd_zip]; omega
  refine ⟨(ys.zip l).mergeSort fun a b => leP a.2 b.2, ?_, ?_, fun c hc => (List.mergeSort_perm _ _).mem_iff.mp hc⟩
  · unfold SF.byRows
    rw [e1, ← List.map_mergeSort (r := fun a b => leP a.2 b.2) (fun a _ b _ => rfl), List.map_map]
    rfl
  · rw [List.map_mergeSort (s := leP) (fun a _ b _ => rfl), ← e2]
theorem ord_nodup {l : List OL.Pr} (h : l.Nodup) : (l.map ordPr).Nodup := by
  induction l with
  | nil => exact List.nodup_nil
  | cons p l ih =>
    have := List.nodup_cons.mp h
    rw [List.map_cons]
    refine List.nodup_cons.mpr ⟨fun z => this.1 ?_, ih this.2⟩
    obtain ⟨q, hq, e⟩ := List.mem_map.mp z
    rwa [← ordPr_inj e]
theorem ok_lpaper {f1 : Addr} {d1 : FuncData} (T : Tx K mg C S) (F : FnP K "_law_paper" "_law_paper" sLPaper f fd) (G1 : Cal P w K mg base "_law_pairs_behind" 2 pLBehind (spLBehind K) f1 d1 [] []) : FnOk P w K mg base CX0 3 f fd pLPaper (spLPaper K) := by
  refine okN F scLPaper (fun vs H Q E h => ?_) (fun cdv A0 outer s H vs Q E hr h => ?_)
  · obtain ⟨v, u, M, k, Tb, rfl, _⟩ := h
    rfl
  · obtain ⟨v, u, M, k, Tb, rfl, hM, hT, ok, okT, q⟩ := h
    have hu := hr.units
    refine ⟨_, pss_cons (ps_set (i := 2) scLPaper.nd rfl (.inl rfl) (pe_tup (pa_cons (pe_tup (pa_cons pe_int (pa_cons pe_non (pa_cons pe_int pa_nil)))) (pa_cons (pe_tup (pa_cons pe_int (pa_cons pe_non (pa_cons pe_int pa_nil)))) pa_nil))))
      (pss_cons (ps_par (i := 3) (j := 4) (by rfl) scLPaper.nd rfl rfl (by decide) rfl rfl (pa_cons (ND.pe_disp1 hu (pv 2) pe_bl) (pa_cons (pe_lst (pa_cons (pv 2) pa_nil)) pa_nil)) (by rfl))
      (pss_cons (ps_while PassesOwn.never (pt_cmpR (op_neNil hr.units0) (pv 4) (pe_lst pa_nil) (nomark _))
        (pss_cons (ps_set (i := 5) scLPaper.nd rfl (.inl rfl) (pe_lst pa_nil))
        (pss_cons (ps_for PassesOwn.never rfl (pi_list (pv 4)) (pg_name (i := 6) scLPaper.nd rfl (Or.inl rfl))
          (pss_cons (ps_asg (pe_cal G1 hr (pa_cons (pv 0) (pa_cons (pv 1) (pa_cons (pv 6) pa_nil)))) (pg_tup rfl (pgs_cons (pg_name (i := 7) scLPaper.nd rfl (.inl rfl)) (pgs_cons (pg_name (i := 8) scLPaper.nd rfl (.inl rfl)) pgs_nil))))
          (pss_cons (ps_if (pt_val (pv 8)) (pss_one (ps_ret pe_non)) pss_nil)
          (pss_one (ps_for PassesOwn.never rfl (pi_list (pv 7)) (pg_name (i := 9) scLPaper.nd rfl (Or.inl rfl))
            (pss_one (ps_if (pt_cmpR (ND.op_notInN hu) (pv 9) (pv 3) (by rfl)) (pss_cons (ND.ps_dputN hu (pv 3) (pv 9) pe_bl) (pss_one (ps_expr (pe_bm PySem.F.plainAttrs_list PySem.F.slot_list_append PySem.F.type_list_append mt_append (pv 5) (pa_cons (pv 9) pa_nil))))) pss_nil)))))))
        (pss_one (ps_set (i := 4) scLPaper.nd rfl (.inl rfl) (pv 5))))))
      (pss_cons (ps_set (i := 10) scLPaper.nd rfl (.inl rfl) (pe_lst pa_nil))
      (pss_cons (ps_for PassesOwn.never rfl (pi_list (pe_callTy (ND.call_list_N rfl) (by rfl) T.lst (by decide +kernel) (pa_cons (pv 3) pa_nil))) (pg_name (i := 6) scLPaper.nd rfl (Or.inl rfl))
        (pss_cons (ps_set (i := 11) scLPaper.nd rfl (.inl rfl) (pe_op op_cat (pe_callTy call_list_of (by rfl) T.lst (by decide +kernel) (pa_cons (pe_ix ix_tup (pv 6) pe_int (fun _ _ => rfl)) pa_nil)) (pe_callTy call_list_of (by rfl) T.lst (by decide +kernel) (pa_cons (pe_ix ix_tup (pv 6) pe_int (fun _ _ => rfl)) pa_nil))))
        (pss_one (ps_expr (pe_bm PySem.F.plainAttrs_list PySem.F.slot_list_append PySem.F.type_list_append mt_append (pv 10) (pa_cons (pe_tup (pa_cons (pe_lc (own := [("_law_part", 12)]) (g := gName 12) rfl scLPaper.nd (pi_list (pv 11)) (blkOk_by (N := nLPaper) (sc := defScope sLPaper) (by decide +kernel)) (fun _ _ _ _ _ => pg_name (i := 12) scLPaper.nd rfl (Or.inl rfl)) (fun _ _ _ _ _ => pts_nil)
            (fun _ _ _ _ _ => pe_ifExp (pt_cmpR op_isN (pv 12) pe_non (nomark _)) (pe_op op_sub pe_int pe_int) (pv 12))) (pa_cons (pv 6) pa_nil))) pa_nil))))))
      (pss_one (ps_ret (pe_lc (own := [("_law_key", 13), ("_law_pair", 6)]) (g := gTup K 2 (gCons (gName 13) (gCons (gName 6) gNil))) rfl scLPaper.nd (pi_list (pe_callB (SF.call_sortF hu) (by rfl) T.srt (by decide +kernel) (pa_cons (pv 10) pa_nil))) (blkOk_by (N := nLPaper) (sc := defScope sLPaper) (by decide +kernel))
          (fun _ _ _ _ _ => pg_tupK (K := K) rfl (pgs_cons (pg_name (i := 13) scLPaper.nd rfl (Or.inl rfl)) (pgs_cons (pg_name (i := 6) scLPaper.nd rfl (Or.inl rfl)) pgs_nil))) (fun _ _ _ _ _ => pts_nil) (fun _ _ _ _ _ => pv 6)))))))), ?_⟩
    refine ⟨(by show 3 ≤ sizeLine; decide), fun p1 hp1 => ⟨(by show 3 ≤ sizeLine; decide), fun p2 hp2 => ⟨(by show 2 ≤ sizeLine; decide), fun St hSt => ?_⟩⟩⟩
    have z1 := same_new (o := .tup [.int 0, .non, .int 0]) hp1
    have z2 := same_new (o := .tup [.int 0, .non, .int 0]) hp2
    have z3 := same_new (o := .tup [.ref p1, .ref p2]) hSt
    have sS := z1.trans (z2.trans z3)
    have hStart : At K (upd (upd (upd H p1 (.tup [.int 0, .non, .int 0])) p2 (.tup [.int 0, .non, .int 0])) St (.tup [.ref p1, .ref p2])) (.ref St) (kPr OL.START) :=
      at_pr.mpr ⟨St, .ref p1, .ref p2, rfl, .inl (.inl upd_same), at_pl.mpr ⟨p1, rfl, keep_same (z2.trans z3) _ _ (.inl (.inl upd_same))⟩, at_pl.mpr ⟨p2, rfl, keep_same z3 _ _ (.inl (.inl upd_same))⟩⟩
    generalize upd (upd (upd H p1 (.tup [.int 0, .non, .int 0])) p2 (.tup [.int 0, .non, .int 0])) St (.tup [.ref p1, .ref p2]) = HS at sS hStart
    refine fun B hB => ⟨_, rfl, St, kPr OL.START, rfl, rfl, upd_same, hStart.keep (keep_same (same_new hB)), kPr_depth _, fun H1 seen1 rest1 => ⟨_, rfl, (by show 1 ≤ sizeLine; decide), fun L0 hL0 => ⟨_, _, rfl, ?_⟩⟩⟩
    have hBn : H B = none := by
      cases e : H B with
      | none => rfl
      | some o => rw [sS _ _ e] at hB; cases hB
    have sH1 : Same HS H1 := fun b o e => by rw [rest1 b (ne_of_none e hB), upd_ne (ne_of_none e hB)]; exact e
    have z4 := same_new (o := .lst [.ref St]) hL0
    have seen2 := SeenKept seen1 z4
    have sH2 := (sS.trans sH1).trans z4
    have hL2 : upd H1 L0 (.lst [.ref St]) L0 = some (.lst [.ref St]) := upd_same
    have hSt2 := hStart.keep (keep_same (sH1.trans z4))
    generalize upd H1 L0 (.lst [.ref St]) = H2 at seen2 sH2 hL2 hSt2 ⊢
    refine ⟨fun m σ H' => ∃ (l : List OL.Pr) (n : Nat) (L : Addr) (xsL : List V) (x5 x6 x7 x8 x9 : Option V), m + n = 2705 ∧ σ = [some v, some u, some (.ref St), some (.ref B), some (.ref L), x5, x6, x7, x8, x9, none, none, none, none] ∧ Same H H' ∧ ND.SeenAt K P w H' B (l.map kPr) ∧ OL.Bfs M Tb l n ∧ H' L = some (.lst xsL) ∧ Ats K H' xsL ((l.drop n).map kPr),
      ⟨2705, [OL.START], 0, L0, [.ref St], _, _, _, _, _, rfl, rfl, sH2, seen2, .start0, hL2, .cons' hSt2 .nil'⟩, ?_⟩
    rintro m σ H3 ⟨l, n, L, xsL, x5, x6, x7, x8, x9, hmn, rfl, s3, seen3, bfs, hL3, hxL⟩
    have few := bfs.few ok okT
    have hle := bfs.le
    have lxL : xsL.length = l.length - n := by rw [hxL.len, List.length_map, List.length_drop]
    refine ⟨_, rfl, Nat.zero_le _, fun pn hpn => ?_⟩
    have zn := same_new (o := .lst []) hpn
    refine ⟨L, pn, xsL, rfl, rfl, .inl (.inl (zn _ _ hL3)), .inl (.inl upd_same), _, rfl, ?_⟩
    have s3 := s3.trans zn
    have seen3 := SeenKept seen3 zn
    have hL3 := zn _ _ hL3
    have hxL := hxL.keep (keep_same zn)
    generalize upd H3 pn (.lst []) = H4 at s3 seen3 hL3 hxL ⊢
    by_cases hlt : xsL = []
    · -- the search is over
      have e0 : (!decide (xsL = [])) = false := by rw [hlt]; rfl
      show if (!decide (xsL = [])) = true then _ else _
      rw [e0]
      refine iteF ?_
      have en : n = l.length := by
        rw [hlt] at lxL
        have : l.length - n = 0 := lxL.symm
        omega
      subst en
      have pap := bfs.fin
      obtain ⟨hsafe, hnd, hmem⟩ := pap
      refine ⟨Nat.zero_le _, fun KL hKL => ?_⟩
      have z5 := same_new (o := .lst []) hKL
      have s5 := s3.trans z5
      have seen5 := SeenKept seen3 z5
      have hKL5 : upd H4 KL (.lst []) KL = some (.lst []) := upd_same
      have hKLn : H KL = none := by
        cases e : H KL with
        | none => rfl
        | some o => rw [s3 _ _ e] at hKL; cases hKL
      generalize upd H4 KL (.lst []) = H5 at s5 seen5 hKL5 ⊢
      refine ⟨_, rfl, B, _, rfl, seen5, fun D ys hD keys => ?_⟩
      have z6 := same_new (o := .lst ys) hD
      have hys : Ats K H5 ys (l.map kPr) := keys
      have hys := hys.keep (keep_same z6)
      have hD6 : upd H5 D (.lst ys) D = some (.lst ys) := upd_same
      have hKL6 := z6 _ _ hKL5
      have s6 := s5.trans z6
      have nKD : KL ≠ D := ne_of_none hKL5 hD
      generalize upd H5 D (.lst ys) = H6 at s6 hys hD6 hKL6 ⊢
      have lys : ys.length = l.length := by rw [hys.len, List.length_map]
      refine ⟨D, rfl, ⟨_, .inl (.inl hD6)⟩, for_walk ys.length (fun i σ H' => ∃ (acc : List V) (x6 x11 : Option V), σ = [some v, some u, some (.ref St), some (.ref B), some (.ref L), x5, x6, x7, x8, x9, some (.ref KL), x11, none, none] ∧ But KL H6 H' ∧ H' KL = some (.lst acc) ∧ acc.length = i ∧ ∀ (j : Nat) (y : V), acc[j]? = some y → ∃ (t Li : Addr) (vv : V) (pr : OL.Pr), y = .ref t ∧ l[j]? = some pr ∧ SqT K H' t [.ref Li, vv] ∧ Li ≠ KL ∧ H' Li = some (.lst ((ordPr pr).map V.int)) ∧ At K H' vv (kPr pr))
        ⟨[], _, _, rfl, But.refl, hKL6, rfl, fun j y h => by cases h⟩ (fun i σ H' hi ⟨_, _, _, _, b, _⟩ => itl_go (K := K) (.inl (.inl (b _ _ nKD.symm hD6))) hi) (fun σ H' ⟨_, _, _, _, b, _⟩ => itl_stop (K := K) (.inl (.inl (b _ _ nKD.symm hD6)))) ?_ ?_⟩
      · rintro i x σ H7 H7' hi ⟨acc, x6, x11, rfl, b7, hKL7, lacc, hacc⟩ ⟨rfl, y'⟩
        have ex := y' _ (.inl (.inl (b7 _ _ nKD.symm hD6)))
        have kb : Keep K H6 H7' := But.tup hKL6 b7
        obtain ⟨kx, ek, ax⟩ := hys.got ex
        have hil : i < l.length := by omega
        have epr : l[i]? = some l[i] := List.getElem?_eq_getElem hil
        generalize l[i] = pr at epr
        rw [List.getElem?_map, epr] at ek
        cases ek
        have ax := ax.keep kb
        obtain ⟨c, xa, xb, rfl, hc, hxa, hxb⟩ := at_pr.mp ax
        obtain ⟨cx, rfl, hcx⟩ := at_pl.mp hxa
        obtain ⟨cy, rfl, hcy⟩ := at_pl.mp hxb
        refine ⟨_, rfl, c, _, _, _, rfl, rfl, hc, rfl, cx, _, rfl, .inr hcx, fun l1 hl1 => ?_⟩
        have y1 := same_new (o := .lst [.int pr.1.1, vN pr.1.2.1, .int pr.1.2.2]) hl1
        refine ⟨_, rfl, c, _, _, _, rfl, rfl, keep_same y1 _ _ hc, (atI_nat (j := 1) rfl), cy, _, rfl, .inr (keep_same y1 _ _ hcy), fun l2 hl2 => ?_⟩
        have y2 := same_new (o := .lst [.int pr.2.1, vN pr.2.2.1, .int pr.2.2.2]) hl2
        refine ⟨l1, l2, _, _, rfl, rfl, y2 _ _ upd_same, upd_same, (by show 6 ≤ sizeLine; decide), fun N hN => ?_⟩
        have y3 := same_new (o := .lst ([.int pr.1.1, vN pr.1.2.1, .int pr.1.2.2] ++ [.int pr.2.1, vN pr.2.2.1, .int pr.2.2.2])) hN
        have s8 := y1.trans (y2.trans y3)
        have hN8 : upd (upd (upd H7' l1 (.lst [.int pr.1.1, vN pr.1.2.1, .int pr.1.2.2])) l2 (.lst [.int pr.2.1, vN pr.2.2.1, .int pr.2.2.2])) N (.lst ([.int pr.1.1, vN pr.1.2.1, .int pr.1.2.2] ++ [.int pr.2.1, vN pr.2.2.1, .int pr.2.2.2])) N = some (.lst ([.int pr.1.1, vN pr.1.2.1, .int pr.1.2.2] ++ [.int pr.2.1, vN pr.2.2.1, .int pr.2.2.2])) := upd_same
        generalize upd (upd (upd H7' l1 (.lst [.int pr.1.1, vN pr.1.2.1, .int pr.1.2.2])) l2 (.lst [.int pr.2.1, vN pr.2.2.1, .int pr.2.2.2])) N (.lst ([.int pr.1.1, vN pr.1.2.1, .int pr.1.2.2] ++ [.int pr.2.1, vN pr.2.2.1, .int pr.2.2.2])) = H8 at s8 hN8 ⊢
        have hKL8 := s8 _ _ hKL7
        refine ⟨_, rfl, .inl ⟨rfl, _, .inl (.inl hKL8)⟩, _, rfl, N, rfl, ⟨_, .inl (.inl hN8)⟩, fun Li hLi => ?_⟩
        have zLi : ∀ o, Same H8 (upd H8 Li o) := fun o => same_new hLi
        refine walkG 6 (fun t H' => H' = upd H8 Li (.lst (((ordPr pr).take t).map V.int))) rfl (fun t H' ht e => itl_go (K := K) (a := N) (xs := [.int pr.1.1, vN pr.1.2.1, .int pr.1.2.2] ++ [.int pr.2.1, vN pr.2.2.1, .int pr.2.2.2]) (by rw [e]; exact .inl (.inl (zLi _ _ _ hN8))) ht) (fun H' e => itl_stop (K := K) (a := N) (xs := [.int pr.1.1, vN pr.1.2.1, .int pr.1.2.2] ++ [.int pr.2.1, vN pr.2.2.1, .int pr.2.2.2]) (by rw [e]; exact .inl (.inl (zLi _ _ _ hN8)))) ?_ ?_
        · rintro t x9' H9 H9' ht e ⟨rfl, y''⟩
          subst e
          have exx := y'' _ (.inl (.inl (zLi _ _ _ hN8)))
          have fin : ∀ z : Int, (ordPr pr)[t]? = some z → ∃ acc, upd H8 Li (.lst (((ordPr pr).take t).map V.int)) Li = some (.lst acc) ∧ acc.length < sizeLine ∧ upd (upd H8 Li (.lst (((ordPr pr).take t).map V.int))) Li (.lst (acc ++ [.int z])) = upd H8 Li (.lst (((ordPr pr).take (t + 1)).map V.int)) := fun z hz => by
            refine ⟨_, upd_same, small1000 ?_, ?_⟩
            · rw [List.length_map, List.length_take]
              exact Nat.le_trans (Nat.min_le_left _ _) (by omega)
            · rw [upd_upd, List.take_add_one, hz]
              simp
          refine ⟨rfl, ?_⟩
          rcases ord_at t _ exx with ⟨rfl, g⟩ | ⟨z, rfl, g⟩
          · refine ⟨_, rfl, rfl, _, rfl, iteD rfl ?_⟩
            exact ⟨_, _, rfl, rfl, fin (-1) g⟩
          · refine ⟨_, rfl, rfl, _, rfl, iteDN (by intro z; cases z) ?_⟩
            exact ⟨_, rfl, fin z g⟩
        · rintro H9 e
          have et : (ordPr pr).take 6 = ordPr pr := List.take_of_length_le (Nat.le_refl 6)
          rw [et] at e
          subst e
          refine ⟨_, rfl, (by show 2 ≤ sizeLine; decide), fun t ht => ?_⟩
          have zt := same_new (o := .tup [.ref Li, .ref c]) ht
          have hKL9 := zt _ _ (zLi (.lst ((ordPr pr).map V.int)) _ _ hKL8)
          have nLK : Li ≠ KL := (ne_of_none hKL8 hLi).symm
          refine ⟨KL, acc, _, rfl, rfl, hKL9, Nat.lt_of_le_of_lt (show acc.length ≤ 2704 by omega) (by decide), ?_⟩
          have sA := (s8.trans (zLi (.lst ((ordPr pr).map V.int)))).trans zt
          have kA : Keep K H7' (upd (upd (upd H8 Li (.lst ((ordPr pr).map V.int))) t (.tup [.ref Li, .ref c])) KL (.lst (acc ++ [.ref t]))) := (keep_same sA).trans (keep_lst hKL9)
          refine ⟨acc ++ [.ref t], _, _, rfl, (b7.trans (Same.but sA)).trans but_upd, upd_same, by rw [List.length_append, lacc]; rfl, fun j y ej => ?_⟩
          by_cases hj : j < acc.length
          · rw [List.getElem?_append_left hj] at ej
            obtain ⟨t', Li', vv, pr', rfl, g2, g3, g4, g5, g6⟩ := hacc j y ej
            exact ⟨t', Li', vv, pr', rfl, g2, kA _ _ g3, g4, by rw [upd_ne g4]; exact sA _ _ g5, g6.keep kA⟩
          · rw [List.getElem?_append_right (by omega)] at ej
            have ej0 : j - acc.length = 0 := by
              cases e0 : j - acc.length with
              | zero => rfl
              | succ n => rw [e0] at ej; cases ej
            rw [ej0] at ej
            cases ej
            have ji : j = i := by omega
            subst ji
            exact ⟨t, Li, .ref c, pr, rfl, epr, keep_lst hKL9 _ _ (.inl (.inl upd_same)), nLK, by rw [upd_ne nLK]; exact zt _ _ upd_same, ax.keep kA⟩
      · rintro σ H7 ⟨acc, x6, x11, rfl, b7, hKL7, lacc, hacc⟩
        have s7 : Same H H7 := fun b o e => b7 b o (ne_of_none e hKLn) (s6 _ _ e)
        have la : acc.length = l.length := by omega
        refine ⟨_, rfl, KL, acc, l.map ordPr, rfl, .inl (.inl hKL7), by rw [List.length_map]; exact la.symm, ord_nodup hnd, (fun m hm => ?_), (fun i y m' e1 e2 => ?_), fun S0 hS0 => ?_⟩
        · obtain ⟨pr, _, rfl⟩ := List.mem_map.mp hm
          exact Nat.le_refl 6
        · obtain ⟨t, Li, vv, pr, rfl, g2, g3, _, g5, _⟩ := hacc i y e1
          rw [List.getElem?_map, g2] at e2
          cases e2
          exact ⟨t, Li, vv, rfl, g3, .inl (.inl g5)⟩
        · obtain ⟨cs, ec1, ec2, ec3⟩ := rows_sorted la
          rw [ec1]
          have hcs : ∀ c ∈ cs, ∃ (t Li : Addr) (vv : V), c.1 = .ref t ∧ SqT K H7 t [.ref Li, vv] ∧ At K H7 vv (kPr c.2) := fun c hc => by
            obtain ⟨j, hj, ej⟩ := List.mem_iff_getElem.mp (ec3 c hc)
            have hj1 : j < acc.length := by rw [List.length_zip] at hj; omega
            have hj2 : j < l.length := by omega
            obtain ⟨t, Li, vv, pr, g1, g2, g3, _, _, g6⟩ := hacc j acc[j] (List.getElem?_eq_getElem hj1)
            rw [List.getElem?_eq_getElem hj2] at g2
            rw [List.getElem_zip] at ej
            rw [← ej]
            refine ⟨t, Li, vv, g1, g3, ?_⟩
            rw [Option.some.inj g2]
            exact g6
          have zS := same_new (o := .lst (cs.map Prod.fst)) hS0
          have hS7 : upd H7 S0 (.lst (cs.map Prod.fst)) S0 = some (.lst (cs.map Prod.fst)) := upd_same
          have s8 := s7.trans zS
          generalize upd H7 S0 (.lst (cs.map Prod.fst)) = H8 at zS hS7 s8 ⊢
          have lcs : cs.length = l.length := by
            have := congrArg List.length ec2
            rw [List.length_mergeSort, List.length_map] at this
            exact this.symm
          refine ⟨S0, rfl, ⟨_, .inl (.inl hS7)⟩, fun D' hD' => ?_⟩
          refine walkG cs.length (fun i H' => ∃ acc' : List V, H' D' = some (.lst acc') ∧ Same H8 H' ∧ Ats K H' acc' ((cs.take i).map fun c => kPr c.2)) ⟨[], upd_same, same_new hD', .nil'⟩ (fun i H' hi ⟨_, _, z, _⟩ => itl_go (K := K) (a := S0) (xs := cs.map Prod.fst) (.inl (.inl (z _ _ hS7))) (by rw [List.length_map]; exact hi)) (fun H' ⟨_, _, z, _⟩ => by
              have := itl_stop (K := K) (a := S0) (xs := cs.map Prod.fst) (H := H') (.inl (.inl (z _ _ hS7)))
              rw [List.length_map] at this
              exact this) ?_ ?_
          · rintro i y H9 H9' hi ⟨acc', hacc', z9, ha9⟩ ⟨rfl, y''⟩
            have ey := y'' _ (.inl (.inl (z9 _ _ hS7)))
            have eci : cs[i]? = some cs[i] := List.getElem?_eq_getElem hi
            have hmem := List.getElem_mem hi
            generalize cs[i] = cc at eci hmem
            rw [List.getElem?_map, eci] at ey
            obtain ⟨t, Li, vv, g1, g2, g3⟩ := hcs cc hmem
            have ey' : V.ref t = y := by
              have : some cc.1 = some y := ey
              rw [← g1]
              exact Option.some.inj this
            subst ey'
            have k9 := keep_same (K := K) (zS.trans z9)
            refine ⟨t, _, rfl, k9 _ _ g2, rfl, _, _, rfl, _, _, rfl, rfl, rfl, ?_⟩
            have la' : acc'.length ≤ 2704 := by
              rw [ha9.len, List.length_map, List.length_take]
              exact Nat.le_trans (Nat.min_le_left _ _) (by omega)
            refine ⟨_, rfl, acc', hacc', Nat.lt_of_le_of_lt la' (by decide), _, upd_same, same_lst z9 hD', ?_⟩
            have kD := keep_lst (K := K) (acc' := acc' ++ [vv]) hacc'
            rw [List.take_add_one, eci, List.map_append]
            exact (ha9.keep kD).snoc (g3.keep (k9.trans kD))
          · rintro H9 ⟨acc', hacc', z9, ha9⟩
            rw [List.take_length] at ha9
            refine q (.ref D') H9 (s8.trans z9) (.inr ⟨D', acc', l.mergeSort leP, rfl, hsafe, hacc', ?_, asc_sort hnd, fun p => ?_⟩)
            · rw [ec2, List.map_map]
              exact ha9
            · rw [(List.mergeSort_perm l leP).mem_iff]
              exact hmem p
    · have e0 : (!decide (xsL = [])) = true := by rw [decide_eq_false hlt]; rfl
      show if (!decide (xsL = [])) = true then _ else _
      rw [e0]
      refine iteT ?_
      refine ⟨fun σ' H' => ∃ m', m' < m ∧ ∃ (l : List OL.Pr) (n : Nat) (L : Addr) (xsL : List V) (x5 x6 x7 x8 x9 : Option V), m' + n = 2705 ∧ σ' = [some v, some u, some (.ref St), some (.ref B), some (.ref L), x5, x6, x7, x8, x9, none, none, none, none] ∧ Same H H' ∧ ND.SeenAt K P w H' B (l.map kPr) ∧ OL.Bfs M Tb l n ∧ H' L = some (.lst xsL) ∧ Ats K H' xsL ((l.drop n).map kPr), fun _ _ z => z, ?_⟩
      have hpos : 0 < xsL.length := List.length_pos_iff.mpr hlt
      refine ⟨Nat.zero_le _, fun G hG => ?_⟩
      have z5 := same_new (o := .lst []) hG
      have nLG : L ≠ G := ne_of_none hL3 hG
      have nBG : B ≠ G := by obtain ⟨o, e, _⟩ := seen_at seen3; exact ne_of_none e hG
      have nLB : L ≠ B := fun z => by
        subst z
        obtain ⟨xs, h1, h2, h3, h4, h5, h6⟩ := seen3
        rw [hL3] at h5
        cases h5
      have hGn : H G = none := by
        cases e : H G with
        | none => rfl
        | some o => rw [s3 _ _ e] at hG; cases hG
      have s5 := s3.trans z5
      have seen5 := SeenKept seen3 z5
      have hG5 : upd H4 G (.lst []) G = some (.lst []) := upd_same
      have hL5 := z5 _ _ hL3
      have hxL5 := hxL.keep (keep_same z5)
      generalize upd H4 G (.lst []) = H5 at s5 seen5 hG5 hL5 hxL5 ⊢
      refine ⟨_, rfl, L, rfl, ⟨_, .inl (.inl hL5)⟩, for_walk xsL.length (fun j σ H' => ∃ (e : List OL.Pr) (ys : List V) (x6 x7 x8 x9 : Option V), σ = [some v, some u, some (.ref St), some (.ref B), some (.ref L), some (.ref G), x6, x7, x8, x9, none, none, none, none] ∧ Same H H' ∧ ND.SeenAt K P w H' B ((l ++ e).map kPr) ∧ H' L = some (.lst xsL) ∧ Ats K H' xsL ((l.drop n).map kPr) ∧ H' G = some (.lst ys) ∧ Ats K H' ys (e.map kPr) ∧ OL.Bfs M Tb (l ++ e) (n + j))
        ⟨[], [], _, _, _, _, rfl, s5, by rw [List.append_nil]; exact seen5, hL5, hxL5, hG5, .nil', by rw [List.append_nil]; exact bfs⟩ (fun j σ H' hj ⟨_, _, _, _, _, _, _, _, _, z, _⟩ => itl_go (K := K) (.inl (.inl z)) hj) (fun σ H' ⟨_, _, _, _, _, _, _, _, _, z, _⟩ => itl_stop (K := K) (.inl (.inl z))) ?_ ?_⟩
      · rintro j x σ H6 H6' hj ⟨e, ys, x6, x7, x8, x9, rfl, s6, seen6, hL6, hxL6, hG6, hys6, bfs6⟩ ⟨rfl, y'⟩
        have ex := y' _ (.inl (.inl hL6))
        obtain ⟨kx, ek, ax⟩ := hxL6.got ex
        have hnj : n + j < l.length := by omega
        have epr : l[n + j]? = some l[n + j] := List.getElem?_eq_getElem hnj
        generalize l[n + j] = pr at epr
        rw [List.getElem?_map, List.getElem?_drop, epr] at ek
        cases ek
        have epr' : (l ++ e)[n + j]? = some pr := by rw [List.getElem?_append_left hnj]; exact epr
        have hreach := bfs6.reach pr (List.mem_of_getElem? epr')
        have hpr := OL.reach_ok ok okT hreach
        refine ⟨_, rfl, _, rfl, _, rfl, v, u, x, M, k, Tb, pr, rfl, hM.keep (keep_same s6), hT.keep (keep_same s6), ok, okT, ax, hpr, fun H7 R A b bs z7 hR hAn hA7 hbs hbad => ?_⟩
        have s7 := s6.trans z7
        have seen7 := SeenKept seen6 z7
        have hL7 := z7 _ _ hL6
        have hxL7 := hxL6.keep (keep_same z7)
        have hG7 := z7 _ _ hG6
        have hys7 := hys6.keep (keep_same z7)
        have nGA : G ≠ A := ne_of_none hG6 hAn
        have nBA : B ≠ A := by obtain ⟨o, e, _⟩ := seen_at seen6; exact ne_of_none e hAn
        refine ⟨R, _, rfl, hR, rfl, _, _, rfl, _, _, rfl, rfl, ?_⟩
        refine ⟨_, rfl, b, rfl, ?_⟩
        cases b with
        | true =>
          refine iteT ?_
          exact q .non H7 s7 (.inl ⟨fun z => z pr hreach (hbad.mp rfl), rfl⟩)
        | false =>
          refine iteF ?_
          have hnb : ¬ OL.Bad M Tb pr := fun z => by
            have := hbad.mpr z
            cases this
          have fewm := OL.sucs_few ok hpr
          have lbs : bs.length = (OL.sucs M Tb pr).length := by rw [hbs.len, List.length_map]
          have few6 := bfs6.few ok okT
          refine ⟨_, rfl, A, rfl, ⟨_, .inl (.inl hA7)⟩, for_walk bs.length (fun t σ H' => ∃ (e' : List OL.Pr) (ys' : List V) (x9 : Option V), σ = [some v, some u, some (.ref St), some (.ref B), some (.ref L), some (.ref G), some x, some (.ref A), some (.bl false), x9, none, none, none, none] ∧ Same H H' ∧ OL.addNew (l ++ e) ((OL.sucs M Tb pr).take t) = l ++ e' ∧ ND.SeenAt K P w H' B ((l ++ e').map kPr) ∧ H' L = some (.lst xsL) ∧ Ats K H' xsL ((l.drop n).map kPr) ∧ H' G = some (.lst ys') ∧ Ats K H' ys' (e'.map kPr) ∧ H' A = some (.lst bs) ∧ Ats K H' bs ((OL.sucs M Tb pr).map kPr))
            ⟨e, ys, _, rfl, s7, rfl, seen7, hL7, hxL7, hG7, hys7, hA7, hbs⟩ (fun t σ H' ht ⟨_, _, _, _, _, _, _, _, _, _, _, z, _⟩ => itl_go (K := K) (.inl (.inl z)) ht) (fun σ H' ⟨_, _, _, _, _, _, _, _, _, _, _, z, _⟩ => itl_stop (K := K) (.inl (.inl z))) ?_ ?_⟩
          · rintro t y σ H8 H8' ht ⟨e', ys', x9', rfl, s8, eadd, seen8, hL8, hxL8, hG8, hys8, hA8, hbs8⟩ ⟨rfl, y''⟩
            have ey := y'' _ (.inl (.inl hA8))
            have htm : t < (OL.sucs M Tb pr).length := by omega
            have hq : (OL.sucs M Tb pr)[t]? = some (OL.sucs M Tb pr)[t] := List.getElem?_eq_getElem htm
            generalize (OL.sucs M Tb pr)[t] = qq at hq
            obtain ⟨kx, ek, ax'⟩ := hbs8.got ey
            rw [List.getElem?_map, hq] at ek
            cases ek
            obtain ⟨c, _, _, rfl, _⟩ := at_pr.mp ax'
            have etk : OL.addNew (l ++ e) ((OL.sucs M Tb pr).take (t + 1)) = if qq ∈ l ++ e' then l ++ e' else l ++ e' ++ [qq] := by
              rw [List.take_add_one, hq, ← eadd]
              exact OL.add_snoc _ _ _
            have l8 : (l ++ e').length ≤ (l ++ e).length + 9 := by
              obtain ⟨e1, he, _, hl⟩ := OL.add_pre ((OL.sucs M Tb pr).take t) (l ++ e)
              rw [← eadd, he, List.length_append (as := l ++ e)]
              rw [List.length_take] at hl
              omega
            refine ⟨_, rfl, _, rfl, c, B, kPr qq, _, rfl, rfl, ax', kPr_depth _, seen8, _, rfl, ?_⟩
            by_cases hin : qq ∈ l ++ e'
            · rw [if_pos hin] at etk
              have e1 : decide (kPr qq ∈ (l ++ e').map kPr) = true := decide_eq_true (kPr_mem.mpr hin)
              rw [e1]
              refine iteF ?_
              exact ⟨e', ys', _, rfl, s8, etk, seen8, hL8, hxL8, hG8, hys8, hA8, hbs8⟩
            · rw [if_neg hin] at etk
              have e1 : decide (kPr qq ∈ (l ++ e').map kPr) = false := decide_eq_false (fun z => hin (kPr_mem.mp z))
              rw [e1]
              refine iteT ?_
              refine ⟨_, rfl, _, rfl, B, c, kPr qq, _, rfl, rfl, rfl, ax', kPr_depth _, seen8, (fun z => hin (kPr_mem.mp z)), Nat.lt_of_le_of_lt (by rw [List.length_map]; exact l8) (Nat.lt_of_le_of_lt (show (l ++ e).length + 9 ≤ 2713 by omega) (by decide)), fun H9 seen9 rest9 => ?_⟩
              have k9 := seen_keep seen8 rest9
              have hG9 : H9 G = some (.lst ys') := by rw [rest9 G nBG.symm]; exact hG8
              have ly : ys'.length ≤ 2713 := by
                rw [hys8.len, List.length_map]
                rw [List.length_append] at l8
                omega
              refine ⟨_, rfl, .inl ⟨rfl, _, .inl (.inl hG9)⟩, _, rfl, G, ys', _, rfl, rfl, hG9, Nat.lt_of_le_of_lt ly (by decide), ?_⟩
              have kG : Keep K H9 (upd H9 G (.lst (ys' ++ [.ref c]))) := keep_lst hG9
              have kk := k9.trans kG
              have ss9 : Same H H9 := fun b o e => by rw [rest9 b (ne_of_none e hBn)]; exact s8 b o e
              refine ⟨e' ++ [qq], _, _, rfl, same_lst ss9 hGn, by rw [etk, List.append_assoc], ?_, by rw [upd_ne nLG, rest9 L nLB]; exact hL8, hxL8.keep kk, upd_same, ?_, by rw [upd_ne nGA.symm, rest9 A nBA.symm]; exact hA8, hbs8.keep kk⟩
              · rw [← List.append_assoc, List.map_append]
                exact seen9.same (upd_ne nBG) kG
              · rw [List.map_append]
                exact (hys8.keep kk).snoc (ax'.keep kk)
          · rintro σ H8 ⟨e', ys', x9', rfl, s8, eadd, seen8, hL8, hxL8, hG8, hys8, hA8, hbs8⟩
            rw [lbs, List.take_length] at eadd
            refine ⟨e', ys', _, _, _, _, rfl, s8, seen8, hL8, hxL8, hG8, hys8, ?_⟩
            have := bfs6.step epr' hnb
            rw [eadd] at this
            exact this
      · rintro σ H6 ⟨e, ys, x6, x7, x8, x9, rfl, s6, seen6, hL6, hxL6, hG6, hys6, bfs6⟩
        refine ⟨_, rfl, m - xsL.length, by omega, l ++ e, n + xsL.length, G, ys, _, _, _, _, _, by omega, rfl, s6, seen6, bfs6, hG6, ?_⟩
        have e1 : n + xsL.length = l.length := by omega
        rw [e1, List.drop_left]
        exact hys6
end
end OLC
end
section
set_option Elab.async false
set_option linter.all false
set_option maxRecDepth 100000
set_option maxHeartbeats 1000000
/-! the law's own compare: the same data are alike -/
namespace OLC
open PySem PySem.Spec PyProof.Rows L2 OLT
/-- flat data, or a tuple of data as R0 says -/
def Flat (k : NestedKey) : Prop := (∃ i, k = .num i) ∨ k = .none
def Up (R0 : NestedKey → Prop) (k : NestedKey) : Prop := Flat k ∨ ∃ ks, k = .tup ks ∧ ks.length ≤ 3000 ∧ ∀ j ∈ ks, R0 j
/-- data that the law compares, at most n deep -/
def Lk : Nat → NestedKey → Prop
  | 0 => fun _ => False
  | n + 1 => Up (Lk n)
theorem lk_flat {n : Nat} {k : NestedKey} (h : Flat k) : Lk (n + 1) k := .inl h
theorem lk_pl (p : OL.Pl) : Lk 2 (kPl p) := by
  refine .inr ⟨[NestedKey.num p.1, kN p.2.1, .num p.2.2], rfl, by show 3 ≤ 3000; decide, fun j hj => ?_⟩
  rcases List.mem_cons.mp hj with z | z
  · exact .inl (.inl ⟨_, z⟩)
  · rcases List.mem_cons.mp z with z | z
    · rw [z]
      cases p.2.1 with
      | none => exact .inl (.inr rfl)
      | some n => exact .inl (.inl ⟨_, rfl⟩)
    · exact .inl (.inl ⟨_, List.mem_singleton.mp z⟩)
theorem lk_pr (p : OL.Pr) : Lk 3 (kPr p) := by
  refine .inr ⟨[kPl p.1, kPl p.2], rfl, by show 2 ≤ 3000; decide, fun j hj => ?_⟩
  rcases List.mem_cons.mp hj with z | z
  · rw [z]; exact lk_pl _
  · rw [List.mem_singleton.mp z]; exact lk_pl _
theorem lk_prs {l : List OL.Pr} (h : l.length ≤ 2704) : Lk 4 (.tup (l.map kPr)) := by
  refine .inr ⟨_, rfl, by rw [List.length_map]; omega, fun j hj => ?_⟩
  obtain ⟨p, _, rfl⟩ := List.mem_map.mp hj
  exact lk_pr p
section
variable {P : Program} {w : World} {K : Fr} {mg : Str → Option Value} {base : Heap} {C S f : Addr} {fd : FuncData}
def spAlike (K : Fr) (B : Prop) (R : NestedKey → Prop) : Sp := fun vs H Q _ => ∃ (v u : V), vs = [v, u] ∧ ((B ∧ ∃ b, v = .bl b ∧ u = .bl b) ∨ ∃ k, R k ∧ At K H v k ∧ At K H u k) ∧ ∀ H', Same H H' → Q (.bl true) H'
theorem kt_not {t : String} (h1 : kitB t "tuple" = some false) (h2 : kitB t "list" = some false) : PySem.W.kitAny K (.type t) [.type "tuple", .type "list"] = some false :=
  kitAny_cons (kit_ty h1) (fun _ => kitAny_cons (kit_ty h2) (fun _ => rfl) (fun z => by cases z)) (fun z => by cases z)
theorem kt_yes : PySem.W.kitAny K (.type "tuple") [.type "tuple", .type "list"] = some true :=
  kitAny_cons (b := true) (kit_ty (by decide +kernel)) (fun z => by cases z) (fun _ => rfl)
theorem tl_pair : Paired ClsV [.ty "tuple", .ty "list"] [.type "tuple", .type "list"] := .cons (.ty _) (.cons (.ty _) .nil)
theorem alike_step (T : Tx K mg C S) (F : FnP K "_law_alike" "_law_alike" sLAlike f fd) (hg : mg "_law_alike" = some (.ref f)) (hk : PySem.W.keepIn K (.ref f) = true) (hb : Binds K fd pLAlike []) {k : Nat} {B : Prop} {R0 : NestedKey → Prop} (hrec : FnOk P w K mg base CX0 k f fd pLAlike (spAlike K B R0)) :
    FnOk P w K mg base CX0 (k + 1) f fd pLAlike (spAlike K True (Up R0)) := by
  have G1 : Cal P w K mg base "_law_alike" k pLAlike (spAlike K B R0) f fd [] [] := ⟨hrec, hg, hk, hb, .nil⟩
  refine okN F scLAlike (fun vs H Q E h => ?_) (fun cdv A0 outer s H vs Q E hr h => ?_)
  · obtain ⟨v, u, rfl, _⟩ := h
    rfl
  · obtain ⟨v, u, rfl, hvu, q⟩ := h
    have hu := hr.units0
    refine ⟨_, pss_cons (ps_if (pt_val (pe_callB call_isiT (by rfl) T.isi (by decide +kernel) (pa_cons (pv 1) (pa_cons (pe_tup (pa_cons (pe_bltn (v := .ty "tuple") (u := .type "tuple") (by rfl) T.tup (by decide +kernel) rfl) (pa_cons (pe_bltn (v := .ty "list") (u := .type "list") (by rfl) T.lst (by decide +kernel) rfl) pa_nil))) pa_nil))))
        (pss_cons (ps_if (PW.pt (pw_or (pt_not (pt_val (pe_callB call_isiT (by rfl) T.isi (by decide +kernel) (pa_cons (pv 0) (pa_cons (pe_tup (pa_cons (pe_bltn (v := .ty "tuple") (u := .type "tuple") (by rfl) T.tup (by decide +kernel) rfl) (pa_cons (pe_bltn (v := .ty "list") (u := .type "list") (by rfl) T.lst (by decide +kernel) rfl) pa_nil))) pa_nil)))))
          (pw_or1 (pt_cmpR op_ne (pe_is "list" (pv 0) T.isi T.lst) (pe_is "list" (pv 1) T.isi T.lst) (nomark _))))) (pss_one (ps_ret pe_bl)) pss_nil)
        (pss_cons (ps_if (pt_cmpR op_ne (pe_callB call_len (by rfl) T.len boot_len (pa_cons (pv 0) pa_nil)) (pe_callB call_len (by rfl) T.len boot_len (pa_cons (pv 1) pa_nil)) (nomark _)) (pss_one (ps_ret pe_bl)) pss_nil)
        (pss_one (ps_ret (pe_cmpR (op_eqNil hu) (pe_lc (own := [("_law_k", 2)]) (g := gName 2) rfl scLAlike.nd (pi_range1 rfl T.rng (pa_cons (pe_callB call_len (by rfl) T.len boot_len (pa_cons (pv 1) pa_nil)) pa_nil)) (blkOk_by (N := nLAlike) (sc := defScope sLAlike) (by decide +kernel)) (fun _ _ _ _ _ => pg_name (i := 2) scLAlike.nd rfl (Or.inl rfl))
            (fun _ _ _ _ _ => pts_one (pt_not (pt_val (pe_cal G1 hr (pa_cons (pe_ix (ix_tupK (K := K)) (pv 0) (pv 2) (fun _ _ => rfl)) (pa_cons (pe_ix (ix_tupK (K := K)) (pv 1) (pv 2) (fun _ _ => rfl)) pa_nil)))))) (fun _ _ _ _ _ => pv 2)) (pe_lst pa_nil) (nomark _)))))) pss_nil)
      (pss_cons (ps_if (PW.pt (pw_or (pt_cmpR op_isN (pv 1) pe_non (nomark _)) (pw_or1 (pt_val (pe_is "str" (pv 1) T.isi T.str))))) (pss_one (ps_ret (pe_and (pe_cmpR op_eq (pv 0) (pv 1) (nomark _)) (pe_one (pe_cmpR op_eq (pe_is "str" (pv 0) T.isi T.str) (pe_is "str" (pv 1) T.isi T.str) (nomark _)))))) pss_nil)
      (pss_one (ps_ret (pe_and (pe_is "int" (pv 0) T.isi T.int) (pe_and (pe_cmpR op_eq (pe_is "bool" (pv 0) T.isi T.bool) (pe_is "bool" (pv 1) T.isi T.bool) (nomark _)) (pe_one (pe_cmpR op_eq (pv 0) (pv 1) (nomark _)))))))), ?_⟩
    refine ⟨_, rfl, (by show 2 ≤ sizeLine; decide), fun tp htp => ?_⟩
    have z1 := same_new (o := .tup [.ty "tuple", .ty "list"]) htp
    have ht1 : upd H tp (.tup [.ty "tuple", .ty "list"]) tp = some (.tup [.ty "tuple", .ty "list"]) := upd_same
    rcases hvu with ⟨_, b, rfl, rfl⟩ | ⟨kk, hkk, hv, hu'⟩
    · refine ⟨_, tp, _, .type "bool", _, false, rfl, ht1, tl_pair, .base (.bl _), kt_not (by decide +kernel) (by decide +kernel), _, rfl, iteF ?_⟩
      refine ⟨_, rfl, rfl, _, rfl, iteDN (by intro z; cases z) ?_⟩
      refine ⟨_, rfl, _, _, false, rfl, .base (.bl _), (by decide +kernel), _, rfl, iteF ?_⟩
      refine ⟨_, rfl, _, _, true, rfl, .base (.bl _), (by decide +kernel), _, rfl, iteT ?_⟩
      refine ⟨_, rfl, _, _, true, rfl, .base (.bl _), (by decide +kernel), _, rfl, _, _, true, rfl, .base (.bl _), (by decide +kernel), rfl, _, rfl, iteD rfl ?_⟩
      refine ⟨_, rfl, _, rfl, rfl, ?_⟩
      rw [decide_eq_true (rfl : V.bl b = V.bl b)]
      exact q _ z1
    · rcases hkk with (⟨i, rfl⟩ | rfl) | ⟨ks, rfl, hlen, hR⟩
      · obtain rfl := at_num.mp hv
        obtain rfl := at_num.mp hu'
        refine ⟨_, tp, _, .type "int", _, false, rfl, ht1, tl_pair, .base (.int _), kt_not (by decide +kernel) (by decide +kernel), _, rfl, iteF ?_⟩
        refine ⟨_, rfl, rfl, _, rfl, iteDN (by intro z; cases z) ?_⟩
        refine ⟨_, rfl, _, _, false, rfl, .base (.int _), (by decide +kernel), _, rfl, iteF ?_⟩
        refine ⟨_, rfl, _, _, true, rfl, .base (.int _), (by decide +kernel), _, rfl, iteT ?_⟩
        refine ⟨_, rfl, _, _, false, rfl, .base (.int _), (by decide +kernel), _, rfl, _, _, false, rfl, .base (.int _), (by decide +kernel), rfl, _, rfl, iteD rfl ?_⟩
        refine ⟨_, rfl, _, rfl, rfl, ?_⟩
        rw [decide_eq_true (rfl : V.int i = V.int i)]
        exact q _ z1
      · obtain rfl := at_none.mp hv
        obtain rfl := at_none.mp hu'
        refine ⟨_, tp, _, .type "NoneType", _, false, rfl, ht1, tl_pair, .base .non, kt_not (by decide +kernel) (by decide +kernel), _, rfl, iteF ?_⟩
        refine ⟨_, rfl, rfl, _, rfl, iteD rfl ?_⟩
        refine ⟨_, rfl, _, rfl, rfl, _, rfl, iteD rfl ?_⟩
        refine ⟨_, rfl, _, _, false, rfl, .base .non, (by decide +kernel), _, rfl, _, _, false, rfl, .base .non, (by decide +kernel), rfl, ?_⟩
        rw [decide_eq_true (rfl : V.bl false = V.bl false)]
        exact q _ z1
      · obtain ⟨a, xs, rfl, hs, hxs⟩ := at_tup.mp hv
        obtain ⟨a', ys, rfl, hs', hys⟩ := at_tup.mp hu'
        have lxs := hxs.len
        have lys := hys.len
        generalize upd H tp (.tup [.ty "tuple", .ty "list"]) = H1 at z1 ht1 ⊢
        refine ⟨_, tp, _, .type "tuple", _, true, rfl, ht1, tl_pair, tyT (keep_same z1 _ _ hs'), kt_yes, _, rfl, iteT ?_⟩
        refine ⟨_, rfl, (by show 2 ≤ sizeLine; decide), fun tp2 htp2 => ?_⟩
        have z2 := same_new (o := .tup [.ty "tuple", .ty "list"]) htp2
        have ht2 : upd H1 tp2 (.tup [.ty "tuple", .ty "list"]) tp2 = some (.tup [.ty "tuple", .ty "list"]) := upd_same
        have z2 := z1.trans z2
        generalize upd H1 tp2 (.tup [.ty "tuple", .ty "list"]) = H2 at z2 ht2 ⊢
        have hs2 := keep_same z2 _ _ hs
        have hs2' := keep_same z2 _ _ hs'
        refine ⟨_, tp2, _, .type "tuple", _, true, rfl, ht2, tl_pair, tyT hs2, kt_yes, _, rfl, iteF ?_⟩
        refine ⟨_, rfl, _, _, false, rfl, tyT hs2, (by decide +kernel), _, rfl, _, _, false, rfl, tyT hs2', (by decide +kernel), rfl, _, rfl, iteNS rfl ?_⟩
        refine ⟨_, rfl, _, xs.length, rfl, .inr ⟨_, hs2, rfl⟩, _, rfl, _, ys.length, rfl, .inr ⟨_, hs2', rfl⟩, rfl, _, rfl, iteNS (by rw [lxs, lys]) ?_⟩
        refine ⟨_, rfl, _, ys.length, rfl, .inr ⟨_, hs2', rfl⟩, _, rfl, by omega, by omega, fun D hD => ?_⟩
        refine lc_walk ys.length (fun i H' => H' D = some (.lst []) ∧ Same H H') ⟨upd_same, z2.trans (same_new hD)⟩ (fun i H' hi _ => by show i < Int.toNat _; omega) (fun H' _ => by show Int.toNat _ ≤ _; omega) ?_ ?_
        · rintro i x H3 H3' hi ⟨hD3, z3⟩ ⟨rfl, rfl⟩
          refine ⟨rfl, ?_⟩
          have hik : i < ks.length := by omega
          have ek : ks[i]? = some ks[i] := List.getElem?_eq_getElem hik
          have hmem := List.getElem_mem hik
          generalize ks[i] = kk at ek hmem
          obtain ⟨xv, ex, hxv⟩ := hxs.get ek
          obtain ⟨yv, ey, hyv⟩ := hys.get ek
          have e0 : (0 + (i : Nat) : Int) = (i : Nat) := Int.zero_add _
          refine ⟨_, rfl, _, rfl, a, _, _, _, rfl, rfl, keep_same z3 _ _ hs, (by rw [e0]; exact atI_nat ex), _, rfl, _, rfl, a', _, _, _, rfl, rfl, keep_same z3 _ _ hs', (by rw [e0]; exact atI_nat ey), xv, yv, rfl, .inr ⟨kk, hR kk hmem, hxv.keep (keep_same z3), hyv.keep (keep_same z3)⟩, fun H4 z4 => ?_⟩
          exact ⟨true, rfl, iteF ⟨z4 _ _ hD3, z3.trans z4⟩⟩
        · rintro H3 ⟨hD3, z3⟩
          refine ⟨Nat.zero_le _, fun m hm => ?_⟩
          have z4 := same_new (o := .lst []) hm
          refine ⟨D, m, [], rfl, rfl, .inl (.inl (z4 _ _ hD3)), .inl (.inl upd_same), ?_⟩
          exact q _ (z3.trans z4)
theorem ok_lalike (T : Tx K mg C S) (F : FnP K "_law_alike" "_law_alike" sLAlike f fd) (hg : mg "_law_alike" = some (.ref f)) (hk : PySem.W.keepIn K (.ref f) = true) (hb : Binds K fd pLAlike []) : FnOk P w K mg base CX0 4 f fd pLAlike (spAlike K True (Lk 4)) := by
  have h0 : FnOk P w K mg base CX0 0 f fd pLAlike (spAlike K False (Lk 0)) := ⟨fun vs H Q E ⟨v, u, e, _⟩ => by rw [e]; rfl, fun A outer s H args us vs Q E _ _ _ _ h => by
    obtain ⟨v, u, _, hvu, _⟩ := h
    rcases hvu with ⟨z, _⟩ | ⟨kk, z, _⟩
    · exact z.elim
    · exact z.elim⟩
  exact alike_step T F hg hk hb (alike_step T F hg hk hb (alike_step T F hg hk hb (alike_step T F hg hk hb h0)))
end
end OLC
end
section
set_option Elab.async false
set_option linter.all false
set_option maxRecDepth 100000
set_option maxHeartbeats 1000000
/-! the law -/
namespace OLC
open PySem PySem.Spec PyProof.Rows L2 OLT
section
variable {P : Program} {w : World} {K : Fr} {mg : Str → Option Value} {base : Heap} {C S f : Addr} {fd : FuncData}
def spLaw (Ps : List Addr) (K : Fr) : Sp := fun vs H Q _ => ∃ (a : Addr) (ns : List Int), vs = [.ref a] ∧ SqL K H a (ns.map V.int) ∧ Tabs Ps H ∧ ∀ H', Q (.bl true) H'
theorem asc_one (p : OL.Pr) : Asc [p] := List.pairwise_singleton _ _
theorem ok_law {Ps : List Addr} {f1 f2 f3 f4 f5 f6 f7 f8 : Addr} {d1 d2 d3 d4 d5 d6 d7 d8 : FuncData} (T : Tx K mg C S) (F : FnP K "law" "law" sLaw f fd)
    (GM : Cal P w K mg base "_law_machine" 3 pLMach (spLMach K) f1 d1 [] []) (GT : Cal P w K mg base "_law_taken" 1 pLTaken (spTaken K) f2 d2 [] []) (GB : Cal P w K mg base "_law_table" 3 pLTable (spLTable K) f3 d3 [] []) (GP : Cal P w K mg base "_law_paper" 3 pLPaper (spLPaper K) f4 d4 [] [])
    (GC : Cal P w K mg base "closed_paper" 7 pClosed (spClosed Ps K) f5 d5 [] []) (GA : Cal P w K mg base "_law_alike" 4 pLAlike (spAlike K True (Lk 4)) f6 d6 [] []) (GS : Cal P w K mg base "is_safe" 7 pSafe (spSafe Ps K) f7 d7 [] []) (GH : Cal P w K mg base "shows_closed" 7 pShows (spShows Ps K) f8 d8 [] []) :
    FnOk P w K mg base CX0 8 f fd pLaw (spLaw Ps K) := by
  refine okN F scLaw (fun vs H Q E h => ?_) (fun cdv A0 outer s H vs Q E hr h => ?_)
  · obtain ⟨a, ns, rfl, _⟩ := h
    rfl
  · obtain ⟨a, ns, rfl, hs, tb, q⟩ := h
    have hr3 := hr.mono (j := 3) (by decide)
    have hr1 := hr.mono (j := 1) (by decide)
    have hr4 := hr.mono (j := 4) (by decide)
    refine ⟨_, pss_cons (ps_set (i := 1) scLaw.nd rfl (.inl rfl) (pe_lst (pa_cons (pv 0) (pa_cons pe_int (pa_cons pe_int (pa_cons pe_int pa_nil))))))
      (pss_cons (ps_par (i := 2) (j := 3) (by rfl) scLaw.nd rfl rfl (by decide) rfl rfl (pa_cons (pe_cal GM hr3 (pa_cons (pv 1) (pa_cons pe_int (pa_cons pe_int pa_nil)))) (pa_cons (pe_op op_add pe_int (pe_cal GT hr1 (pa_cons (pv 1) (pa_cons pe_int pa_nil)))) pa_nil)) (by rfl))
      (pss_cons (ps_set (i := 4) scLaw.nd rfl (.inl rfl) (pe_cal GB hr3 (pa_cons (pv 1) (pa_cons (pv 2) (pa_cons (pv 3) (pa_cons pe_int pa_nil))))))
      (pss_cons (ps_set (i := 5) scLaw.nd rfl (.inl rfl) (pe_cal GP hr3 (pa_cons (pv 2) (pa_cons (pv 4) pa_nil))))
      (pss_cons (ps_set (i := 6) scLaw.nd rfl (.inl rfl) (pe_cal GC hr (pa_cons (pv 2) (pa_cons (pv 3) (pa_cons (pv 4) pa_nil)))))
      (pss_cons (ps_if (pt_not (pt_val (pe_cal GA hr4 (pa_cons (pe_cal GS hr (pa_cons (pv 2) (pa_cons (pv 3) (pa_cons (pv 4) pa_nil)))) (pa_cons (pe_cmpR op_notN (pv 5) pe_non (nomark _)) pa_nil))))) (pss_one (ps_ret pe_bl)) pss_nil)
      (pss_cons (ps_if (pt_cmpR op_isN (pv 5) pe_non (nomark _))
        (pss_one (ps_ret (pe_and (pe_cmpR op_isN (pv 6) pe_non (nomark _)) (pe_one (pe_cmpR op_isBl (pe_cal GH hr (pa_cons (pv 2) (pa_cons (pv 3) (pa_cons (pv 4) (pa_cons (pe_tup (pa_cons (pe_op op_repT (pe_tup (pa_cons (pe_tup (pa_cons pe_int (pa_cons pe_non (pa_cons pe_int pa_nil)))) pa_nil)) pe_int) pa_nil)) pa_nil))))) pe_bl (nomark _)))))) pss_nil)
      (pss_one (ps_ret (pe_and (pe_cal GA hr4 (pa_cons (pv 6) (pa_cons (pe_callTy call_tuple_of (by rfl) T.tup (by decide +kernel) (pa_cons (pv 5) pa_nil)) pa_nil))) (pe_one (pe_cmpR op_isBl (pe_cal GH hr (pa_cons (pv 2) (pa_cons (pv 3) (pa_cons (pv 4) (pa_cons (pv 6) pa_nil))))) pe_bl (nomark _)))))))))))), ?_⟩
    refine ⟨_, rfl, (by show 4 ≤ sizeLine; decide), fun r hr0 => ?_⟩
    have far : Far K a r (ns.map V.int) := far_new hs hr0
    have z0 := same_new (o := .lst [.ref a, .int 0, .int 7010, .int 0]) hr0
    have rw0 : Rw (upd H r (.lst [.ref a, .int 0, .int 7010, .int 0])) r a := ⟨_, _, _, upd_same, by decide, by decide, by decide⟩
    have hs0 : SqL K (upd H r (.lst [.ref a, .int 0, .int 7010, .int 0])) a (ns.map V.int) := (Same.kept z0).seq hs
    have tb0 := tb.same z0
    generalize upd H r (.lst [.ref a, .int 0, .int 7010, .int 0]) = H0 at rw0 hs0 tb0 ⊢
    refine ⟨_, rfl, r, a, ns, rfl, rw0, hs0, far, fun M v H1 b1 rw1 hMok hM => ?_⟩
    have ok := hMok.ok
    refine ⟨_, rfl, r, a, ns, 4, rfl, rw1, b1.seqF far hs0, far, by decide, by decide, fun x H2 hx b2 rw2 => ?_⟩
    have ek : (1 + (x : Nat) : Int) = ((1 + x : Nat) : Int) := by omega
    refine ⟨_, _, rfl, rfl, v, .int ((1 + x : Nat) : Int), by rw [← ek], ?_⟩
    have hM2 : At K H2 v (kMc M) := hM.keep (rw1.keep b2)
    have b12 := b1.trans b2
    refine ⟨_, rfl, _, rfl, _, rfl, r, a, ns, v, M, 1 + x, rfl, rw2, b12.seqF far hs0, far, hM2, ok, by omega, by omega, fun Tb u H3 b3 rw3 okT hT => ?_⟩
    have hM3 := hM2.keep (rw2.keep b3)
    have tb3 : Tabs Ps H3 := by
      obtain ⟨ys, e⟩ := rw0.lst
      exact tb0.but e (fun _ z => by cases z) (b12.trans b3)
    have hh3 : HouseAt K H3 v u M (1 + x) Tb := ⟨hM3, hT, hMok, okT, by omega, by omega⟩
    refine ⟨_, rfl, _, rfl, v, u, M, 1 + x, Tb, rfl, hM3, hT, ok, okT, fun due H4 z4 hdue => ?_⟩
    have hh4 := hh3.keep (keep_same z4)
    have tb4 := tb3.same z4
    refine ⟨_, rfl, _, rfl, _, rfl, v, u, M, 1 + x, Tb, rfl, hh4, tb4, fun found H5 k5 tb5 hfound => ?_⟩
    have hh5 := hh4.keep (keep_kept k5)
    refine ⟨_, rfl, _, rfl, _, rfl, v, u, M, 1 + x, Tb, rfl, hh5, tb5, fun b H6 k6 tb6 hb => ?_⟩
    have hh6 := hh5.keep (keep_kept k6)
    rcases hdue with ⟨ns', rfl⟩ | ⟨D, xs, l, rfl, hsafe, hD, hxs, asc, hmem⟩
    · -- not safe
      have eb : b = false := by
        cases b with
        | false => rfl
        | true => exact absurd (hb.mp rfl) ns'
      subst eb
      refine ⟨_, rfl, rfl, ?_⟩
      refine ⟨.bl false, _, rfl, .inl ⟨trivial, false, rfl, rfl⟩, fun H7 z7 => ⟨true, rfl, iteF ?_⟩⟩
      refine ⟨_, rfl, rfl, _, rfl, iteD rfl ?_⟩
      rcases hfound with ⟨_, rfl⟩ | ⟨l, hs', _⟩
      · refine ⟨_, rfl, rfl, _, rfl, iteD rfl ?_⟩
        have hh7 := hh6.keep (keep_same z7)
        have tb7 := tb6.same z7
        refine ⟨_, rfl, _, rfl, _, rfl, ?_⟩
        refine ⟨(by show 3 ≤ sizeLine; decide), fun p1 hp1 => ⟨(by show 1 ≤ sizeLine; decide), fun p2 hp2 => ?_⟩⟩
        have y1 := same_new (o := .tup [.int 0, .non, .int 0]) hp1
        have y2 := same_new (o := .tup [.ref p1]) hp2
        refine ⟨p2, 2, [.ref p1], rfl, rfl, .inl (.inl upd_same), (by simp), (by decide), (by decide), (by show 1 ≤ 1000; decide), fun p3 hp3 => ?_⟩
        have y3 := same_new (o := .tup [.ref p1, .ref p1]) hp3
        refine ⟨(by show 1 ≤ sizeLine; decide), fun p4 hp4 => ?_⟩
        have y4 := same_new (o := .tup [.ref p3]) hp4
        have y := y1.trans (y2.trans (y3.trans y4))
        have hst : OL.PrOk M Tb OL.START := OL.start_ok ok
        refine ⟨v, u, .ref p4, M, 1 + x, Tb, [OL.START], rfl, hh7.keep (keep_same y), ?_, asc_one _, (fun q' hq => by rw [List.mem_singleton.mp hq]; exact hst), List.mem_singleton.mpr rfl, tb7.same y, fun b' H8 _ _ hb' => ?_⟩
        · have hp : At K (upd (upd (upd (upd H7 p1 (.tup [.int 0, .non, .int 0])) p2 (.tup [.ref p1])) p3 (.tup [.ref p1, .ref p1])) p4 (.tup [.ref p3])) (.ref p1) (kPl (0, none, 0)) := at_pl.mpr ⟨p1, rfl, keep_same (y2.trans (y3.trans y4)) _ _ (.inl (.inl upd_same))⟩
          exact at_tup.mpr ⟨p4, [.ref p3], rfl, .inl (.inl upd_same), .cons' (at_pr.mpr ⟨p3, .ref p1, .ref p1, rfl, keep_same y4 _ _ (.inl (.inl upd_same)), hp, hp⟩) .nil'⟩
        · have eb : b' = false := by
            cases b' with
            | false => rfl
            | true =>
              obtain ⟨g1, g2⟩ := hb'.mp rfl OL.START (List.mem_singleton.mpr rfl)
              rcases OL.start_open ns' with z | ⟨q', z1, z2⟩
              · exact absurd z g1
              · exact absurd (List.mem_singleton.mp (g2 q' z1)) z2
          subst eb
          exact ⟨false, false, rfl, rfl, q _⟩
      · exact absurd hs' ns'
    · -- safe
      have eb : b = true := hb.mpr hsafe
      subst eb
      refine ⟨_, rfl, rfl, ?_⟩
      refine ⟨.bl true, _, rfl, .inl ⟨trivial, true, rfl, rfl⟩, fun H7 z7 => ⟨true, rfl, iteF ?_⟩⟩
      refine ⟨_, rfl, rfl, _, rfl, iteDN (by intro z; cases z) ?_⟩
      rcases hfound with ⟨hs', _⟩ | ⟨l', _, asc', hmem', hfd⟩
      · exact absurd hsafe hs'
      · have el : l' = l := asc_unique asc' asc fun p => (hmem' p).trans (hmem p).symm
        subst el
        have k57 : Kept H5 H7 := k6.trans (Same.kept z7)
        have k47 : Kept H4 H7 := k5.trans k57
        have hh7 := hh6.keep (keep_same z7)
        have tb7 := tb6.same z7
        have hfd7 := hfd.keep (keep_kept k57)
        have hD7 := k47 _ _ hD (fun _ z => by cases z)
        have hxs7 := hxs.keep (keep_kept k47)
        have prok : ∀ p ∈ l', OL.PrOk M Tb p := fun p hp => OL.reach_ok ok okT ((hmem p).mp hp)
        have few := OL.pairs_few ok okT (asc_nodup asc) prok
        refine ⟨_, rfl, _, rfl, D, xs, rfl, .inl ⟨.inl (.inl hD7), fun tl htl => ?_⟩⟩
        have y := same_new (o := .tup xs) htl
        refine ⟨found, .ref tl, rfl, .inr ⟨_, lk_prs few, hfd7.keep (keep_same y), at_tup.mpr ⟨tl, xs, rfl, .inl (.inl upd_same), hxs7.keep (keep_same y)⟩⟩, fun H8 z8 => ⟨true, rfl, iteT ?_⟩⟩
        have y8 := y.trans z8
        have pap := OL.closed_paper_of (M := M) (T := Tb) (l := l') ⟨hsafe, asc_nodup asc, hmem⟩
        refine ⟨_, rfl, _, rfl, _, rfl, _, rfl, v, u, found, M, 1 + x, Tb, l', rfl, hh7.keep (keep_same y8), hfd7.keep (keep_same y8), asc, prok, pap.1, tb7.same y8, fun b' H9 _ _ hb' => ?_⟩
        have eb : b' = true := hb'.mpr pap.2
        subst eb
        exact ⟨true, true, rfl, rfl, q _⟩
end
end OLC
end
section
set_option Elab.async false
set_option linter.all false
set_option maxRecDepth 100000
set_option maxHeartbeats 0
/-! the head: what the top leaves -/
namespace OLH
open PySem PySem.Spec PyProof.Rows L2 OLT
def fa : List He.Fa := [.glo "is_number", .glo "is_word", .glo "is_option", .glo "need_machine", .glo "need_marks", .glo "is_row", .glo "need_table", .glo "need_house", .glo "Walk", .glo "order_of", .glo "paper_of", .glo "is_safe", .glo "closed_paper", .glo "is_paper", .glo "shows_closed"]
  ++ [.glo "_law_taken", .glo "_law_pick", .glo "_law_machine", .glo "_law_row", .glo "_law_every", .glo "_law_table", .glo "_law_can_say", .glo "_law_pairs_behind", .glo "_law_paper", .glo "_law_alike", .glo "law", .glo "START"]
  ++ [.free "isinstance", .free "len", .free "all", .free "enumerate", .free "range", .free "tuple", .free "list", .free "sorted", .free "zip", .free "int", .free "str", .free "bool"]
  ++ [.int "MOST_STATES" 40, .int "MOST_OPTIONS" 6, .int "MOST_LETTERS" 8, .str "LETTERS" "abcdefghijklmnopqrstuvwxyz", .int "MOST_MARKS" 4, .int "MOST_PAIRS" 4000]
  ++ [.cls "Walk", .mkr "Walk", .noat "Walk" "machine", .noat "Walk" "table", .noat "Walk" "near", .keep "order_of"]
  ++ [.meth "Walk" "bring_near", .meth "Walk" "marks_to_word", .meth "Walk" "choices", .meth "Walk" "next_mark", .meth "Walk" "gone_on", .meth "Walk" "together", .meth "Walk" "chosen", .meth "Walk" "marks_to_part", .meth "Walk" "is_place"]
/-- a written tuple's items -/
def tupV (K : PySem.W.Frag) (a : Addr) (f : List Value → Bool) : Bool := match K.lookup a with
  | some ⟨.type c, _, .seq its _, _⟩ => decide (c = "tuple") && (decide (its.size ≤ sizeLine) && f its.toList)
  | _ => false
def plB (K : PySem.W.Frag) : Value → Bool
  | .ref a => tupV K a fun l => match l with
    | [.int i _, .none, .int j _] => decide (i = 0) && decide (j = 0)
    | _ => false
  | _ => false
def ex (K : PySem.W.Frag) : Bool := tupV K (He.ga K "START") fun l => match l with
  | [u, v] => plB K u && plB K v
  | _ => false
def tf : List He.Defn := [("is_word", none), ("need_machine", none), ("is_row", none), ("need_table", none), ("is_paper", none), ("shows_closed", none)]
abbrev R : PySem.W.OpenRow := PySem.W.OpenLaw.row PySem.Challenge.rw_onelife_k10_whole_papers
abbrev hk : PySem.W.Hook := He.hookX 5 fa fn [] tf ex
def ob (s : PySem.W.SharedT) : He.AlX := He.obsX 5 fa fn [] tf ex (HandSHeadRun.getT s)
theorem ob_eq (s : PySem.W.SharedT) : ob s = hk.obs s.abs := He.obsX_eq (HandSHeadRun.getT_eq s)
def loose1 : List Str := ["LifeError", "BadMachine", "BadMarks", "BadTable", "TooMany", "MOST_STATES", "MOST_OPTIONS", "MOST_LETTERS", "LETTERS", "is_number", "is_word", "is_option", "need_machine", "MOST_MARKS", "MOST_ROW", "need_marks", "is_row", "need_table", "need_house", "MOST_PAIRS", "START", "Walk", "order_of", "paper_of", "is_safe", "closed_paper", "is_paper", "shows_closed"]
def loose2 : List Str := ["_law_taken", "_law_pick", "_law_machine", "_law_row", "_law_every", "_law_table", "_law_can_say", "_law_pairs_behind", "_law_paper", "_law_alike"]
def loose : List Str := loose1 ++ loose2
theorem run (w : World) : HandSHeadRun.RunEq R (PySem.W.view R.prog [43]) hk ob 4000 loose w := by
  intro os
  kernel_rfl
end OLH
end
section
set_option Elab.async false
set_option linter.all false
set_option maxRecDepth 100000
set_option maxHeartbeats 1000000
/-! the walks from what the head says -/
namespace OLH
open PySem PySem.Spec PyProof.Rows L2 OLT OLC
theorem code_of {K : PySem.W.Frag} {x qual : Str} {params : Arguments} {body : List Stmt} {scope : Scope} {dvs : List V} {kws : List (Str × V)} {p : Str × Option Str} {fd : FuncData} (F : FunD K x qual params body scope dvs kws (He.fAd K p) fd) : fd.code = .ref (He.codeOf K p) := by
  obtain ⟨oc, od, dV, kV, doc, pm, an, cdv, ct, osl, rfl, lk, hcd, _, _⟩ := F.ex
  obtain ⟨c, rfl⟩ := He.codeIn_ref hcd
  rw [He.codeOf_eq lk (c := c) rfl]
theorem tup_at {K : PySem.W.Frag} {a : Addr} {f : List Value → Bool} (h : tupV K a f = true) : ∃ (o : Obj) (its : Array Value) (n : Nat), K.lookup a = some o ∧ o.cls = .type "tuple" ∧ o.data = .seq its n ∧ its.size ≤ sizeLine ∧ f its.toList = true := by
  unfold tupV at h
  cases e : K.lookup a with
  | none => rw [e] at h; cases h
  | some o =>
    rw [e] at h
    obtain ⟨oc, od, dt, sl⟩ := o
    cases oc with
    | type c =>
      cases dt with
      | seq its n =>
        obtain ⟨h1, h2⟩ := He.ba (show (decide (c = "tuple") && (decide (its.size ≤ sizeLine) && f its.toList)) = true from h)
        obtain ⟨h3, h4⟩ := He.ba h2
        exact ⟨_, its, n, rfl, by rw [of_decide_eq_true h1], rfl, of_decide_eq_true h3, h4⟩
      | _ => cases h
    | _ => cases h
theorem pl_at {K : PySem.W.Frag} {u : Value} (h : plB K u = true) : ∃ a : Addr, u = .ref a ∧ ∀ H, At K H (.ref a) (kPl (0, none, 0)) := by
  cases u with
  | ref a =>
    obtain ⟨o, its, n, h1, h2, h3, h4, h5⟩ := tup_at (f := fun l => match l with
      | [.int i _, .none, .int j _] => decide (i = 0) && decide (j = 0)
      | _ => false) h
    refine ⟨a, rfl, fun H => at_pl.mpr ⟨a, rfl, .inr ⟨o, its, n, h1, h2, h3, h4, ?_⟩⟩⟩
    generalize its.toList = l at h5
    match l, h5 with
    | [.int i t, .none, .int j t'], h5 =>
      obtain ⟨g1, g2⟩ := He.ba h5
      have g1 := of_decide_eq_true g1
      have g2 := of_decide_eq_true g2
      subst g1 g2
      exact .cons ⟨_, rfl⟩ (.cons rfl (.cons ⟨_, rfl⟩ .nil))
  | _ => cases h
theorem start_at {K : PySem.W.Frag} (h : ex K = true) : ∀ H, At K H (.ref (He.ga K "START")) (kPr OL.START) := fun H => by
  obtain ⟨o, its, n, h1, h2, h3, h4, h5⟩ := tup_at (show tupV K _ _ = true from h)
  have key : ∃ a b : Addr, its.toList = [.ref a, .ref b] ∧ (∀ H, At K H (.ref a) (kPl (0, none, 0))) ∧ ∀ H, At K H (.ref b) (kPl (0, none, 0)) := by
    generalize its.toList = l at h5
    match l, h5 with
    | [u, v], h5 =>
      obtain ⟨g1, g2⟩ := He.ba h5
      obtain ⟨a, rfl, ha⟩ := pl_at g1
      obtain ⟨b, rfl, hb⟩ := pl_at g2
      exact ⟨a, b, rfl, ha, hb⟩
  obtain ⟨a, b, e, ha, hb⟩ := key
  refine at_pr.mpr ⟨_, .ref a, .ref b, rfl, .inr ⟨o, its, n, h1, h2, h3, h4, ?_⟩, ha H, hb H⟩
  rw [e]
  exact .cons rfl (.cons rfl .nil)
theorem facts {w : World} {K : PySem.W.Frag} {h : Heap} {mg : Str → Option Value} {f0 : Addr} (X : K.In h) (G : h.Ns mainGlobals mg) (hfa : mg ("law" : Str) = some (.ref f0)) (c : He.SaysX fa fn [] tf ex w h K) :
    LamX.LawAtS PySem.Challenge.rw_onelife_k10_whole_papers w K CX0 8 63 "_law_script" mg f0 h := by
  have cd := c.t.d
  have T : Tx K mg (He.ga K "Walk") (He.ga K "START") := {
    isi := He.free_ok X G (cd.fact 27 (f := .free "isinstance") rfl)
    len := He.free_ok X G (cd.fact 28 (f := .free "len") rfl)
    all := He.free_ok X G (cd.fact 29 (f := .free "all") rfl)
    enum := He.free_ok X G (cd.fact 30 (f := .free "enumerate") rfl)
    rng := He.free_ok X G (cd.fact 31 (f := .free "range") rfl)
    tup := He.free_ok X G (cd.fact 32 (f := .free "tuple") rfl)
    lst := He.free_ok X G (cd.fact 33 (f := .free "list") rfl)
    srt := He.free_ok X G (cd.fact 34 (f := .free "sorted") rfl)
    zip := He.free_ok X G (cd.fact 35 (f := .free "zip") rfl)
    int := He.free_ok X G (cd.fact 36 (f := .free "int") rfl)
    str := He.free_ok X G (cd.fact 37 (f := .free "str") rfl)
    bool := He.free_ok X G (cd.fact 38 (f := .free "bool") rfl)
    states := He.int_ok X G (cd.fact 39 (f := .int "MOST_STATES" 40) rfl)
    options := He.int_ok X G (cd.fact 40 (f := .int "MOST_OPTIONS" 6) rfl)
    letters := He.int_ok X G (cd.fact 41 (f := .int "MOST_LETTERS" 8) rfl)
    marks := He.int_ok X G (cd.fact 43 (f := .int "MOST_MARKS" 4) rfl)
    pairs := He.int_ok X G (cd.fact 44 (f := .int "MOST_PAIRS" 4000) rfl)
    abc := He.str_ok X G (cd.fact 42 (f := .str "LETTERS" "abcdefghijklmnopqrstuvwxyz") rfl)
    cl := He.cls_ok (cd.fact 45 (f := .cls "Walk") rfl)
    nM := He.noat_ok (cd.fact 47 (f := .noat "Walk" "machine") rfl)
    nT := He.noat_ok (cd.fact 48 (f := .noat "Walk" "table") rfl)
    nN := He.noat_ok (cd.fact 49 (f := .noat "Walk" "near") rfl)
    walk := He.glo_ok X G (cd.fact 8 (f := .glo "Walk") rfl)
    start := He.glo_ok X G (cd.fact 26 (f := .glo "START") rfl)
    startAt := start_at c.more }
  have MK := He.mkr_ok (cd.fact 46 (f := .mkr "Walk") rfl)
  obtain ⟨dNumber, FNumber⟩ := cd.def_ 0 (d := OLT.dNumber) rfl
  obtain ⟨dWord, FWord⟩ := cd.def_ 1 (d := OLT.dWord) rfl
  obtain ⟨dOption, FOption⟩ := cd.def_ 2 (d := OLT.dOption) rfl
  obtain ⟨dNMach, FNMach⟩ := cd.def_ 3 (d := OLT.dNMach) rfl
  obtain ⟨dNMarks, FNMarks⟩ := cd.def_ 4 (d := OLT.dNMarks) rfl
  obtain ⟨dIsRow, FIsRow⟩ := cd.def_ 5 (d := OLT.dIsRow) rfl
  obtain ⟨dNTable, FNTable⟩ := cd.def_ 6 (d := OLT.dNTable) rfl
  obtain ⟨dHouse, FHouse⟩ := cd.def_ 7 (d := OLT.dHouse) rfl
  obtain ⟨dWInit, FWInit⟩ := cd.def_ 8 (d := OLT.dWInit) rfl
  obtain ⟨dWNear, FWNear⟩ := cd.def_ 9 (d := OLT.dWNear) rfl
  obtain ⟨dWMtw, FWMtw⟩ := cd.def_ 10 (d := OLT.dWMtw) rfl
  obtain ⟨dWChoices, FWChoices⟩ := cd.def_ 11 (d := OLT.dWChoices) rfl
  obtain ⟨dWNext, FWNext⟩ := cd.def_ 12 (d := OLT.dWNext) rfl
  obtain ⟨dWGone, FWGone⟩ := cd.def_ 13 (d := OLT.dWGone) rfl
  obtain ⟨dWTog, FWTog⟩ := cd.def_ 14 (d := OLT.dWTog) rfl
  obtain ⟨dWChosen, FWChosen⟩ := cd.def_ 15 (d := OLT.dWChosen) rfl
  obtain ⟨dWPart, FWPart⟩ := cd.def_ 16 (d := OLT.dWPart) rfl
  obtain ⟨dWPlace, FWPlace⟩ := cd.def_ 17 (d := OLT.dWPlace) rfl
  obtain ⟨dOrder, FOrder⟩ := cd.def_ 18 (d := OLT.dOrder) rfl
  obtain ⟨dPaperOf, FPaperOf⟩ := cd.def_ 19 (d := OLT.dPaperOf) rfl
  obtain ⟨dSafe, FSafe⟩ := cd.def_ 20 (d := OLT.dSafe) rfl
  obtain ⟨dClosed, FClosed⟩ := cd.def_ 21 (d := OLT.dClosed) rfl
  obtain ⟨dIsPaper, FIsPaper⟩ := cd.def_ 22 (d := OLT.dIsPaper) rfl
  obtain ⟨dShows, FShows⟩ := cd.def_ 23 (d := OLT.dShows) rfl
  obtain ⟨dLTaken, FLTaken⟩ := cd.def_ 24 (d := OLT.dLTaken) rfl
  obtain ⟨dLPick, FLPick⟩ := cd.def_ 25 (d := OLT.dLPick) rfl
  obtain ⟨dLMach, FLMach⟩ := cd.def_ 26 (d := OLT.dLMach) rfl
  obtain ⟨dLRow, FLRow⟩ := cd.def_ 27 (d := OLT.dLRow) rfl
  obtain ⟨dLEvery, FLEvery⟩ := cd.def_ 28 (d := OLT.dLEvery) rfl
  obtain ⟨dLTable, FLTable⟩ := cd.def_ 29 (d := OLT.dLTable) rfl
  obtain ⟨dLSay, FLSay⟩ := cd.def_ 30 (d := OLT.dLSay) rfl
  obtain ⟨dLBehind, FLBehind⟩ := cd.def_ 31 (d := OLT.dLBehind) rfl
  obtain ⟨dLPaper, FLPaper⟩ := cd.def_ 32 (d := OLT.dLPaper) rfl
  obtain ⟨dLAlike, FLAlike⟩ := cd.def_ 33 (d := OLT.dLAlike) rfl
  obtain ⟨dLaw, FLaw⟩ := cd.def_ 34 (d := OLT.dLaw) rfl
  have e := hfa.symm.trans (He.glo_ok X G (cd.fact 25 (f := .glo "law") rfl))
  cases e
  have bNumber : Binds K dNumber pNumber [] := FunD.bindsN FNumber fun _ _ _ _ _ _ us hl => match us, hl with | [_, _, _], _ => rfl
  have bWord : Binds K dWord pWord [] := FunD.bindsN FWord fun _ _ _ _ _ _ us hl => match us, hl with | [_], _ => rfl
  have bOption : Binds K dOption pOption [] := FunD.bindsN FOption fun _ _ _ _ _ _ us hl => match us, hl with | [_, _], _ => rfl
  have bNMach : Binds K dNMach pNMach [] := FunD.bindsN FNMach fun _ _ _ _ _ _ us hl => match us, hl with | [_], _ => rfl
  have bNMarks : Binds K dNMarks pNMarks [] := FunD.bindsN FNMarks fun _ _ _ _ _ _ us hl => match us, hl with | [_], _ => rfl
  have bNTable : Binds K dNTable pNTable [] := FunD.bindsN FNTable fun _ _ _ _ _ _ us hl => match us, hl with | [_, _, _], _ => rfl
  have bHouse : Binds K dHouse pHouse [] := FunD.bindsN FHouse fun _ _ _ _ _ _ us hl => match us, hl with | [_, _, _], _ => rfl
  have bWInit : Binds K dWInit pWInit [] := FunD.bindsN FWInit fun _ _ _ _ _ _ us hl => match us, hl with | [_, _, _], _ => rfl
  have bWNear : Binds K dWNear pWNear [] := FunD.bindsN FWNear fun _ _ _ _ _ _ us hl => match us, hl with | [_, _], _ => rfl
  have bWMtw : Binds K dWMtw pWMtw [] := FunD.bindsN FWMtw fun _ _ _ _ _ _ us hl => match us, hl with | [_, _], _ => rfl
  have bWChoices : Binds K dWChoices pWChoices [] := FunD.bindsN FWChoices fun _ _ _ _ _ _ us hl => match us, hl with | [_, _], _ => rfl
  have bWNext : Binds K dWNext pWNext [] := FunD.bindsN FWNext fun _ _ _ _ _ _ us hl => match us, hl with | [_, _], _ => rfl
  have bWGone : Binds K dWGone pWGone [] := FunD.bindsN FWGone fun _ _ _ _ _ _ us hl => match us, hl with | [_, _], _ => rfl
  have bWTog : Binds K dWTog pWTog [] := FunD.bindsN FWTog fun _ _ _ _ _ _ us hl => match us, hl with | [_, _], _ => rfl
  have bWChosen : Binds K dWChosen pWChosen [] := FunD.bindsN FWChosen fun _ _ _ _ _ _ us hl => match us, hl with | [_, _], _ => rfl
  have bWPart : Binds K dWPart pWPart [] := FunD.bindsN FWPart fun _ _ _ _ _ _ us hl => match us, hl with | [_, _, _], _ => rfl
  have bWPlace : Binds K dWPlace pWPlace [] := FunD.bindsN FWPlace fun _ _ _ _ _ _ us hl => match us, hl with | [_, _], _ => rfl
  have bOrder : Binds K dOrder pOrder [] := FunD.bindsN FOrder fun _ _ _ _ _ _ us hl => match us, hl with | [_], _ => rfl
  have bPaperOf : Binds K dPaperOf pPaperOf [] := FunD.bindsN FPaperOf fun _ _ _ _ _ _ us hl => match us, hl with | [_], _ => rfl
  have bSafe : Binds K dSafe pSafe [] := FunD.bindsN FSafe fun _ _ _ _ _ _ us hl => match us, hl with | [_, _, _], _ => rfl
  have bClosed : Binds K dClosed pClosed [] := FunD.bindsN FClosed fun _ _ _ _ _ _ us hl => match us, hl with | [_, _, _], _ => rfl
  have bIsPaper : Binds K dIsPaper pIsPaper [] := FunD.bindsN FIsPaper fun _ _ _ _ _ _ us hl => match us, hl with | [_, _], _ => rfl
  have bShows : Binds K dShows pShows [] := FunD.bindsN FShows fun _ _ _ _ _ _ us hl => match us, hl with | [_, _, _, _], _ => rfl
  have bLTaken : Binds K dLTaken pLTaken [] := FunD.bindsN FLTaken fun _ _ _ _ _ _ us hl => match us, hl with | [_, _], _ => rfl
  have bLPick : Binds K dLPick pLPick [] := FunD.bindsN FLPick fun _ _ _ _ _ _ us hl => match us, hl with | [_, _], _ => rfl
  have bLMach : Binds K dLMach pLMach [] := FunD.bindsN FLMach fun _ _ _ _ _ _ us hl => match us, hl with | [_, _, _], _ => rfl
  have bLRow : Binds K dLRow pLRow [] := FunD.bindsN FLRow fun _ _ _ _ _ _ us hl => match us, hl with | [_, _, _], _ => rfl
  have bLEvery : Binds K dLEvery pLEvery [] := FunD.bindsN FLEvery fun _ _ _ _ _ _ us hl => match us, hl with | [_, _], _ => rfl
  have bLTable : Binds K dLTable pLTable [] := FunD.bindsN FLTable fun _ _ _ _ _ _ us hl => match us, hl with | [_, _, _, _], _ => rfl
  have bLSay : Binds K dLSay pLSay [] := FunD.bindsN FLSay fun _ _ _ _ _ _ us hl => match us, hl with | [_], _ => rfl
  have bLBehind : Binds K dLBehind pLBehind [] := FunD.bindsN FLBehind fun _ _ _ _ _ _ us hl => match us, hl with | [_, _, _], _ => rfl
  have bLPaper : Binds K dLPaper pLPaper [] := FunD.bindsN FLPaper fun _ _ _ _ _ _ us hl => match us, hl with | [_, _], _ => rfl
  have bLAlike : Binds K dLAlike pLAlike [] := FunD.bindsN FLAlike fun _ _ _ _ _ _ us hl => match us, hl with | [_, _], _ => rfl
  have b1 : ∃ ds, Vals [.int 8] ds ∧ Binds K dIsRow pIsRow ds := FunD.binds1 (ps := pIsRow) FIsRow 2 0 (by intro z; cases z) rfl fun T kV doc pm an cdv ct us its h1 h2 => by
    match us, h1, its, h2 with
    | [u, v], _, [i], _ => exact ⟨_, rfl, rfl⟩
  obtain ⟨du, hdu, bIsRow⟩ := b1
  have bA := FunD.bindsA (ps := pLaw) FLaw fun _ _ _ _ _ _ us hl => match us, hl with | [_], _ => rfl
  have hcs : ∀ p ∈ tf.map (He.cT K), ∃ q ∈ tf, p = He.cT K q := fun p hp => by
    obtain ⟨q, hq, e⟩ := List.mem_map.mp hp
    exact ⟨q, hq, e.symm⟩
  refine ⟨dLaw, tf.map (He.cT K), spLaw ((tf.map (He.cT K)).map Prod.snd) K, fun p hp => ?_, fun p hp => ?_, fun p hp => ?_, fun s v => bA s [v] rfl, fun H a ns _ _ hP hS => ⟨a, ns, rfl, hS, fun P hP' => ?_, fun _ => rfl⟩, fun base hK hns TBs => ?_⟩
  · obtain ⟨q, hq, rfl⟩ := hcs p hp
    exact c.empty q hq
  · obtain ⟨q, hq, rfl⟩ := hcs p hp
    exact c.out q hq
  · obtain ⟨q, hq, rfl⟩ := hcs p hp
    exact PySem.W.codeHd_of_K X (c.hd q hq)
  · obtain ⟨p, hp, rfl⟩ := List.mem_map.mp hP'
    exact ⟨#[], hP p hp, trivial⟩
  have TB : ∀ q ∈ tf, GxR.TabB base mg (He.codeOf K q) (He.cT K q).2 ∧ (He.cT K q).2 ∈ (tf.map (He.cT K)).map Prod.snd := fun q hq => by
    have hm : He.cT K q ∈ tf.map (He.cT K) := List.mem_map.mpr ⟨q, hq, rfl⟩
    have t := TBs _ hm
    exact ⟨⟨t.code, t.bm, t.gP⟩, List.mem_map.mpr ⟨_, hm, rfl⟩⟩
  generalize (tf.map (He.cT K)).map Prod.snd = Ps at TB ⊢
  obtain ⟨tWord, mWord⟩ := TB ("is_word", none) (by simp [tf])
  obtain ⟨tNMach, mNMach⟩ := TB ("need_machine", none) (by simp [tf])
  obtain ⟨tIsRow, mIsRow⟩ := TB ("is_row", none) (by simp [tf])
  obtain ⟨tNTable, mNTable⟩ := TB ("need_table", none) (by simp [tf])
  obtain ⟨tIsPaper, mIsPaper⟩ := TB ("is_paper", none) (by simp [tf])
  obtain ⟨tShows, mShows⟩ := TB ("shows_closed", none) (by simp [tf])
  have oNumber := ok_number (P := PySem.Challenge.rw_onelife_k10_whole_papers.prog) (w := w) (base := base) T FNumber 
  have GNumber : Cal PySem.Challenge.rw_onelife_k10_whole_papers.prog w K mg base "is_number" 1 pNumber spNumber (He.ga K "is_number") dNumber [] [] := ⟨oNumber, He.glo_ok X G (cd.fact 0 (f := .glo "is_number") rfl), FNumber.kp, bNumber, .nil⟩
  have oWord := ok_word (P := PySem.Challenge.rw_onelife_k10_whole_papers.prog) (w := w) (base := base) (Ps := Ps) T FWord (code_of FWord) tWord mWord
  have GWord : Cal PySem.Challenge.rw_onelife_k10_whole_papers.prog w K mg base "is_word" 2 pWord (spWord Ps) (He.ga K "is_word") dWord [] [] := ⟨oWord, He.glo_ok X G (cd.fact 1 (f := .glo "is_word") rfl), FWord.kp, bWord, .nil⟩
  have oOption := ok_option (P := PySem.Challenge.rw_onelife_k10_whole_papers.prog) (w := w) (base := base) (Ps := Ps) T FOption GNumber GWord
  have GOption : Cal PySem.Challenge.rw_onelife_k10_whole_papers.prog w K mg base "is_option" 3 pOption (spOption Ps K) (He.ga K "is_option") dOption [] [] := ⟨oOption, He.glo_ok X G (cd.fact 2 (f := .glo "is_option") rfl), FOption.kp, bOption, .nil⟩
  have oNMach := ok_nmach (P := PySem.Challenge.rw_onelife_k10_whole_papers.prog) (w := w) (base := base) (Ps := Ps) T FNMach (code_of FNMach) tNMach mNMach GOption
  have GNMach : Cal PySem.Challenge.rw_onelife_k10_whole_papers.prog w K mg base "need_machine" 5 pNMach (spNMach Ps K) (He.ga K "need_machine") dNMach [] [] := ⟨oNMach, He.glo_ok X G (cd.fact 3 (f := .glo "need_machine") rfl), FNMach.kp, bNMach, .nil⟩
  have oNMarks := ok_nmarks (P := PySem.Challenge.rw_onelife_k10_whole_papers.prog) (w := w) (base := base) T FNMarks GNumber
  have GNMarks : Cal PySem.Challenge.rw_onelife_k10_whole_papers.prog w K mg base "need_marks" 2 pNMarks spNMarks (He.ga K "need_marks") dNMarks [] [] := ⟨oNMarks, He.glo_ok X G (cd.fact 4 (f := .glo "need_marks") rfl), FNMarks.kp, bNMarks, .nil⟩
  have oIsRow := ok_row (P := PySem.Challenge.rw_onelife_k10_whole_papers.prog) (w := w) (base := base) (Ps := Ps) T FIsRow (code_of FIsRow) tIsRow mIsRow GNumber
  have GIsRow : Cal PySem.Challenge.rw_onelife_k10_whole_papers.prog w K mg base "is_row" 3 pIsRow (spRow Ps K) (He.ga K "is_row") dIsRow [.int 8] du := ⟨oIsRow, He.glo_ok X G (cd.fact 5 (f := .glo "is_row") rfl), FIsRow.kp, bIsRow, hdu⟩
  have oNTable := ok_ntable (P := PySem.Challenge.rw_onelife_k10_whole_papers.prog) (w := w) (base := base) (Ps := Ps) T FNTable (code_of FNTable) tNTable mNTable GIsRow
  have GNTable : Cal PySem.Challenge.rw_onelife_k10_whole_papers.prog w K mg base "need_table" 5 pNTable (spNTable Ps K) (He.ga K "need_table") dNTable [] [] := ⟨oNTable, He.glo_ok X G (cd.fact 6 (f := .glo "need_table") rfl), FNTable.kp, bNTable, .nil⟩
  have oHouse := ok_house (P := PySem.Challenge.rw_onelife_k10_whole_papers.prog) (w := w) (base := base) (Ps := Ps) T FHouse GNMach GNMarks GNTable
  have GHouse : Cal PySem.Challenge.rw_onelife_k10_whole_papers.prog w K mg base "need_house" 6 pHouse (spHouse Ps K) (He.ga K "need_house") dHouse [] [] := ⟨oHouse, He.glo_ok X G (cd.fact 7 (f := .glo "need_house") rfl), FHouse.kp, bHouse, .nil⟩
  have oWNear := ok_wnear (P := PySem.Challenge.rw_onelife_k10_whole_papers.prog) (w := w) (base := base) T FWNear 
  have GWNear : CalM PySem.Challenge.rw_onelife_k10_whole_papers.prog w K mg base (He.ga K "Walk") "bring_near" 1 pWNear (spWNear K (He.ga K "Walk")) (He.ma K (He.ga K "Walk") "bring_near") dWNear := ⟨oWNear, He.meth_ok (cd.fact 51 (f := .meth "Walk" "bring_near") rfl), bWNear⟩
  have oWInit := ok_winit (P := PySem.Challenge.rw_onelife_k10_whole_papers.prog) (w := w) (base := base) T FWInit GWNear
  have oWMtw := ok_wmtw (P := PySem.Challenge.rw_onelife_k10_whole_papers.prog) (w := w) (base := base) T FWMtw 
  have GWMtw : CalM PySem.Challenge.rw_onelife_k10_whole_papers.prog w K mg base (He.ga K "Walk") "marks_to_word" 1 pWMtw (spWMtw K (He.ga K "Walk")) (He.ma K (He.ga K "Walk") "marks_to_word") dWMtw := ⟨oWMtw, He.meth_ok (cd.fact 52 (f := .meth "Walk" "marks_to_word") rfl), bWMtw⟩
  have oWChoices := ok_wchoices (P := PySem.Challenge.rw_onelife_k10_whole_papers.prog) (w := w) (base := base) T FWChoices 
  have GWChoices : CalM PySem.Challenge.rw_onelife_k10_whole_papers.prog w K mg base (He.ga K "Walk") "choices" 1 pWChoices (spWChoices K (He.ga K "Walk")) (He.ma K (He.ga K "Walk") "choices") dWChoices := ⟨oWChoices, He.meth_ok (cd.fact 53 (f := .meth "Walk" "choices") rfl), bWChoices⟩
  have oWNext := ok_wnext (P := PySem.Challenge.rw_onelife_k10_whole_papers.prog) (w := w) (base := base) T FWNext 
  have GWNext : CalM PySem.Challenge.rw_onelife_k10_whole_papers.prog w K mg base (He.ga K "Walk") "next_mark" 1 pWNext (spWNext K (He.ga K "Walk")) (He.ma K (He.ga K "Walk") "next_mark") dWNext := ⟨oWNext, He.meth_ok (cd.fact 54 (f := .meth "Walk" "next_mark") rfl), bWNext⟩
  have oWGone := ok_wgone (P := PySem.Challenge.rw_onelife_k10_whole_papers.prog) (w := w) (base := base) T FWGone 
  have GWGone : CalM PySem.Challenge.rw_onelife_k10_whole_papers.prog w K mg base (He.ga K "Walk") "gone_on" 1 pWGone (spWGone K (He.ga K "Walk")) (He.ma K (He.ga K "Walk") "gone_on") dWGone := ⟨oWGone, He.meth_ok (cd.fact 55 (f := .meth "Walk" "gone_on") rfl), bWGone⟩
  have oWTog := ok_wtog (P := PySem.Challenge.rw_onelife_k10_whole_papers.prog) (w := w) (base := base) T FWTog GWNext GWGone
  have GWTog : CalM PySem.Challenge.rw_onelife_k10_whole_papers.prog w K mg base (He.ga K "Walk") "together" 2 pWTog (spWTog K (He.ga K "Walk")) (He.ma K (He.ga K "Walk") "together") dWTog := ⟨oWTog, He.meth_ok (cd.fact 56 (f := .meth "Walk" "together") rfl), bWTog⟩
  have oWChosen := ok_wchosen (P := PySem.Challenge.rw_onelife_k10_whole_papers.prog) (w := w) (base := base) T FWChosen GWChoices
  have GWChosen : CalM PySem.Challenge.rw_onelife_k10_whole_papers.prog w K mg base (He.ga K "Walk") "chosen" 2 pWChosen (spWChosen K (He.ga K "Walk")) (He.ma K (He.ga K "Walk") "chosen") dWChosen := ⟨oWChosen, He.meth_ok (cd.fact 57 (f := .meth "Walk" "chosen") rfl), bWChosen⟩
  have oWPart := ok_wpart (P := PySem.Challenge.rw_onelife_k10_whole_papers.prog) (w := w) (base := base) T FWPart GWMtw
  have GWPart : CalM PySem.Challenge.rw_onelife_k10_whole_papers.prog w K mg base (He.ga K "Walk") "marks_to_part" 2 pWPart (spWPart K (He.ga K "Walk")) (He.ma K (He.ga K "Walk") "marks_to_part") dWPart := ⟨oWPart, He.meth_ok (cd.fact 58 (f := .meth "Walk" "marks_to_part") rfl), bWPart⟩
  have oWPlace := ok_wplace (P := PySem.Challenge.rw_onelife_k10_whole_papers.prog) (w := w) (base := base) T FWPlace GNumber
  have GWPlace : CalM PySem.Challenge.rw_onelife_k10_whole_papers.prog w K mg base (He.ga K "Walk") "is_place" 2 pWPlace (spWPlace K (He.ga K "Walk")) (He.ma K (He.ga K "Walk") "is_place") dWPlace := ⟨oWPlace, He.meth_ok (cd.fact 59 (f := .meth "Walk" "is_place") rfl), bWPlace⟩
  have oOrder := ok_order (P := PySem.Challenge.rw_onelife_k10_whole_papers.prog) (w := w) (base := base) T FOrder 
  have GOrder : Cal PySem.Challenge.rw_onelife_k10_whole_papers.prog w K mg base "order_of" 1 pOrder (spOrder K) (He.ga K "order_of") dOrder [] [] := ⟨oOrder, He.glo_ok X G (cd.fact 9 (f := .glo "order_of") rfl), FOrder.kp, bOrder, .nil⟩
  have oPaperOf := ok_paperof (P := PySem.Challenge.rw_onelife_k10_whole_papers.prog) (w := w) (base := base) T FPaperOf GWTog GWChosen GWPart
  have GPaperOf : Cal PySem.Challenge.rw_onelife_k10_whole_papers.prog w K mg base "paper_of" 3 pPaperOf (spPaperOf K (He.ga K "Walk")) (He.ga K "paper_of") dPaperOf [] [] := ⟨oPaperOf, He.glo_ok X G (cd.fact 10 (f := .glo "paper_of") rfl), FPaperOf.kp, bPaperOf, .nil⟩
  have oSafe := ok_safe (P := PySem.Challenge.rw_onelife_k10_whole_papers.prog) (w := w) (base := base) (Ps := Ps) T FSafe GHouse GPaperOf MK oWInit bWInit
  have GSafe : Cal PySem.Challenge.rw_onelife_k10_whole_papers.prog w K mg base "is_safe" 7 pSafe (spSafe Ps K) (He.ga K "is_safe") dSafe [] [] := ⟨oSafe, He.glo_ok X G (cd.fact 11 (f := .glo "is_safe") rfl), FSafe.kp, bSafe, .nil⟩
  have oClosed := ok_closed (P := PySem.Challenge.rw_onelife_k10_whole_papers.prog) (w := w) (base := base) (Ps := Ps) T FClosed GHouse GPaperOf GOrder MK oWInit bWInit
  have GClosed : Cal PySem.Challenge.rw_onelife_k10_whole_papers.prog w K mg base "closed_paper" 7 pClosed (spClosed Ps K) (He.ga K "closed_paper") dClosed [] [] := ⟨oClosed, He.glo_ok X G (cd.fact 12 (f := .glo "closed_paper") rfl), FClosed.kp, bClosed, .nil⟩
  have oIsPaper := ok_ispaper (P := PySem.Challenge.rw_onelife_k10_whole_papers.prog) (w := w) (base := base) (Ps := Ps) T FIsPaper (code_of FIsPaper) tIsPaper mIsPaper GWPlace GOrder
  have GIsPaper : Cal PySem.Challenge.rw_onelife_k10_whole_papers.prog w K mg base "is_paper" 4 pIsPaper (spIsPaper Ps K (He.ga K "Walk")) (He.ga K "is_paper") dIsPaper [] [] := ⟨oIsPaper, He.glo_ok X G (cd.fact 13 (f := .glo "is_paper") rfl), FIsPaper.kp, bIsPaper, .nil⟩
  have oShows := ok_shows (P := PySem.Challenge.rw_onelife_k10_whole_papers.prog) (w := w) (base := base) (Ps := Ps) T FShows (code_of FShows) tShows mShows GHouse GIsPaper GWChosen GWTog GWPart MK oWInit bWInit
  have GShows : Cal PySem.Challenge.rw_onelife_k10_whole_papers.prog w K mg base "shows_closed" 7 pShows (spShows Ps K) (He.ga K "shows_closed") dShows [] [] := ⟨oShows, He.glo_ok X G (cd.fact 14 (f := .glo "shows_closed") rfl), FShows.kp, bShows, .nil⟩
  have oLTaken := ok_taken (P := PySem.Challenge.rw_onelife_k10_whole_papers.prog) (w := w) (base := base) T FLTaken 
  have GLTaken : Cal PySem.Challenge.rw_onelife_k10_whole_papers.prog w K mg base "_law_taken" 1 pLTaken (spTaken K) (He.ga K "_law_taken") dLTaken [] [] := ⟨oLTaken, He.glo_ok X G (cd.fact 15 (f := .glo "_law_taken") rfl), FLTaken.kp, bLTaken, .nil⟩
  have oLPick := ok_pick (P := PySem.Challenge.rw_onelife_k10_whole_papers.prog) (w := w) (base := base) T FLPick GLTaken
  have GLPick : Cal PySem.Challenge.rw_onelife_k10_whole_papers.prog w K mg base "_law_pick" 2 pLPick (spPick K) (He.ga K "_law_pick") dLPick [] [] := ⟨oLPick, He.glo_ok X G (cd.fact 16 (f := .glo "_law_pick") rfl), FLPick.kp, bLPick, .nil⟩
  have oLMach := ok_lmach (P := PySem.Challenge.rw_onelife_k10_whole_papers.prog) (w := w) (base := base) T FLMach GLTaken GLPick
  have GLMach : Cal PySem.Challenge.rw_onelife_k10_whole_papers.prog w K mg base "_law_machine" 3 pLMach (spLMach K) (He.ga K "_law_machine") dLMach [] [] := ⟨oLMach, He.glo_ok X G (cd.fact 17 (f := .glo "_law_machine") rfl), FLMach.kp, bLMach, .nil⟩
  have oLRow := ok_lrow (P := PySem.Challenge.rw_onelife_k10_whole_papers.prog) (w := w) (base := base) T FLRow GLTaken
  have GLRow : Cal PySem.Challenge.rw_onelife_k10_whole_papers.prog w K mg base "_law_row" 2 pLRow (spLRow K) (He.ga K "_law_row") dLRow [] [] := ⟨oLRow, He.glo_ok X G (cd.fact 18 (f := .glo "_law_row") rfl), FLRow.kp, bLRow, .nil⟩
  have oLEvery := ok_every (P := PySem.Challenge.rw_onelife_k10_whole_papers.prog) (w := w) (base := base) T FLEvery 
  have GLEvery : Cal PySem.Challenge.rw_onelife_k10_whole_papers.prog w K mg base "_law_every" 1 pLEvery (spEvery K) (He.ga K "_law_every") dLEvery [] [] := ⟨oLEvery, He.glo_ok X G (cd.fact 19 (f := .glo "_law_every") rfl), FLEvery.kp, bLEvery, .nil⟩
  have oLTable := ok_ltable (P := PySem.Challenge.rw_onelife_k10_whole_papers.prog) (w := w) (base := base) T FLTable GLTaken GLRow GLEvery
  have GLTable : Cal PySem.Challenge.rw_onelife_k10_whole_papers.prog w K mg base "_law_table" 3 pLTable (spLTable K) (He.ga K "_law_table") dLTable [] [] := ⟨oLTable, He.glo_ok X G (cd.fact 20 (f := .glo "_law_table") rfl), FLTable.kp, bLTable, .nil⟩
  have oLSay := ok_lsay (P := PySem.Challenge.rw_onelife_k10_whole_papers.prog) (w := w) (base := base) T FLSay 
  have GLSay : Cal PySem.Challenge.rw_onelife_k10_whole_papers.prog w K mg base "_law_can_say" 1 pLSay (spLSay K) (He.ga K "_law_can_say") dLSay [] [] := ⟨oLSay, He.glo_ok X G (cd.fact 21 (f := .glo "_law_can_say") rfl), FLSay.kp, bLSay, .nil⟩
  have oLBehind := ok_lbehind (P := PySem.Challenge.rw_onelife_k10_whole_papers.prog) (w := w) (base := base) T FLBehind GLSay
  have GLBehind : Cal PySem.Challenge.rw_onelife_k10_whole_papers.prog w K mg base "_law_pairs_behind" 2 pLBehind (spLBehind K) (He.ga K "_law_pairs_behind") dLBehind [] [] := ⟨oLBehind, He.glo_ok X G (cd.fact 22 (f := .glo "_law_pairs_behind") rfl), FLBehind.kp, bLBehind, .nil⟩
  have oLPaper := ok_lpaper (P := PySem.Challenge.rw_onelife_k10_whole_papers.prog) (w := w) (base := base) T FLPaper GLBehind
  have GLPaper : Cal PySem.Challenge.rw_onelife_k10_whole_papers.prog w K mg base "_law_paper" 3 pLPaper (spLPaper K) (He.ga K "_law_paper") dLPaper [] [] := ⟨oLPaper, He.glo_ok X G (cd.fact 23 (f := .glo "_law_paper") rfl), FLPaper.kp, bLPaper, .nil⟩
  have oLAlike := ok_lalike (P := PySem.Challenge.rw_onelife_k10_whole_papers.prog) (w := w) (base := base) T FLAlike (He.glo_ok X G (cd.fact 24 (f := .glo "_law_alike") rfl)) FLAlike.kp bLAlike
  have GLAlike : Cal PySem.Challenge.rw_onelife_k10_whole_papers.prog w K mg base "_law_alike" 4 pLAlike (spAlike K True (Lk 4)) (He.ga K "_law_alike") dLAlike [] [] := ⟨oLAlike, He.glo_ok X G (cd.fact 24 (f := .glo "_law_alike") rfl), FLAlike.kp, bLAlike, .nil⟩
  exact ok_law (P := PySem.Challenge.rw_onelife_k10_whole_papers.prog) (w := w) (base := base) (Ps := Ps) T FLaw GLMach GLTaken GLTable GLPaper GClosed GLAlike GSafe GShows
end OLH
end
section
set_option Elab.async false
set_option linter.all false
set_option maxRecDepth 100000
set_option maxHeartbeats 0
/-! the law holds -/
open PySem PySem.W PySem.Calls PyProof.Rows
theorem PySem.Challenge.cw_onelife_k10_whole_papers_holds : PySem.Challenge.rw_onelife_k10_whole_papers.Holds := by
  w_on; o_law
  refine HandSHeadRun.head_any (r := OpenLaw.row PySem.Challenge.rw_onelife_k10_whole_papers) (q := view (OpenLaw.row PySem.Challenge.rw_onelife_k10_whole_papers).prog [43]) (H := OLH.hk) (ob := OLH.ob) (M := 4000) (loose := OLH.loose) (d := HandSHeadRun.topDef (OpenLaw.row PySem.Challenge.rw_onelife_k10_whole_papers).prog 43) (kwd := []) OLH.ob_eq
    (by kernel_rfl) (fun s => by kernel_rfl) OLH.run (by kernel_rfl) (by kernel_rfl) (by kernel_rfl) (by rfl) (by first | assumption | decide +kernel) (by decide +kernel) ⟨rfl, rfl, rfl, rfl, rfl, by decide +kernel⟩ ?hw ?hc
  case hw => w_witness2
  case hc =>
    refine LamX.walk_ofTsE (l := PySem.Challenge.rw_onelife_k10_whole_papers) (n := 63) (k := 8) (x := "_law_script") (CX := fun _ => L2.CX0) rfl (by decide) (by kernel_rfl) ⟨rfl, by decide, by decide⟩ ?F (fun _ _ _ _ _ z => z)
    intro w mg f0 h Y G hmg0
    obtain ⟨K, KX, c⟩ := Y
    have hmg : mg ("law" : PySem.Str) = some (.ref f0) := by
      have e : (HandSHeadRun.topDef (OpenLaw.row PySem.Challenge.rw_onelife_k10_whole_papers).prog 43).name = ("law" : PySem.Str) := by kernel_rfl
      rw [← e]
      exact hmg0
    exact ⟨K, KX, OLH.facts KX G hmg c⟩
end
