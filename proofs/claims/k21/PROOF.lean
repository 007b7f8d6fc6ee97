import PyProof.Rows.All
import Wide.All
import OpenK.AllK
import Wide.FinOn
import HandS.ForMost
import HandS.TupAny
import HandS.IsInst
import HandS.Style
import HandS.Zip
import HandS.Walk
import HandS.TupLen
import HandS.Lambda
import HandS.EndTab
import KE.DataFind
import KE.KDictKeyed
import KE.KDictDisplayH
import KE.SortKeyHeap
import KE.GoesEnum
import KE.GoesNew
import PySem.Challenge.RW_warmrows_k21_whole_stories_and_shapes
set_option Elab.async false
set_option linter.all false
set_option maxRecDepth 100000
set_option maxHeartbeats 4000000
/-! Stories, the shapes' tree, the turns: plain lists, no program. -/
namespace Wr
open PySem

abbrev Dd := Str × Str
abbrev Story := List Dd
abbrev pu : Str := "put"
abbrev dr : Str := "drop"
theorem pu_ne : ¬ (pu = dr) := by decide +kernel
theorem dr_ne : ¬ (dr = pu) := by decide +kernel

/-- the law's fields -/
def lf1 (acc : List Str) (p : Dd) : List Str := (acc.filter fun x => !decide (x = p.2)) ++ (if p.1 = pu then [p.2] else [])
def lf (s : Story) : List Str := s.foldl lf1 []
/-- the program's -/
def pf1 (acc : List Str) (p : Dd) : List Str := if p.1 = pu then acc ++ [p.2] else acc.erase p.2
def pf (s : Story) : List Str := s.foldl pf1 []
theorem lf_snoc (s : Story) (p : Dd) : lf (s ++ [p]) = lf1 (lf s) p := by
  unfold lf
  rw [List.foldl_append]
  rfl
theorem pf_snoc (s : Story) (p : Dd) : pf (s ++ [p]) = pf1 (pf s) p := by
  unfold pf
  rw [List.foldl_append]
  rfl

/-- the deed that is due -/
def dd (s : Story) (f : Str) : Str := if f ∈ lf s then dr else pu
inductive Okay : Story → Prop
  | nil : Okay []
  | snoc {s : Story} (f : Str) : PyData.strOk f = true → Okay s → Okay (s ++ [(dd s f, f)])

theorem snoc_inj {α : Type} {s t : List α} {a b : α} (h : s ++ [a] = t ++ [b]) : s = t ∧ a = b := by
  have h1 := congrArg List.reverse h
  rw [List.reverse_append, List.reverse_append] at h1
  simp only [List.reverse_singleton, List.singleton_append, List.cons.injEq] at h1
  exact ⟨List.reverse_inj.mp h1.2, h1.1⟩
theorem snoc_ne {α : Type} (s : List α) (a : α) : s ++ [a] ≠ [] := by simp
theorem Okay.inv {s : Story} {p : Dd} (h : Okay (s ++ [p])) : Okay s ∧ p.1 = dd s p.2 ∧ PyData.strOk p.2 = true := by
  generalize e : s ++ [p] = t at h
  cases h with
  | nil => exact absurd e (snoc_ne _ _)
  | @snoc u f hf hu =>
    obtain ⟨e1, e2⟩ := snoc_inj e
    subst e1 e2
    exact ⟨hu, rfl, hf⟩
theorem Okay.take {s : Story} (h : Okay s) : ∀ n : Nat, Okay (s.take n) := by
  induction h with
  | nil => intro n; rw [List.take_nil]; exact .nil
  | @snoc s f hf hs ih =>
    intro n
    by_cases hn : n ≤ s.length
    · rw [List.take_append_of_le_length hn]
      exact ih n
    · rw [List.take_of_length_le (by rw [List.length_append, List.length_singleton]; omega)]
      exact .snoc f hf hs
theorem Okay.dropLast {s : Story} (h : Okay s) : Okay s.dropLast := by
  rw [List.dropLast_eq_take]
  exact h.take _
theorem Okay.good {s : Story} (h : Okay s) : ∀ p ∈ s, (p.1 = pu ∨ p.1 = dr) ∧ PyData.strOk p.2 = true := by
  induction h with
  | nil => intro p hp; cases hp
  | @snoc s f hf hs ih =>
    intro p hp
    rcases List.mem_append.mp hp with q | q
    · exact ih p q
    · rw [List.mem_singleton] at q
      subst q
      refine ⟨?_, hf⟩
      show (dd s f = pu ∨ dd s f = dr)
      unfold dd
      split
      · exact .inr rfl
      · exact .inl rfl
theorem Okay.fields {s : Story} (h : Okay s) : pf s = lf s ∧ (lf s).Nodup := by
  induction h with
  | nil => exact ⟨rfl, List.nodup_nil⟩
  | @snoc s f hf hs ih =>
    obtain ⟨e, n⟩ := ih
    rw [pf_snoc, lf_snoc, e]
    unfold pf1 lf1 dd
    by_cases hm : f ∈ lf s
    · rw [if_pos hm]
      simp only [if_neg dr_ne, List.append_nil]
      refine ⟨?_, n.filter _⟩
      rw [n.erase_eq_filter]
      refine List.filter_congr fun x _ => ?_
      by_cases hx : x = f <;> simp [hx]
    · rw [if_neg hm]
      simp only [if_pos]
      have ef : (lf s).filter (fun x => !decide (x = f)) = lf s := by
        refine List.filter_eq_self.mpr fun x hx => ?_
        have : ¬ x = f := fun q => hm (q ▸ hx)
        simp [this]
      rw [ef]
      refine ⟨rfl, ?_⟩
      rw [List.nodup_append]
      refine ⟨n, by simp, fun a ha b hb => ?_⟩
      rw [List.mem_singleton] at hb
      subst hb
      exact fun q => hm (q ▸ ha)
/-- a drop finds its field -/
theorem Okay.drop_mem {s : Story} {p : Dd} (h : Okay (s ++ [p])) (hd : p.1 ≠ pu) : p.2 ∈ pf s := by
  obtain ⟨h1, h2, _⟩ := h.inv
  rw [h1.fields.1]
  unfold dd at h2
  split at h2
  · assumption
  · exact absurd h2 hd
/-- the deed is a drop just where the field is there -/
theorem Okay.due {s : Story} {p : Dd} (h : Okay (s ++ [p])) : (p.1 = dr) ↔ p.2 ∈ lf s := by
  obtain ⟨_, h2, _⟩ := h.inv
  rw [h2]
  unfold dd
  constructor
  · intro q
    split at q
    · assumption
    · exact absurd q pu_ne
  · intro q
    rw [if_pos q]
theorem lf_good {s : Story} (h : Okay s) : ∀ x ∈ lf s, PyData.strOk x = true := by
  induction h with
  | nil => intro x hx; cases hx
  | @snoc s f hf hs ih =>
    intro x hx
    rw [lf_snoc] at hx
    unfold lf1 at hx
    rcases List.mem_append.mp hx with q | q
    · exact ih x (List.mem_filter.mp q).1
    · split at q
      · rw [List.mem_singleton] at q
        subst q
        exact hf
      · cases q
theorem lf_len : ∀ s : Story, (lf s).length ≤ s.length := by
  intro s
  suffices h : ∀ (s : Story) (acc : List Str), (s.foldl lf1 acc).length ≤ acc.length + s.length by
    have := h s []
    simpa [lf] using this
  intro s
  induction s with
  | nil => intro acc; simp
  | cons p s ih =>
    intro acc
    rw [List.foldl_cons]
    have h1 := ih (lf1 acc p)
    have h2 : (lf1 acc p).length ≤ acc.length + 1 := by
      unfold lf1
      rw [List.length_append]
      have := List.length_filter_le (fun x => !decide (x = p.2)) acc
      split <;> simp <;> omega
    rw [List.length_cons]
    omega

/-! ### the tree of shapes: the stories in the order of their numbers -/
structure Tree (L : List Story) : Prop where
  zero : L[0]? = some []
  nodup : L.Nodup
  ok : ∀ s ∈ L, Okay s
  len : ∀ s ∈ L, s.length ≤ 16
  par : ∀ (i : Nat) (s : Story), L[i]? = some s → s ≠ [] → ∃ j, j < i ∧ L[j]? = some s.dropLast
theorem ix_of {L : List Story} (n : L.Nodup) {i : Nat} {s : Story} (h : L[i]? = some s) : L.idxOf s = i := by
  obtain ⟨hi, e⟩ := List.getElem?_eq_some_iff.mp h
  subst e
  exact n.idxOf_getElem i hi
theorem ix_get {L : List Story} {s : Story} (h : s ∈ L) : L[L.idxOf s]? = some s := by
  have hl := List.idxOf_lt_length_iff.mpr h
  rw [List.getElem?_eq_getElem hl, List.getElem_idxOf]
theorem ix_inj {L : List Story} {s t : Story} (h : s ∈ L) (e : L.idxOf s = L.idxOf t) (ht : t ∈ L) : s = t := by
  have h1 := ix_get h
  have h2 := ix_get ht
  rw [e] at h1
  exact Option.some.inj (h1.symm.trans h2)
theorem Tree.base : Tree [[]] where
  zero := rfl
  nodup := by simp
  ok := fun s h => by
    rw [List.mem_singleton] at h
    subst h
    exact .nil
  len := fun s h => by
    rw [List.mem_singleton] at h
    subst h
    exact Nat.zero_le _
  par := fun i s h hs => by
    cases i with
    | zero =>
      have e : ([] : Story) = s := Option.some.inj h
      exact absurd e.symm hs
    | succ i => simp at h
theorem Tree.pos {L : List Story} (t : Tree L) : 0 < L.length := by
  have := t.zero
  cases L with
  | nil => simp at this
  | cons a r => simp
theorem Tree.nil_mem {L : List Story} (t : Tree L) : ([] : Story) ∈ L := List.mem_of_getElem? t.zero
theorem Tree.ix_nil {L : List Story} (t : Tree L) : L.idxOf ([] : Story) = 0 := ix_of t.nodup t.zero
theorem Tree.par_mem {L : List Story} (t : Tree L) {s : Story} (h : s ∈ L) : s.dropLast ∈ L := by
  by_cases hs : s = []
  · subst hs
    exact h
  · obtain ⟨j, _, e⟩ := t.par _ s (ix_get h) hs
    exact List.mem_of_getElem? e
theorem Tree.par_lt {L : List Story} (t : Tree L) {s : Story} (h : s ∈ L) (hs : s ≠ []) : L.idxOf s.dropLast < L.idxOf s := by
  obtain ⟨j, hj, e⟩ := t.par _ s (ix_get h) hs
  rw [ix_of t.nodup e]
  exact hj
theorem Tree.grow {L : List Story} (t : Tree L) {s : Story} {p : Dd} (hs : s ∈ L) (ok : Okay (s ++ [p])) (hl : (s ++ [p]).length ≤ 16) (hn : s ++ [p] ∉ L) : Tree (L ++ [s ++ [p]]) where
  zero := by
    rw [List.getElem?_append_left t.pos]
    exact t.zero
  nodup := by
    rw [List.nodup_append]
    refine ⟨t.nodup, by simp, fun a ha b hb => ?_⟩
    rw [List.mem_singleton] at hb
    subst hb
    exact fun q => hn (q ▸ ha)
  ok := fun x hx => by
    rcases List.mem_append.mp hx with q | q
    · exact t.ok x q
    · rw [List.mem_singleton] at q
      subst q
      exact ok
  len := fun x hx => by
    rcases List.mem_append.mp hx with q | q
    · exact t.len x q
    · rw [List.mem_singleton] at q
      subst q
      exact hl
  par := fun i x hx hne => by
    by_cases hi : i < L.length
    · rw [List.getElem?_append_left hi] at hx
      obtain ⟨j, hj, e⟩ := t.par i x hx hne
      exact ⟨j, hj, by rw [List.getElem?_append_left (by omega)]; exact e⟩
    · rw [List.getElem?_append_right (by omega)] at hx
      cases hk : i - L.length with
      | zero =>
        rw [hk] at hx
        have e : s ++ [p] = x := Option.some.inj hx
        subst e
        have hlt := List.idxOf_lt_length_iff.mpr hs
        refine ⟨L.idxOf s, by omega, ?_⟩
        rw [List.getElem?_append_left hlt, List.dropLast_concat]
        exact ix_get hs
      | succ k =>
        rw [hk] at hx
        simp at hx
theorem ix_grow {L : List Story} {s x : Story} (h : s ∈ L) : (L ++ [x]).idxOf s = L.idxOf s := by
  rw [List.idxOf_append, if_pos h]
theorem ix_new {L : List Story} {x : Story} (h : x ∉ L) : (L ++ [x]).idxOf x = L.length := by
  rw [List.idxOf_append, if_neg h]
  simp
/-- all beginnings of a story that is there are there -/
theorem Tree.begs {L : List Story} (t : Tree L) : ∀ (n : Nat) (s : Story), s.length = n → s ∈ L → ∀ k, s.take k ∈ L := by
  intro n
  induction n with
  | zero =>
    intro s hs hm k
    have : s = [] := List.length_eq_zero_iff.mp hs
    subst this
    rw [List.take_nil]
    exact hm
  | succ n ih =>
    intro s hs hm k
    by_cases hk : s.length ≤ k
    · rw [List.take_of_length_le hk]
      exact hm
    · have h1 := ih s.dropLast (by rw [List.length_dropLast]; omega) (t.par_mem hm) k
      rw [List.dropLast_eq_take, List.take_take, Nat.min_eq_left (by omega)] at h1
      exact h1
theorem last_of {s : Story} (h : s ≠ []) : ∃ p : Dd, s = s.dropLast ++ [p] ∧ s.getLast? = some p :=
  ⟨s.getLast h, (List.dropLast_concat_getLast h).symm, List.getLast?_eq_getLast h⟩

/-! ### the turns -/
abbrev Tn := Nat × Nat
/-- every column stands in its order -/
def Cols (lens : List Nat) (ts : List Tn) : Prop := ∀ j : Nat, ts.filter (fun t => decide (t.2 = j)) = (List.range (lens.getD j 0)).map fun k => (k, j)
theorem Cols.bound {lens : List Nat} {ts : List Tn} (c : Cols lens ts) {t : Tn} (h : t ∈ ts) : t.1 < lens.getD t.2 0 := by
  have h1 : t ∈ ts.filter (fun u => decide (u.2 = t.2)) := List.mem_filter.mpr ⟨h, by simp⟩
  rw [c t.2] at h1
  obtain ⟨k, hk, e⟩ := List.mem_map.mp h1
  rw [← e]
  exact List.mem_range.mp hk
theorem Cols.all {lens : List Nat} {ts : List Tn} (c : Cols lens ts) {k j : Nat} (h : k < lens.getD j 0) : (k, j) ∈ ts := by
  have h1 : (k, j) ∈ ts.filter (fun u => decide (u.2 = j)) := by
    rw [c j]
    exact List.mem_map.mpr ⟨k, List.mem_range.mpr h, rfl⟩
  exact (List.mem_filter.mp h1).1
/-- the turn ahead of (k + 1, j) -/
theorem Cols.ahead {lens : List Nat} {pre post : List Tn} {k j : Nat} (c : Cols lens (pre ++ (k + 1, j) :: post)) : (k, j) ∈ pre := by
  have h1 := c j
  rw [List.filter_append, List.filter_cons_of_pos (by simp)] at h1
  generalize ea : pre.filter (fun t => decide (t.2 = j)) = a at h1
  generalize post.filter (fun t => decide (t.2 = j)) = b at h1
  have hlen := congrArg List.length h1
  rw [List.length_append, List.length_cons, List.length_map, List.length_range] at hlen
  have hat : (a ++ (k + 1, j) :: b)[a.length]? = ((List.range (lens.getD j 0)).map fun k => (k, j))[a.length]? := by rw [h1]
  rw [List.getElem?_append_right (Nat.le_refl _), Nat.sub_self, List.getElem?_cons_zero, List.getElem?_map, List.getElem?_range (by omega)] at hat
  have e : k + 1 = a.length := congrArg Prod.fst (Option.some.inj hat)
  have hk : k < a.length := by omega
  have hak : a[k]? = some (k, j) := by
    have h2 : (a ++ (k + 1, j) :: b)[k]? = some (k, j) := by
      rw [h1, List.getElem?_map, List.getElem?_range (by omega)]
      rfl
    rw [List.getElem?_append_left hk] at h2
    exact h2
  have hm : (k, j) ∈ a := List.mem_of_getElem? hak
  rw [← ea] at hm
  exact (List.mem_filter.mp hm).1
/-- by turns -/
def row0 (lens : List Nat) (k : Nat) : List Tn := ((List.range lens.length).filter fun j => decide (k < lens.getD j 0)).map fun j => (k, j)
def rows0 (lens : List Nat) (n : Nat) : List Tn := (List.range n).flatMap (row0 lens)
theorem rows0_succ (lens : List Nat) (n : Nat) : rows0 lens (n + 1) = rows0 lens n ++ row0 lens n := by
  unfold rows0
  rw [List.range_succ, List.flatMap_append]
  simp
theorem row0_col (lens : List Nat) (k j : Nat) : (row0 lens k).filter (fun t => decide (t.2 = j)) = if k < lens.getD j 0 then [(k, j)] else [] := by
  unfold row0
  rw [List.filter_map, List.filter_filter]
  have e : (List.range lens.length).filter (fun a => ((fun t : Tn => decide (t.2 = j)) ∘ fun j => (k, j)) a && decide (k < lens.getD a 0)) = if k < lens.getD j 0 then [j] else [] := by
    have hj : k < lens.getD j 0 → j < lens.length := fun h => by
      refine Nat.lt_of_not_le fun q => ?_
      rw [List.getD_eq_getElem?_getD, List.getElem?_eq_none q] at h
      exact absurd h (Nat.not_lt_zero _)
    have hf : ∀ (n : Nat) (c : Bool), (List.range n).filter (fun a => decide (a = j) && c) = if j < n ∧ c = true then [j] else [] := by
      intro n c
      induction n with
      | zero => simp
      | succ n ih =>
        rw [List.range_succ, List.filter_append, ih]
        by_cases hc : c = true
        · subst hc
          by_cases h1 : n = j
          · subst h1
            simp
          · by_cases h2 : j < n
            · have h3 : j < n + 1 := by omega
              simp [h1, h2, h3]
            · have h3 : ¬ j < n + 1 := by omega
              simp [h1, h2, h3]
        · have hc' : c = false := by simpa using hc
          subst hc'
          simp
    have e2 : (List.range lens.length).filter (fun a => ((fun t : Tn => decide (t.2 = j)) ∘ fun j => (k, j)) a && decide (k < lens.getD a 0)) = (List.range lens.length).filter (fun a => decide (a = j) && decide (k < lens.getD j 0)) := by
      refine List.filter_congr fun a _ => ?_
      show (decide (a = j) && decide (k < lens.getD a 0)) = (decide (a = j) && decide (k < lens.getD j 0))
      by_cases h : a = j
      · subst h; rfl
      · rw [decide_eq_false h, Bool.false_and, Bool.false_and]
    rw [e2, hf]
    by_cases h : k < lens.getD j 0
    · rw [if_pos h, if_pos ⟨hj h, decide_eq_true h⟩]
    · rw [if_neg h, if_neg fun q => h (of_decide_eq_true q.2)]
  rw [e]
  split <;> rfl
theorem rows0_col (lens : List Nat) (j : Nat) : ∀ n : Nat, (rows0 lens n).filter (fun t => decide (t.2 = j)) = (List.range (min n (lens.getD j 0))).map fun k => (k, j)
  | 0 => by simp [rows0]
  | n + 1 => by
    rw [rows0_succ, List.filter_append, rows0_col lens j n, row0_col]
    by_cases h : n < lens.getD j 0
    · rw [if_pos h, Nat.min_eq_left (by omega), Nat.min_eq_left (by omega), List.range_succ, List.map_append]
      rfl
    · rw [if_neg h, List.append_nil, Nat.min_eq_right (by omega), Nat.min_eq_right (by omega)]
theorem rows0_cols {lens : List Nat} (h : ∀ n ∈ lens, n ≤ 16) : Cols lens (rows0 lens 16) := fun j => by
  rw [rows0_col, Nat.min_eq_right]
  rw [List.getD_eq_getElem?_getD]
  cases e : lens[j]? with
  | none => exact Nat.zero_le _
  | some n => exact h n (List.mem_of_getElem? e)
theorem row0_len (lens : List Nat) (k : Nat) : (row0 lens k).length ≤ lens.length := by
  unfold row0
  rw [List.length_map]
  exact Nat.le_trans (List.length_filter_le _ _) (by rw [List.length_range]; exact Nat.le_refl _)
theorem rows0_len (lens : List Nat) : ∀ n : Nat, (rows0 lens n).length ≤ n * lens.length
  | 0 => by simp [rows0]
  | n + 1 => by
    rw [rows0_succ, List.length_append, Nat.succ_mul]
    have h1 := rows0_len lens n
    have h2 := row0_len lens n
    omega
end Wr

namespace Wr
open PySem L2

/-! ### the text -/
def top (i : Nat) : Stmt := PySem.Challenge.pw_warmrows_k21_whole_stories_and_shapes.main.body.getD i (.Pass ⟨0, 0, 0, 0⟩)
abbrev sIs : Stmt := top 5
abbrev sFa : Stmt := top 6
abbrev sCh : Stmt := top 7
abbrev sSb : Stmt := top 8
abbrev sCell : Stmt := top 10
abbrev sPurse : Stmt := top 11
abbrev sTake : Stmt := top 12
abbrev sWord : Stmt := top 13
abbrev sWords : Stmt := top 14
abbrev sWhole : Stmt := top 15
abbrev sSame : Stmt := top 16
abbrev sFld : Stmt := top 17
abbrev sStory : Stmt := top 18
abbrev sTurns : Stmt := top 19
abbrev sNum : Stmt := top 20
abbrev sWalk : Stmt := top 21
abbrev sAgain : Stmt := top 22
abbrev sLaw : Stmt := top 23

/-- the built-ins' names are no names of the module -/
structure Bl (mg : Str → Option Value) : Prop where
  len : mg "len" = none
  isi : mg "isinstance" = none
  int : mg "int" = none
  bool : mg "bool" = none
  tuple : mg "tuple" = none
  enu : mg "enumerate" = none
  abs : mg "abs" = none
  range : mg "range" = none
  zip : mg "zip" = none
  all : mg "all" = none
  sorted : mg "sorted" = none

/-- a def of the text, where it stands and how it is called -/
def DefAt (K : PySem.W.Frag) (mg : Str → Option Value) (x : Str) (st : Stmt) (ps : List Str) : Prop :=
  ∃ (f : Addr) (fd : FuncData), Fun K x x st f fd ∧ mg x = some (.ref f) ∧ Binds K fd ps []
/-- a def that keeps its promise -/
structure Has (P : Program) (w : World) (K : PySem.W.Frag) (mg : Str → Option Value) (base : Heap) (k : Nat) (x : Str) (ps : List Str) (sp : Sp) : Prop where
  ex : ∃ (f : Addr) (fd : FuncData), FnOk P w K mg base CX0 k f fd ps sp ∧ mg x = some (.ref f) ∧ PySem.W.keepIn K (.ref f) = true ∧ Binds K fd ps []
theorem Has.of {P : Program} {w : World} {K : PySem.W.Frag} {mg : Str → Option Value} {base : Heap} {k : Nat} {x : Str} {st : Stmt} {ps : List Str} {sp : Sp} (D : DefAt K mg x st ps)
    (h : ∀ (f : Addr) (fd : FuncData), Fun K x x st f fd → FnOk P w K mg base CX0 k f fd ps sp) : Has P w K mg base k x ps sp := by
  obtain ⟨f, fd, F, m, b⟩ := D
  exact ⟨f, fd, h f fd F, m, F.kp, b⟩
section
variable {X : Cx} {k : Nat} {x : Str} {ps : List Str} {sp : Sp} {p pos : Pos} {e : Expr} {es : List Expr} {t : TA}
/-- a call of such a def -/
theorem pe_has (h : Has X.prog X.w X.K X.mg X.base k x ps sp) (hr : Room k X.A) (ha : PA X (e :: es) t) (hg : Gl X x := by rfl)
    (hdb : (x == ("__debug__" : Str)) = false := by decide) (he : starEach (e :: es) X.env = (false, eval e X.env) :: starEach es X.env := by rfl) (hpl : (backTo pos (starEach es X.env)).any (·.1) = false := by rfl) :
    PE X (.Call (.Name x p) (e :: es) [] pos) (tCall sp [] E0 t) := by
  obtain ⟨f, fd, F, m, kp, b⟩ := h.ex
  exact pe_call F hr hg m kp b .nil pass0 ha hdb he hpl
end

/-! ### heaps -/
theorem Same.upd {H : Hp} {p : Addr} {o : HO} (h : H p = none) : Same H (L2.upd H p o) := fun b x e => by
  rw [upd_ne (ne_of_none e h)]
  exact e
theorem same_tup {K : PySem.W.Frag} {H H' : Hp} {a : Addr} {xs : List V} (e : Same H H') (h : SqT K H a xs) : SqT K H' a xs := by
  rcases h with (h | ⟨o, h⟩) | h
  · exact .inl (.inl (e _ _ h))
  · exact .inl (.inr ⟨o, e _ _ h⟩)
  · exact .inr h
/-- all but what stands at p is as it was -/
def But (p : Addr) (H H' : Hp) : Prop := ∀ b o, b ≠ p → H b = some o → H' b = some o
theorem But.of {p : Addr} {H H' : Hp} (e : Same H H') : But p H H' := fun b o _ h => e b o h
theorem But.trans {p : Addr} {H H1 H2 : Hp} (a : But p H H1) (b : But p H1 H2) : But p H H2 := fun c o n h => b c o n (a c o n h)
theorem But.upd {p : Addr} {H : Hp} {o : HO} : But p H (L2.upd H p o) := fun b x n e => by
  rw [upd_ne n]
  exact e
/-- what stands at p is no tuple -/
theorem But.tup {K : PySem.W.Frag} {p : Addr} {H H' : Hp} {a : Addr} {xs : List V} {u : HO} (e : But p H H') (hp : H p = some u) (n1 : ∀ ys, u ≠ .tup ys) (n2 : ∀ o v, u ≠ .frz o v) (h : SqT K H a xs) : SqT K H' a xs := by
  rcases h with (h | ⟨o, h⟩) | h
  · exact .inl (.inl (e _ _ (fun z => by rw [z, hp] at h; exact n1 _ (Option.some.inj h)) h))
  · exact .inl (.inr ⟨o, e _ _ (fun z => by rw [z, hp] at h; exact n2 _ _ (Option.some.inj h)) h⟩)
  · exact .inr h

/-! ### isinstance of a built-in type -/
section
variable {K : PySem.W.Frag} {H : Hp} {Q : VK} {T : String} {b : Bool}
theorem isi_i {i : Int} (h : kitB "int" T = some b) (q : Q (.bl b) H) : rIsi K [.int i, .ty T] H Q := ⟨.int i, .ty T, .type "int", .type T, b, rfl, .ty T, .base (.int i), kit_ty h, q⟩
theorem isi_s {x : Str} (h : kitB "str" T = some b) (q : Q (.bl b) H) : rIsi K [.str x, .ty T] H Q := ⟨.str x, .ty T, .type "str", .type T, b, rfl, .ty T, .base (.str x), kit_ty h, q⟩
theorem ty_tup {a : Addr} {xs : List V} (h : SqT K H a xs) : TyX K H (.ref a) (.type "tuple") := by
  rcases h with (h | ⟨o, h⟩) | ⟨o, its, n, h, c, _⟩
  · exact .base (.tup h)
  · exact .fTuple h
  · exact .kTuple h c
theorem isi_t {a : Addr} {xs : List V} (hs : SqT K H a xs) (h : kitB "tuple" T = some b) (q : Q (.bl b) H) : rIsi K [.ref a, .ty T] H Q := ⟨.ref a, .ty T, .type "tuple", .type T, b, rfl, .ty T, ty_tup hs, kit_ty h, q⟩
end
theorem k_ii : kitB "int" "int" = some true := by decide +kernel
theorem k_ib : kitB "int" "bool" = some false := by decide +kernel
theorem k_it : kitB "int" "tuple" = some false := by decide +kernel
theorem k_sb : kitB "str" "bool" = some false := by decide +kernel
theorem k_st : kitB "str" "tuple" = some false := by decide +kernel
theorem k_tt : kitB "tuple" "tuple" = some true := by decide +kernel
theorem k_ti : kitB "tuple" "int" = some false := by decide +kernel
section
variable {X : Cx} {e : Expr} {te : TE} {p q pos : Pos}
theorem pe_isi {n : Str} {T : String} (hm : X.mg "isinstance" = none) (he : PE X e te) (h2 : X.mg n = none) (hv : bootBuiltins n = some (.type T)) (hg : Gl X "isinstance" := by rfl) (hg2 : Gl X n := by rfl) (hn : n ≠ "__name__" := by decide)
    (hd : (n == ("__debug__" : Str)) = false := by decide) (hz : starEach [e, .Name n q] X.env = (false, eval e X.env) :: starEach [.Name n q] X.env := by rfl)
    (hz2 : (backTo pos (starEach [.Name n q] X.env)).any (·.1) = false := by rfl) :
    PE X (.Call (.Name "isinstance" p) [e, .Name n q] [] pos) (fun σ H Q => te σ H fun x H1 => rIsi X.K [x, .ty T] H1 Q) :=
  pe_callB call_isi hg hm PyProof.Rows.boot_isinstance (pa_cons he (pa_cons (pe_bltn (v := .ty T) hg2 h2 hv rfl hn hd) pa_nil) hz) (by decide) (by decide) hz hz2
end
end Wr

namespace Wr
open PySem L2
section
variable {P : Program} {w : World} {K : PySem.W.Frag} {mg : Str → Option Value} {base : Heap}

/-! ### is_shape -/
def spIs (K : PySem.W.Frag) : Sp := fun vs H Q _ => ∃ (b : Addr) (xs : List V) (n : Int), vs = [.ref b, .int n] ∧ SqT K H b xs ∧ 0 ≤ n ∧ n < (xs.length : Int) ∧ Q (.bl true) H
theorem scIs : FnScope ["shapes", "number"] ["shapes", "number"] (defScope sIs) := ⟨rfl, rfl, rfl, by decide +kernel, rfl, by decide +kernel, by decide +kernel⟩
theorem has_is (B : Bl mg) (D : DefAt K mg "is_shape" sIs ["shapes", "number"]) : Has P w K mg base 1 "is_shape" ["shapes", "number"] (spIs K) := by
  refine .of D fun f fd F => F.ok scIs (fun vs H Q E h => ?_) (fun cdv A outer s H vs Q E hr h => ?_)
  · obtain ⟨b, xs, n, rfl, _⟩ := h
    rfl
  · obtain ⟨b, xs, n, rfl, hs, h0, h1, q⟩ := h
    refine ⟨_, pss_cons (ps_if (PW.pt (pw_or (pt_not (pt_val (pe_isi B.isi (pv 1) B.int PyProof.Rows.boot_int))) (pw_or1 (pt_val (pe_isi B.isi (pv 1) B.bool PyProof.Rows.boot_bool))))) (pss_one (ps_ret pe_bl)) pss_nil)
      (pss_one (ps_ret (pe_chain op_le op_lt pe_int (pv 1) (pe_callB call_len_seq (by rfl) B.len boot_len (pa_cons (pv 0) pa_nil))))), ?_⟩
    refine ⟨_, rfl, isi_i k_ii ⟨_, rfl, iteF ⟨_, rfl, isi_i k_ib ⟨_, rfl, iteF ?_⟩⟩⟩⟩
    refine ⟨_, rfl, _, _, rfl, rfl, _, rfl, ?_⟩
    rw [decide_eq_true h0]
    refine iteT ⟨_, rfl, b, xs, rfl, .inr hs, _, _, rfl, rfl, ?_⟩
    show Q (.bl (decide (n < (xs.length : Int)))) H
    rw [decide_eq_true h1]
    exact q

/-! ### the law's is_whole -/
def spWhole : Sp := fun vs H Q _ => ∃ n : Int, vs = [.int n] ∧ Q (.bl true) H
theorem scWhole : FnScope ["_law_thing"] ["_law_thing"] (defScope sWhole) := ⟨rfl, rfl, rfl, by decide +kernel, rfl, by decide +kernel, by decide +kernel⟩
theorem has_whole (B : Bl mg) (D : DefAt K mg "_law_is_whole" sWhole ["_law_thing"]) : Has P w K mg base 1 "_law_is_whole" ["_law_thing"] spWhole := by
  refine .of D fun f fd F => F.ok scWhole (fun vs H Q E h => ?_) (fun cdv A outer s H vs Q E hr h => ?_)
  · obtain ⟨n, rfl, _⟩ := h
    rfl
  · obtain ⟨n, rfl, q⟩ := h
    refine ⟨_, pss_one (ps_ret (pe_and (pe_isi B.isi (pv 0) B.int PyProof.Rows.boot_int) (pe_one (pe_not (pe_isi B.isi (pv 0) B.bool PyProof.Rows.boot_bool))))), ?_⟩
    exact ⟨_, rfl, isi_i k_ii ⟨_, rfl, iteT ⟨_, rfl, isi_i k_ib ⟨_, rfl, q⟩⟩⟩⟩

/-! ### the purse -/
/-- three ints stand there -/
def Purse (H : Hp) (p : Addr) : Prop := ∃ a b c : Int, H p = some (.lst [.int a, .int b, .int c])
def spPurse : Sp := fun vs H Q _ => ∃ n : Int, vs = [.int n] ∧ ∀ (p : Addr) (H' : Hp), Same H H' → H p = none → Purse H' p → Q (.ref p) H'
theorem scPurse : FnScope ["_law_cell_here", "_law_digits"] ["_law_cell_here"] (defScope sPurse) := ⟨rfl, rfl, rfl, by decide +kernel, rfl, by decide +kernel, by decide +kernel⟩
theorem has_purse (B : Bl mg) (D : DefAt K mg "_law_purse" sPurse ["_law_cell_here"]) : Has P w K mg base 1 "_law_purse" ["_law_cell_here"] spPurse := by
  refine .of D fun f fd F => F.ok scPurse (fun vs H Q E h => ?_) (fun cdv A outer s H vs Q E hr h => ?_)
  · obtain ⟨n, rfl, _⟩ := h
    rfl
  · obtain ⟨n, rfl, q⟩ := h
    refine ⟨_, pss_cons (ps_set (i := 1) scPurse.nd rfl (.inl rfl) pe_int)
      (pss_cons (ps_if (PW.pt (pw_or (pt_cmpR op_lt (pv 0) pe_int (nomark _)) (pw_or1 (pt_cmpR op_ge (pv 0) (pe_op op_pow pe_int pe_int) (nomark _)))))
        (pss_one (ps_set (i := 1) scPurse.nd rfl (.inl rfl) (pe_callB call_abs (by rfl) B.abs PyProof.Rows.boot_abs (pa_cons (pv 0) pa_nil)))) pss_nil)
      (pss_one (ps_ret (pe_lst (pa_cons (pe_op op_mod (pv 0) pe_int) (pa_cons (pv 1) (pa_cons pe_int pa_nil))))))), ?_⟩
    have fin : ∀ d : Int, tRet (tLst (tCons (tOp (rI (fun _ j => 0 < j) fun i j => .int (i % j)) (tVar 0) (tC (.int 2147483587))) (tCons (tVar 1) (tCons (tC (.int 0)) tNil)))) { nx := fun _ H' => Q .non H', rt := Q } [some (.int n), some (.int d)] H := by
      intro d
      refine ⟨_, rfl, _, _, rfl, rfl, (by show (0 : Int) < 2147483587; decide), _, rfl, (by show 3 ≤ sizeLine; decide), fun p hp => ?_⟩
      exact q p _ (Same.upd hp) hp ⟨_, _, _, upd_same⟩
    have pow : CPow 10 18 := ⟨by decide, by decide, by decide⟩
    refine ⟨_, rfl, _, _, rfl, rfl, _, rfl, ite2 (fun _ => iteT ?_) (fun _ => ?_)⟩
    · exact ⟨_, rfl, _, rfl, fin _⟩
    · refine ⟨_, rfl, _, _, rfl, rfl, pow, _, _, rfl, rfl, _, rfl, ite2 (fun _ => ?_) (fun _ => ?_)⟩
      · exact ⟨_, rfl, _, rfl, fin _⟩
      · exact fin _
end
end Wr

namespace Wr
open PySem L2
section
variable {P : Program} {w : World} {K : PySem.W.Frag} {mg : Str → Option Value} {base : Heap}

/-! ### a draw -/
def spTake : Sp := fun vs H Q _ => ∃ (p : Addr) (m : Int), vs = [.ref p, .int m] ∧ Purse H p ∧ 0 < m ∧ m < 1000000000 ∧ ∀ (r : Int) (H' : Hp), 0 ≤ r → r < m → But p H H' → Purse H' p → Q (.int r) H'
theorem scTake : FnScope ["_law_purse_here", "_law_many", "_law_state", "_law_taken"] ["_law_purse_here", "_law_many"] (defScope sTake) := ⟨rfl, rfl, rfl, by decide +kernel, rfl, by decide +kernel, by decide +kernel⟩
theorem has_take (D : DefAt K mg "_law_take" sTake ["_law_purse_here", "_law_many"]) : Has P w K mg base 1 "_law_take" ["_law_purse_here", "_law_many"] spTake := by
  refine .of D fun f fd F => F.ok scTake (fun vs H Q E h => ?_) (fun cdv A outer s H vs Q E hr h => ?_)
  · obtain ⟨p, m, rfl, _⟩ := h
    rfl
  · obtain ⟨p, m, rfl, ⟨a, b, c, hp⟩, m0, m1, q⟩ := h
    refine ⟨_, pss_cons (ps_asg (pe_op op_add (pe_ix ix_list (pv 0) pe_int (fun _ _ => rfl)) pe_int) (pg_sub (pv 0) pe_int set_list))
      (pss_cons (ps_set (i := 2) scTake.nd rfl (.inl rfl) (pe_ix ix_list (pv 0) pe_int (fun _ _ => rfl)))
      (pss_cons (ps_asg (pe_op op_mod (pe_op op_add (pe_op op_mul (pv 2) (pe_op op_add (pe_op op_mod (pv 2) pe_int) pe_int)) (pe_op op_mul pe_int (pe_ix ix_list (pv 0) pe_int (fun _ _ => rfl)))) pe_int) (pg_sub (pv 0) pe_int set_list))
      (pss_cons (ps_if (pt_cmpR op_gt (pe_ix ix_list (pv 0) pe_int (fun _ _ => rfl)) pe_int (nomark _))
        (pss_cons (ps_set (i := 3) scTake.nd rfl (.inl rfl) (pe_op op_mod (pe_ix ix_list (pv 0) pe_int (fun _ _ => rfl)) (pv 1)))
        (pss_cons (ps_asg (pe_op op_fdiv (pe_ix ix_list (pv 0) pe_int (fun _ _ => rfl)) (pv 1)) (pg_sub (pv 0) pe_int set_list))
        (pss_one (ps_ret (pv 3))))) pss_nil)
      (pss_one (ps_ret (pe_op op_mod (pe_op op_fdiv (pe_ix ix_list (pv 0) pe_int (fun _ _ => rfl)) pe_int) (pv 1))))))), ?_⟩
    have b1 : But p H (upd H p (.lst [.int a, .int b, .int (c + 1)])) := But.upd
    refine ⟨_, rfl, p, _, 2, _, rfl, rfl, SqL.of hp, rfl, c, 1, rfl, rfl, _, rfl, p, _, 2, 2, rfl, rfl, hp, rfl, ?_⟩
    generalize hH1 : upd H p (.lst ([V.int a, V.int b, V.int c].set 2 (V.int (c + 1)))) = H1
    have hp1 : H1 p = some (.lst [.int a, .int b, .int (c + 1)]) := by rw [← hH1]; exact upd_same
    have b1 : But p H H1 := by rw [← hH1]; exact But.upd
    refine ⟨_, rfl, p, _, 0, _, rfl, rfl, SqL.of hp1, rfl, ?_⟩
    have m2 : -(2 ^ 64) < a % 46337 + 30011 ∧ a % 46337 + 30011 < 2 ^ 64 := by
      have h1 := Int.emod_nonneg a (show (46337 : Int) ≠ 0 by decide)
      have h2 := Int.emod_lt_of_pos a (show (0 : Int) < 46337 by decide)
      constructor <;> omega
    refine ⟨_, rfl, _, rfl, _, _, rfl, rfl, (by show (0 : Int) < 46337; decide), _, _, rfl, rfl, _, _, rfl, rfl, .inr m2, _, rfl, p, _, 2, _, rfl, rfl, SqL.of hp1, rfl, 104729, c + 1, rfl, rfl, .inl ⟨by decide, by decide⟩, _, _, rfl, rfl, _, _, rfl, rfl, (by show (0 : Int) < 2147483587; decide), _, rfl, p, _, 0, 0, rfl, rfl, hp1, rfl, ?_⟩
    generalize hz : (a * (a % 46337 + 30011) + 104729 * (c + 1)) % 2147483587 = z
    generalize hH2 : upd H1 p _ = H2
    have hp2 : H2 p = some (.lst [.int z, .int b, .int (c + 1)]) := by
      rw [← hH2, ← hz]
      exact upd_same
    have b2 : But p H H2 := b1.trans (by rw [← hH2]; exact But.upd)
    refine ⟨_, rfl, p, _, 1, _, rfl, rfl, SqL.of hp2, rfl, _, _, rfl, rfl, _, rfl, ite2 (fun _ => ?_) (fun _ => ?_)⟩
    · refine ⟨_, rfl, p, _, 1, _, rfl, rfl, SqL.of hp2, rfl, _, rfl, b, m, rfl, rfl, m0, ?_⟩
      refine ⟨_, rfl, p, _, 1, _, rfl, rfl, SqL.of hp2, rfl, _, rfl, b, m, rfl, rfl, ⟨m0, by omega⟩, _, rfl, p, _, 1, 1, rfl, rfl, hp2, rfl, ?_⟩
      exact ⟨_, rfl, q _ _ (Int.emod_nonneg _ (by omega)) (Int.emod_lt_of_pos _ m0) (b2.trans But.upd) ⟨_, _, _, upd_same⟩⟩
    · refine ⟨_, rfl, p, _, 0, _, rfl, rfl, SqL.of hp2, rfl, _, _, rfl, rfl, ⟨by decide, by decide⟩, _, rfl, _, m, rfl, rfl, m0, ?_⟩
      exact q _ _ (Int.emod_nonneg _ (by omega)) (Int.emod_lt_of_pos _ m0) b2 ⟨_, _, _, hp2⟩

/-! ### a cell -/
def spCell (K : PySem.W.Frag) : Sp := fun vs H Q _ => ∃ (a : Addr) (ns : List Int) (k : Int), vs = [.ref a, .int k] ∧ SqL K H a (ns.map V.int) ∧ 0 ≤ k ∧ k < 1000 ∧ ∀ (z : Int) (H' : Hp), Same H H' → Q (.int z) H'
theorem scCell : FnScope ["_law_script", "_law_k", "_law_state", "_law_cell_here"] ["_law_script", "_law_k"] (defScope sCell) := ⟨rfl, rfl, rfl, by decide +kernel, rfl, by decide +kernel, by decide +kernel⟩
theorem has_cell (B : Bl mg) (D : DefAt K mg "_law_cell" sCell ["_law_script", "_law_k"]) : Has P w K mg base 1 "_law_cell" ["_law_script", "_law_k"] (spCell K) := by
  refine .of D fun f fd F => F.ok scCell (fun vs H Q E h => ?_) (fun cdv A outer s H vs Q E hr h => ?_)
  · obtain ⟨a, ns, k, rfl, _⟩ := h
    rfl
  · obtain ⟨a, ns, k, rfl, hS, k0, k1, q⟩ := h
    refine ⟨_, pss_cons (ps_if (pt_cmpR op_lt (pv 1) (pe_callB call_len_seq (by rfl) B.len boot_len (pa_cons (pv 0) pa_nil)) (nomark _)) (pss_one (ps_ret (pe_ix ix_list (pv 0) (pv 1) (fun _ _ => rfl)))) pss_nil)
      (pss_cons (ps_set (i := 2) scCell.nd rfl (.inl rfl) (pe_op op_mul (pe_op op_mul pe_int (pe_op op_add (pv 1) pe_int)) (pe_op op_add (pv 1) pe_int)))
      (pss_cons (ps_for PassesOwn.never rfl (pi_list (pe_slice sl_list (pv 0) po_none (po_some pe_int))) (pg_name (i := 3) scCell.nd rfl (.inl rfl))
        (pss_one (ps_set (i := 2) scCell.nd rfl (.inl rfl) (pe_op op_mod (pe_op op_add (pe_op op_mul (pv 2) pe_int) (pv 3)) pe_int))))
      (pss_one (ps_ret (pv 2))))), ?_⟩
    refine ⟨_, rfl, _, rfl, a, _, rfl, .inl hS, _, _, rfl, rfl, _, rfl, ite2 (fun e => ?_) (fun _ => ?_)⟩
    · have e1 : k < ((ns.map V.int).length : Int) := of_decide_eq_true e
      rw [List.length_map] at e1
      have hk : k.toNat < ns.length := by omega
      have ek : k = ((k.toNat : Nat) : Int) := by omega
      refine ⟨_, rfl, _, rfl, a, _, k, .int ns[k.toNat], rfl, rfl, hS, at_of ek ?_, q _ _ (Same.refl H)⟩
      rw [List.getElem?_map, List.getElem?_eq_getElem hk]
      rfl
    · refine ⟨_, rfl, _, _, rfl, rfl, 39373, k + 5, rfl, rfl, .inl ⟨by decide, by decide⟩, _, rfl, _, _, rfl, rfl, _, _, rfl, rfl, .inr (by constructor <;> omega), ?_⟩
      refine ⟨_, rfl, _, rfl, a, _, rfl, hS, fun c hc => ?_⟩
      have s1 : Same H (upd H c (.lst (cutV (ns.map V.int) none (some 4)))) := Same.upd hc
      have hcut : ∀ x ∈ cutV (ns.map V.int) none (some 4), ∃ i, x = V.int i := by
        intro x hx
        unfold cutV at hx
        have h1 := List.mem_of_mem_drop (List.mem_of_mem_take hx)
        obtain ⟨i, _, e⟩ := List.mem_map.mp h1
        exact ⟨i, e.symm⟩
      generalize cutV (ns.map V.int) none (some 4) = ys at s1 hcut
      refine ⟨c, rfl, ⟨_, SqL.of upd_same⟩, for_list (K := K) (a := c) (xs := ys) (fun i σ H' => ∃ (z : Int) (v : Option V), σ = [some (.ref a), some (.int k), some (.int z), v] ∧ H' = upd H c (.lst ys)) ⟨_, none, rfl, rfl⟩ (fun i σ H' _ ⟨_, _, _, e⟩ => by rw [e]; exact SqL.of upd_same) ?_ ?_⟩
      · rintro i x σ H' hx ⟨z, v, rfl, rfl⟩
        obtain ⟨y, rfl⟩ := hcut x (List.mem_of_getElem? hx)
        refine ⟨_, rfl, z, 16843, rfl, rfl, .inr ⟨by decide, by decide⟩, _, rfl, _, _, rfl, rfl, _, _, rfl, rfl, (by show (0 : Int) < 2147483587; decide), ?_⟩
        exact ⟨_, _, rfl, rfl⟩
      · rintro σ H' ⟨z, v, rfl, rfl⟩
        exact ⟨_, rfl, q _ _ s1⟩
end
end Wr

namespace Wr
open PySem L2

/-! ### texts -/
abbrev abc : Str := "abcdefghijklmnopqrstuvwxyz"
def menuL : List Str := ["mark", "go", "keep", "tell", "round", "put", "drop", "none", "me", "ask", "thing", "end"]
/-- a name: short, of plain signs -/
def Nm (z : Str) : Prop := z.length ≤ 6 ∧ PyData.strOk z = true
theorem menu_len : menuL.length = 12 := rfl
theorem menu_nm : ∀ z ∈ menuL, Nm z := by
  have h : (menuL.all fun z => decide (z.length ≤ 6) && PyData.strOk z) = true := by decide +kernel
  intro z hz
  have q := List.all_eq_true.mp h z hz
  rw [Bool.and_eq_true] at q
  exact ⟨of_decide_eq_true q.1, q.2⟩
theorem abc_size : abc.cps.size = 26 := by decide +kernel
theorem abc_nd : abc.cps.toList.Nodup := by decide +kernel
theorem abc_ok : ∀ c ∈ abc.cps.toList, PyData.strOk (⟨#[c]⟩ : Str) = true := by
  have h : (abc.cps.toList.all fun c => PyData.strOk (⟨#[c]⟩ : Str)) = true := by decide +kernel
  exact fun c hc => List.all_eq_true.mp h c hc
theorem str_len_app (a b : Str) : (a ++ b).length = a.length + b.length := by
  show (a.cps ++ b.cps).size = a.cps.size + b.cps.size
  exact Array.size_append
theorem strOk_app {a b : Str} (h1 : PyData.strOk a = true) (h2 : PyData.strOk b = true) : PyData.strOk (a ++ b) = true := by
  unfold PyData.strOk at h1 h2 ⊢
  show (a.cps ++ b.cps).all (· < 0x110000) = true
  rw [Array.all_append, h1, h2]
  rfl
theorem cut5_len (z : Str) : (cutS z none (some 5)).length ≤ 5 := by
  show (cutS z none (some 5)).cps.size ≤ 5
  unfold cutS
  rw [List.size_toArray, List.length_take]
  have h : HT.sIx z.length z.length (some 5) ≤ 5 := by
    rw [show (some (5 : Int)) = some ((5 : Nat) : Int) from rfl, HT.sIx_nat]
    exact Nat.min_le_left _ _
  have h2 := Nat.min_le_left (HT.sIx z.length z.length (some 5) - HT.sIx z.length 0 none) (z.cps.toList.drop (HT.sIx z.length 0 none)).length
  omega
theorem cut5_ok {z : Str} (h : PyData.strOk z = true) : PyData.strOk (cutS z none (some 5)) = true := by
  unfold PyData.strOk cutS at *
  rw [List.all_toArray, List.all_eq_true]
  intro c hc
  rw [← Array.all_toList, List.all_eq_true] at h
  exact h c (List.mem_of_mem_drop (List.mem_of_mem_take hc))
theorem inV_str (x : Str) : ∀ us : List Str, inV (.str x) (us.map V.str) = decide (x ∈ us)
  | [] => rfl
  | u :: us => by
    have ih := inV_str x us
    unfold inV at ih ⊢
    rw [List.map_cons, List.any_cons, ih]
    show ((u == x) || decide (x ∈ us)) = decide (x ∈ u :: us)
    by_cases h : x = u
    · subst h
      simp
    · have h2 : (u == x) = false := by
        rw [beq_eq_false_iff_ne]
        exact fun q => h q.symm
      simp [h2, h]
theorem flat_strs (us : List Str) : (us.map V.str).all flatV = true := by
  rw [List.all_eq_true]
  intro v hv
  obtain ⟨x, _, rfl⟩ := List.mem_map.mp hv
  rfl
theorem nodup_le {α : Type} [DecidableEq α] : ∀ (l m : List α), l.Nodup → (∀ x ∈ l, x ∈ m) → l.length ≤ m.length
  | [], _, _, _ => Nat.zero_le _
  | a :: l, m, hn, hs => by
    rw [List.nodup_cons] at hn
    have ha : a ∈ m := hs a (List.mem_cons_self ..)
    have ih := nodup_le l (m.erase a) hn.2 fun x hx => by
      have hne : x ≠ a := fun q => hn.1 (q ▸ hx)
      exact (List.mem_erase_of_ne hne).mpr (hs x (List.mem_cons_of_mem _ hx))
    rw [List.length_erase_of_mem ha] at ih
    have hp : 0 < m.length := List.length_pos_of_mem ha
    rw [List.length_cons]
    omega
theorem one_app_inj {c d : Nat} {z : Str} (h : (⟨#[c]⟩ : Str) ++ z = (⟨#[d]⟩ : Str) ++ z) : c = d := by
  have h1 : (#[c] ++ z.cps) = (#[d] ++ z.cps) := congrArg Str.cps h
  have h2 := congrArg Array.toList h1
  rw [Array.toList_append, Array.toList_append] at h2
  have h3 : c :: z.cps.toList = d :: z.cps.toList := h2
  exact (List.cons.inj h3).1
/-- a letter is left -/
theorem letter_left {z : Str} {us : List Str} (hu : us.length < 26) (h : ∀ c ∈ abc.cps.toList, (⟨#[c]⟩ : Str) ++ z ∈ us) : False := by
  have h1 := nodup_le (abc.cps.toList.map fun c => (⟨#[c]⟩ : Str) ++ z) us ?_ ?_
  · rw [List.length_map, Array.length_toList, abc_size] at h1
    omega
  · rw [List.nodup_iff_pairwise_ne, List.pairwise_map]
    refine (List.nodup_iff_pairwise_ne.mp abc_nd).imp fun {a b} hab q => hab (one_app_inj q)
  · intro x hx
    obtain ⟨c, hc, rfl⟩ := List.mem_map.mp hx
    exact h c hc
theorem line26 : (26 : Nat) < sizeLine := by decide
theorem line1000 {n : Nat} (h : n ≤ 1000) : n ≤ sizeLine := Nat.le_of_lt (small1000 h)

theorem But.seq {K : PySem.W.Frag} {p : Addr} {H H' : Hp} {a : Addr} {xs : List V} (e : But p H H') (n : a ≠ p) (h : SqL K H a xs) : SqL K H' a xs := by
  rcases h with (h | ⟨o, h⟩) | h
  · exact .inl (.inl (e _ _ n h))
  · exact .inl (.inr ⟨o, e _ _ n h⟩)
  · exact .inr h

section
variable {P : Program} {w : World} {K : PySem.W.Frag} {mg : Str → Option Value} {base : Heap}
def spWord (K : PySem.W.Frag) : Sp := fun vs H Q _ => ∃ (p u : Addr) (us : List Str), vs = [.ref p, .ref u] ∧ Purse H p ∧ u ≠ p ∧ SqL K H u (us.map V.str) ∧ us.length < 26 ∧ ∀ (z : Str) (H' : Hp), Nm z → But p H H' → Purse H' p → Q (.str z) H'
abbrev nWord : List Str := ["_law_purse_here", "_law_used", "_law_menu", "_law_word_here", "_law_k", "_law_first", "_law_a"]
abbrev rCatS2 : R2 := fun x y H Q => ∃ i j, x = .str i ∧ y = .str j ∧ i.length + j.length ≤ sizeLine ∧ Q (.str (i ++ j)) H
abbrev tWordIn (K : PySem.W.Frag) : TT := tTest (tOp (rIn K true) (tOp rCatS2 (tVar 6) (tSl rSlS (tVar 3) tNoPart (tPart (tC (.int 5))))) (tVar 1))
theorem scWord : FnScope nWord ["_law_purse_here", "_law_used"] (defScope sWord) := ⟨rfl, rfl, rfl, by decide +kernel, rfl, by decide +kernel, by decide +kernel⟩
theorem has_word (B : Bl mg) (T : Has P w K mg base 1 "_law_take" ["_law_purse_here", "_law_many"] spTake) (D : DefAt K mg "_law_word" sWord ["_law_purse_here", "_law_used"]) : Has P w K mg base 2 "_law_word" ["_law_purse_here", "_law_used"] (spWord K) := by
  refine .of D fun f fd F => F.ok scWord (fun vs H Q E h => ?_) (fun cdv A outer s H vs Q E hr h => ?_)
  · obtain ⟨p, u, us, rfl, _⟩ := h
    rfl
  · obtain ⟨p, u, us, rfl, hP, hup, hU, hlen, q⟩ := h
    refine ⟨_, pss_cons (ps_set (i := 2) scWord.nd rfl (.inl rfl) (pe_lst (pa_cons pe_str (pa_cons pe_str (pa_cons pe_str (pa_cons pe_str (pa_cons pe_str (pa_cons pe_str (pa_cons pe_str (pa_cons pe_str (pa_cons pe_str (pa_cons pe_str (pa_cons pe_str (pa_cons pe_str pa_nil))))))))))))))
      (pss_cons (ps_set (i := 3) scWord.nd rfl (.inr rfl) (pe_ix ix_list (pv 2) (pe_has T hr (pa_cons (pv 0) (pa_cons pe_int pa_nil))) (fun _ _ => rfl)))
      (pss_cons (ps_if (pt_cmpR op_gt (pe_has T hr (pa_cons (pv 0) (pa_cons pe_int pa_nil))) pe_int (nomark _))
        (pss_cons (ps_set (i := 3) scWord.nd rfl (.inr rfl) pe_str)
        (pss_one (ps_for PassesOwn.never rfl (pi_range1 rfl B.range (pa_cons (pe_op op_add pe_int (pe_has T hr (pa_cons (pv 0) (pa_cons pe_int pa_nil)))) pa_nil)) (pg_name (i := 4) scWord.nd rfl (.inl rfl))
          (pss_one (ps_set (i := 3) scWord.nd rfl (.inr rfl) (pe_op op_add_str (pv 3) (pe_ix ix_str pe_str (pe_has T hr (pa_cons (pv 0) (pa_cons pe_int pa_nil))) (fun _ _ => rfl)))))))) pss_nil)
      (pss_cons (ps_if (pt_cmpR op_notIn_seq (pv 3) (pv 1) (by rfl)) (pss_one (ps_ret (pv 3))) pss_nil)
      (pss_cons (ps_setLc (i := 5) (own := [("_law_a", 6)]) (g := gName 6) (tt := tWordIn K) (by rfl) scWord.nd rfl rfl (sw_true rfl rfl rfl (by decide +kernel)) (pi_str pe_str) (blkOk_by (N := nWord) (sc := defScope sWord) (by decide +kernel)) (fun _ _ _ _ _ => pg_name (i := 6) scWord.nd rfl (Or.inl rfl))
          (fun _ _ _ _ _ => pts_one (pt_cmpR op_notIn_seq (pe_op op_add_str (pv 6) (pe_slice sl_str (pv 3) po_none (po_some pe_int))) (pv 1) (by rfl))) (fun _ _ _ _ _ => pv 6))
      (pss_one (ps_ret (pe_op op_add_str (pe_ix ix_list (pv 5) pe_int (fun _ _ => rfl)) (pe_slice sl_str (pv 3) po_none (po_some pe_int))))))))), ?_⟩
    -- the menu
    refine ⟨(by show 12 ≤ sizeLine; decide), fun l hl => ?_⟩
    generalize hH1 : upd H l _ = H1
    have hl1 : H1 l = some (.lst (menuL.map V.str)) := by rw [← hH1]; exact upd_same
    have s1 : Same H H1 := by rw [← hH1]; exact Same.upd hl
    obtain ⟨a0, b0, c0, hp0⟩ := id hP
    have npl : l ≠ p := fun z => by rw [z, hp0] at hl; cases hl
    have P1 : Purse H1 p := ⟨a0, b0, c0, s1 _ _ hp0⟩
    -- the first word
    refine ⟨_, rfl, _, rfl, p, 12, rfl, P1, by decide, by decide, fun r H2 r0 r1 b2 P2 => ?_⟩
    have hr12 : r.toNat < menuL.length := by rw [menu_len]; omega
    have hl2 : H2 l = some (.lst (menuL.map V.str)) := b2 _ _ npl hl1
    have b2' : But p H H2 := (But.of s1).trans b2
    refine ⟨l, _, r, .str menuL[r.toNat], rfl, rfl, SqL.of hl2, at_of (j := r.toNat) (by omega) (by rw [List.getElem?_map, List.getElem?_eq_getElem hr12]; rfl), ?_⟩
    have hz0 : Nm menuL[r.toNat] := menu_nm _ (List.getElem_mem hr12)
    generalize menuL[r.toNat] = z0 at hz0
    -- what stands behind the second test
    have rest : ∀ (z : Str) (v4 : Option V) (H3 : Hp), Nm z → But p H H3 → Purse H3 p →
        (tSeq (tIfS (tTest (tOp (rIn K true) (tVar 3) (tVar 1))) (tRet (tVar 3)) tNext) (tSeq (tAsg (tLc (iStr (tC (.str abc))) (gName 6) (tWordIn K) (tVar 6) [6]) (gName 5))
          (tRet (tOp rCatS2 (tOp (rIxL K) (tVar 5) (tC (.int 0))) (tSl rSlS (tVar 3) tNoPart (tPart (tC (.int 5)))))))) { nx := fun _ H' => Q .non H', rt := Q } [some (.ref p), some (.ref u), some (.ref l), some (.str z), v4, none, none] H3 := by
      intro z v4 H3 hz b3 P3
      have hU3 : SqL K H3 u (us.map V.str) := b3.seq hup hU
      refine ⟨_, rfl, _, rfl, u, _, rfl, .inl hU3, rfl, flat_strs us, _, rfl, ite2 (fun _ => ?_) (fun e => ?_)⟩
      · exact ⟨_, rfl, q z H3 hz b3 P3⟩
      · -- the letters
        refine ⟨abc, rfl, fun Dd hD => ?_⟩
        have nup : Dd ≠ u → True := fun _ => trivial
        have sD : Same H3 (upd H3 Dd (.lst [])) := Same.upd hD
        have z5 : (cutS z none (some 5)).length ≤ 5 := cut5_len z
        refine lc_it (walk_str (z := abc)) (fun i H' => ∃ acc : List Str, H' = upd H3 Dd (.lst (acc.map V.str)) ∧ acc.length ≤ i ∧ (∀ x ∈ acc, x.length = 1 ∧ PyData.strOk x = true) ∧ (acc = [] → ∀ c ∈ abc.cps.toList.take i, (⟨#[c]⟩ : Str) ++ cutS z none (some 5) ∈ us))
          ⟨[], rfl, Nat.le_refl _, (fun x hx => nomatch hx), (fun _ c hc => by simp at hc)⟩ (fun _ _ _ _ => trivial) ?_ ?_
        · rintro i x H' H'' hi ⟨acc, rfl, ha, hok, hno⟩ ⟨rfl, c, hc, rfl⟩
          rw [abc_size] at hi
          have hcm : c ∈ abc.cps.toList := by
            rw [Array.mem_toList_iff]
            exact Array.mem_of_getElem? hc
          have hct : abc.cps.toList[i]? = some c := by rw [Array.getElem?_toList]; exact hc
          have sD' : Same H3 (upd H3 Dd (.lst (acc.map V.str))) := Same.upd hD
          refine ⟨rfl, _, rfl, _, rfl, _, rfl, z, rfl, ?_, _, _, rfl, rfl, ?_, _, rfl, u, _, rfl, .inl (sD'.seq hU3), rfl, flat_strs us, _, rfl, ?_⟩
          · exact line1000 (by have := hz.1; omega)
          · refine line1000 ?_
            show 1 + (cutS z none (some 5)).length ≤ 1000
            omega
          · show (if (!inV (V.str ((⟨#[c]⟩ : Str) ++ cutS z none (some 5))) (us.map V.str)) = true then _ else _)
            rw [inV_str]
            refine ite2 (fun _ => ?_) (fun e2 => ?_)
            · refine ⟨_, rfl, acc.map V.str, upd_same, by rw [List.length_map]; exact Nat.lt_of_le_of_lt ha (Nat.lt_trans hi line26), acc ++ [⟨#[c]⟩], ?_, ?_, ?_, ?_⟩
              · rw [upd_upd, List.map_append]
                rfl
              · rw [List.length_append, List.length_singleton]
                omega
              · intro x hx
                rcases List.mem_append.mp hx with h1 | h1
                · exact hok x h1
                · rw [List.mem_singleton] at h1
                  subst h1
                  exact ⟨rfl, abc_ok c hcm⟩
              · exact fun e3 => absurd e3 (snoc_ne _ _)
            · have hm : (⟨#[c]⟩ : Str) ++ cutS z none (some 5) ∈ us := by simpa using e2
              refine ⟨acc, rfl, by omega, hok, fun e3 d hd => ?_⟩
              rw [List.take_add_one, hct] at hd
              rcases List.mem_append.mp hd with h1 | h1
              · exact hno e3 d h1
              · have : d = c := by simpa using h1
                subst this
                exact hm
        · rintro H' ⟨acc, rfl, ha, hok, hno⟩
          cases acc with
          | nil =>
            refine absurd (fun c hc => hno rfl c ?_) (fun hh => letter_left hlen hh)
            rw [List.take_of_length_le (by rw [Array.length_toList]; exact Nat.le_refl _)]
            exact hc
          | cons y acc =>
            obtain ⟨y1, y2⟩ := hok y (List.mem_cons_self ..)
            have sD' : But p H3 (upd H3 Dd (.lst ((y :: acc).map V.str))) := But.of (Same.upd hD)
            obtain ⟨a3, b3', c3, hp3⟩ := id P3
            refine ⟨_, rfl, Dd, _, 0, .str y, rfl, rfl, SqL.of upd_same, atI_nat (j := 0) rfl, _, rfl, 5, rfl, z, rfl, ?_, _, _, rfl, rfl, ?_, ?_⟩
            · exact line1000 (by have := hz.1; omega)
            · exact line1000 (by omega)
            · refine q _ _ ⟨?_, strOk_app y2 (cut5_ok hz.2)⟩ (b3.trans sD') ⟨a3, b3', c3, Same.upd hD _ _ hp3⟩
              rw [str_len_app]
              omega
    -- if take(5) > 0
    refine ⟨_, rfl, p, 5, rfl, P2, by decide, by decide, fun r3 H3 _ _ b3 P3 => ?_⟩
    have b3' : But p H H3 := b2'.trans b3
    refine ⟨_, _, rfl, rfl, _, rfl, ite2 (fun _ => ?_) (fun _ => ?_)⟩
    · refine ⟨_, rfl, p, 6, rfl, P3, by decide, by decide, fun r4 H4 r40 r41 b4 P4 => ?_⟩
      refine ⟨1, r4, rfl, rfl, 1 + r4, rfl, by omega, by omega, ?_⟩
      refine for_range (n := (1 + r4).toNat) (fun i σ H' => ∃ (z : Str) (v4 : Option V), σ = [some (.ref p), some (.ref u), some (.ref l), some (.str z), v4, none, none] ∧ z.length ≤ i ∧ PyData.strOk z = true ∧ But p H H' ∧ Purse H' p)
        ⟨"", none, rfl, by decide, by decide +kernel, b3'.trans b4, P4⟩ ?_ ?_
      · rintro i σ H' hi ⟨z, v4, rfl, hz1, hz2, b5, P5⟩
        refine ⟨_, rfl, _, rfl, p, 26, rfl, P5, by decide, by decide, fun r6 H6 r60 r61 b6 P6 => ?_⟩
        have hr26 : r6.toNat < abc.cps.toList.length := by rw [Array.length_toList, abc_size]; omega
        refine ⟨abc, r6, abc.cps.toList[r6.toNat], rfl, rfl, ?_, ?_, z, _, rfl, rfl, ?_, ?_⟩
        · exact line1000 (show abc.cps.size ≤ 1000 by rw [abc_size]; decide)
        · have e := atI_nat (List.getElem?_eq_getElem hr26)
          have e2 : ((r6.toNat : Nat) : Int) = r6 := by omega
          rw [e2] at e
          exact e
        · refine line1000 ?_
          show z.length + 1 ≤ 1000
          omega
        · refine ⟨_, _, rfl, ?_, strOk_app hz2 (abc_ok _ (List.getElem_mem hr26)), b5.trans b6, P6⟩
          rw [str_len_app]
          show z.length + 1 ≤ i + 1
          omega
      · rintro σ H' ⟨z, v4, rfl, hz1, hz2, b5, P5⟩
        exact rest z v4 H' ⟨by omega, hz2⟩ b5 P5
    · exact rest z0 none H3 hz0 b3' P3

/-! ### the words -/
def spWords (K : PySem.W.Frag) : Sp := fun vs H Q _ => ∃ (p u : Addr) (m : Int), vs = [.ref p, .int m, .ref u] ∧ Purse H p ∧ H u = some (.lst []) ∧ 0 ≤ m ∧ m ≤ 20 ∧
  ∀ (l : Addr) (us : List Str) (H' : Hp), (us.length : Int) = m → (∀ z ∈ us, Nm z) → But p H H' → Purse H' p → l ≠ p → H' l = some (.lst (us.map V.str)) → H l = none → Q (.ref l) H'
theorem scWords : FnScope ["_law_purse_here", "_law_many", "_law_used", "_law_words_here", "_law_k"] ["_law_purse_here", "_law_many", "_law_used"] (defScope sWords) := ⟨rfl, rfl, rfl, by decide +kernel, rfl, by decide +kernel, by decide +kernel⟩
theorem has_words (B : Bl mg) (T : Has P w K mg base 2 "_law_word" ["_law_purse_here", "_law_used"] (spWord K)) (D : DefAt K mg "_law_words" sWords ["_law_purse_here", "_law_many", "_law_used"]) : Has P w K mg base 3 "_law_words" ["_law_purse_here", "_law_many", "_law_used"] (spWords K) := by
  refine .of D fun f fd F => F.ok scWords (fun vs H Q E h => ?_) (fun cdv A outer s H vs Q E hr h => ?_)
  · obtain ⟨p, u, m, rfl, _⟩ := h
    rfl
  · obtain ⟨p, u, m, rfl, hP, hU, m0, m1, q⟩ := h
    refine ⟨_, pss_cons (ps_set (i := 3) scWords.nd rfl (.inl rfl) (pe_lst pa_nil))
      (pss_cons (ps_for PassesOwn.never rfl (pi_range1 rfl B.range (pa_cons (pv 1) pa_nil)) (pg_name (i := 4) scWords.nd rfl (.inl rfl))
        (pss_one (ps_expr (pe_bm PySem.F.plainAttrs_list PySem.F.slot_list_append PySem.F.type_list_append mt_append (pv 3) (pa_cons (pe_has T hr (pa_cons (pv 0) (pa_cons (pe_op op_cat (pv 2) (pv 3)) pa_nil))) pa_nil)))))
      (pss_one (ps_ret (pv 3)))), ?_⟩
    refine ⟨Nat.zero_le _, fun l hl => ?_⟩
    obtain ⟨a0, b0, c0, hp0⟩ := id hP
    have npl : l ≠ p := fun z => by rw [z, hp0] at hl; cases hl
    have npu : u ≠ p := fun z => by
      rw [z, hp0] at hU
      cases hU
    have nul : u ≠ l := ne_of_none hU hl
    have s1 : Same H (upd H l (.lst [])) := Same.upd hl
    refine ⟨_, rfl, m, rfl, by omega, by omega, ?_⟩
    refine for_range (n := m.toNat) (fun i σ H' => ∃ (us : List Str) (v4 : Option V), σ = [some (.ref p), some (.int m), some (.ref u), some (.ref l), v4] ∧ us.length = i ∧ (∀ z ∈ us, Nm z) ∧ But p H H' ∧ Purse H' p ∧ H' l = some (.lst (us.map V.str)))
      ⟨[], none, rfl, rfl, (fun z hz => nomatch hz), But.of s1, ⟨a0, b0, c0, s1 _ _ hp0⟩, upd_same⟩ ?_ ?_
    · rintro i σ H' hi ⟨us, v4, rfl, hi2, hnm, b1, P1, hl1⟩
      have hu1 : H' u = some (.lst []) := b1 _ _ npu hU
      have hz1 : ([] : List V).length + (us.map V.str).length ≤ sizeLine := line1000 (by rw [List.length_map, List.length_nil]; omega)
      refine ⟨_, rfl, .inl ⟨rfl, _, SqL.of hl1⟩, _, rfl, _, rfl, _, rfl, u, l, _, _, rfl, rfl, hu1, hl1, hz1, fun g hg => ?_⟩
      have nlg : l ≠ g := ne_of_none hl1 hg
      obtain ⟨a1, b1', c1, hp1⟩ := id P1
      have npg : g ≠ p := fun z => by rw [z, hp1] at hg; cases hg
      have sg : Same H' (upd H' g (.lst ([] ++ us.map V.str))) := Same.upd hg
      refine ⟨p, g, us, rfl, ⟨a1, b1', c1, sg _ _ hp1⟩, npg, SqL.of upd_same, by omega, fun z H2 hz b2 P2 => ?_⟩
      have hl2 : H2 l = some (.lst (us.map V.str)) := b2 _ _ npl (sg _ _ hl1)
      refine ⟨l, _, .str z, rfl, rfl, hl2, by rw [List.length_map]; exact small1000 (by omega), ?_⟩
      refine ⟨us ++ [z], _, rfl, by rw [List.length_append, List.length_singleton, hi2], fun x hx => ?_, fun b o nb e => ?_, ?_, ?_⟩
      · rcases List.mem_append.mp hx with h1 | h1
        · exact hnm x h1
        · rw [List.mem_singleton] at h1
          rw [h1]
          exact hz
      · have nbl : b ≠ l := ne_of_none e hl
        rw [upd_ne nbl]
        exact b2 _ _ nb (sg _ _ (b1 _ _ nb e))
      · obtain ⟨a2, b2', c2, hp2⟩ := P2
        exact ⟨a2, b2', c2, by rw [upd_ne (Ne.symm npl)]; exact hp2⟩
      · rw [upd_same, List.map_append]
        rfl
    · rintro σ H' ⟨us, v4, rfl, hi2, hnm, b1, P1, hl1⟩
      exact ⟨_, rfl, q l us H' (by omega) hnm b1 P1 npl hl1 hl⟩
end
end Wr

namespace Wr
open PySem L2

/-! ### two lists side by side -/
section
variable {α β : Type} {F G : α → β → Prop}
theorem pr_at : ∀ {as : List α} {bs : List β} {i : Nat} {b : β}, Paired F as bs → bs[i]? = some b → ∃ a, as[i]? = some a ∧ F a b
  | _, _, _, _, .nil, e => by simp at e
  | _, _, 0, _, .cons r _, e => by
    simp at e
    subst e
    exact ⟨_, rfl, r⟩
  | _, _, i + 1, b, .cons _ t, e => by
    obtain ⟨a, h1, h2⟩ := pr_at (i := i) (b := b) t (by simpa using e)
    exact ⟨a, by simpa using h1, h2⟩
theorem pr_at2 : ∀ {as : List α} {bs : List β} {i : Nat} {a : α}, Paired F as bs → as[i]? = some a → ∃ b, bs[i]? = some b ∧ F a b
  | _, _, _, _, .nil, e => by simp at e
  | _, _, 0, _, .cons r _, e => by
    simp at e
    subst e
    exact ⟨_, rfl, r⟩
  | _, _, i + 1, a, .cons _ t, e => by
    obtain ⟨b, h1, h2⟩ := pr_at2 (i := i) (a := a) t (by simpa using e)
    exact ⟨b, by simpa using h1, h2⟩
theorem pr_take : ∀ {as : List α} {bs : List β} (n : Nat), Paired F as bs → Paired F (as.take n) (bs.take n)
  | _, _, 0, _ => by
    rw [List.take_zero, List.take_zero]
    exact .nil
  | _, _, n + 1, .nil => by
    rw [List.take_nil, List.take_nil]
    exact .nil
  | _, _, n + 1, .cons r t => by
    rw [List.take_succ_cons, List.take_succ_cons]
    exact .cons r (pr_take n t)
theorem pr_app : ∀ {as cs : List α} {bs ds : List β}, Paired F as bs → Paired F cs ds → Paired F (as ++ cs) (bs ++ ds)
  | _, _, _, _, .nil, h => h
  | _, _, _, _, .cons r t, h => .cons r (pr_app t h)
end

/-! ### slices of tuples -/
theorem cut_to {α : Type} (f : α → V) (xs : List α) {n : Int} (h : 0 ≤ n) : cutV (xs.map f) none (some n) = (xs.take n.toNat).map f := by
  unfold cutV
  have e : n = ((n.toNat : Nat) : Int) := by omega
  rw [e, HT.sIx_nat, HT.sIx_none, Int.toNat_natCast, List.drop_zero, Nat.sub_zero, ← List.map_take, List.length_map]
  by_cases hl : n.toNat ≤ xs.length
  · rw [Nat.min_eq_left hl]
  · rw [Nat.min_eq_right (by omega), List.take_of_length_le (Nat.le_refl _), List.take_of_length_le (by omega)]
theorem cut_whole {α : Type} (f : α → V) (xs : List α) {n : Int} (h : 0 ≤ n) (w : HT.sIx (xs.map f).length (xs.map f).length (some n) = (xs.map f).length) : xs.take n.toNat = xs := by
  have e : n = ((n.toNat : Nat) : Int) := by omega
  rw [e, HT.sIx_nat, List.length_map] at w
  exact List.take_of_length_le (by omega)
theorem cut_last {α : Type} (f : α → V) (xs : List α) : cutV (xs.map f) none (some (-1)) = (xs.dropLast).map f := by
  unfold cutV
  have e : HT.sIx (xs.map f).length (xs.map f).length (some (-1)) = xs.length - 1 := by
    rw [List.length_map]
    show (if (-1 : Int) < 0 then ((-1 : Int) + (xs.length : Int)).toNat else min (-1 : Int).toNat xs.length) = xs.length - 1
    rw [if_pos (by decide)]
    omega
  rw [e, HT.sIx_none, List.drop_zero, Nat.sub_zero, ← List.map_take, List.dropLast_eq_take]
theorem cut_last_whole {α : Type} (f : α → V) (xs : List α) (w : HT.sIx (xs.map f).length (xs.map f).length (some (-1)) = (xs.map f).length) : xs.dropLast = xs := by
  rw [List.length_map] at w
  have w' : ((-1 : Int) + (xs.length : Int)).toNat = xs.length := by
    have h : (if (-1 : Int) < 0 then ((-1 : Int) + (xs.length : Int)).toNat else min (-1 : Int).toNat xs.length) = xs.length := w
    rw [if_pos (by decide)] at h
    exact h
  have h0 : xs.length = 0 := by omega
  have : xs = [] := List.length_eq_zero_iff.mp h0
  subst this
  rfl
theorem cut_from1 (xs : List V) : cutV xs (some 1) none = xs.drop 1 := by
  unfold cutV
  rw [show (some (1 : Int)) = some ((1 : Nat) : Int) from rfl, HT.sIx_nat, HT.sIx_none]
  cases xs with
  | nil => rfl
  | cons x r =>
    rw [Nat.min_eq_left (by simp)]
    exact List.take_of_length_le (by simp)

/-! ### stories on the heap -/
def StoryAt (K : PySem.W.Frag) (H : Hp) (b : Addr) (s : Story) : Prop := ∃ as : List Addr, SqT K H b (as.map V.ref) ∧ Paired (fun (a : Addr) (p : Dd) => SqT K H a [.str p.1, .str p.2]) as s
section
variable {K : PySem.W.Frag} {H H' : Hp} {b : Addr} {s : Story}
theorem StoryAt.mono (h : StoryAt K H b s) (m : ∀ a xs, SqT K H a xs → SqT K H' a xs) : StoryAt K H' b s := by
  obtain ⟨as, h1, h2⟩ := h
  exact ⟨as, m _ _ h1, Paired.mono (fun a p q => m _ _ q) h2⟩
theorem StoryAt.same (h : StoryAt K H b s) (e : Same H H') : StoryAt K H' b s := h.mono fun _ _ q => same_tup e q
theorem StoryAt.but {p : Addr} {u : List V} (h : StoryAt K H b s) (e : But p H H') (hp : H p = some (.lst u)) : StoryAt K H' b s :=
  h.mono fun _ _ q => e.tup hp (fun _ z => nomatch z) (fun _ _ z => nomatch z) q
theorem StoryAt.nil (h : H b = some (.tup [])) : StoryAt K H b [] := ⟨[], SqT.of h, .nil⟩
/-- its length, as the program sees it -/
theorem StoryAt.seq (h : StoryAt K H b s) : ∃ xs : List V, SqT K H b xs ∧ xs.length = s.length := by
  obtain ⟨as, h1, h2⟩ := h
  exact ⟨_, h1, by rw [List.length_map, Paired.length h2]⟩
theorem StoryAt.item (h : StoryAt K H b s) {i : Nat} {p : Dd} (hi : s[i]? = some p) : ∃ (xs : List V) (a : Addr), SqT K H b xs ∧ xs[i]? = some (.ref a) ∧ SqT K H a [.str p.1, .str p.2] := by
  obtain ⟨as, h1, h2⟩ := h
  obtain ⟨a, e, q⟩ := pr_at h2 hi
  exact ⟨_, a, h1, by rw [List.getElem?_map, e]; rfl, q⟩
/-- b[:n] -/
theorem StoryAt.cut (h : StoryAt K H b s) {n : Int} (hn : 0 ≤ n) {Q : VK} (q : ∀ (c : Addr) (H' : Hp), Same H H' → StoryAt K H' c (s.take n.toNat) → Q (.ref c) H') : rSlA K (.ref b) none (some n) H Q := by
  obtain ⟨as, h1, h2⟩ := h
  refine ⟨b, _, rfl, h1, fun w => ?_, fun _ p hp => ?_⟩
  · have e := cut_whole V.ref as hn w.2
    refine q b H (Same.refl H) ?_
    have h3 := pr_take n.toNat h2
    rw [e] at h3
    exact ⟨as, h1, h3⟩
  · rw [cut_to V.ref as hn]
    refine q p _ (Same.upd hp) ⟨as.take n.toNat, SqT.of upd_same, ?_⟩
    exact Paired.mono (fun a z r => same_tup (Same.upd hp) r) (pr_take n.toNat h2)
/-- b[:-1] -/
theorem StoryAt.cutLast (h : StoryAt K H b s) {Q : VK} (q : ∀ (c : Addr) (H' : Hp), Same H H' → StoryAt K H' c s.dropLast → Q (.ref c) H') : rSlA K (.ref b) none (some (-1)) H Q := by
  obtain ⟨as, h1, h2⟩ := h
  have hl := Paired.length h2
  have h3 := pr_take (s.length - 1) h2
  have e1 : as.take (s.length - 1) = as.dropLast := by rw [List.dropLast_eq_take, hl]
  have e2 : s.take (s.length - 1) = s.dropLast := by rw [List.dropLast_eq_take]
  rw [e1, e2] at h3
  refine ⟨b, _, rfl, h1, fun w => ?_, fun _ p hp => ?_⟩
  · have e := cut_last_whole V.ref as w.2
    rw [e] at h3
    exact q b H (Same.refl H) ⟨as, h1, h3⟩
  · rw [cut_last V.ref as]
    exact q p _ (Same.upd hp) ⟨as.dropLast, SqT.of upd_same, Paired.mono (fun a z r => same_tup (Same.upd hp) r) h3⟩
/-- b + c -/
theorem StoryAt.cat {c : Addr} {t : Story} (h : StoryAt K H b s) (h' : StoryAt K H c t) (hz : s.length + t.length ≤ sizeLine) {Q : VK} (q : ∀ (d : Addr) (H' : Hp), Same H H' → StoryAt K H' d (s ++ t) → Q (.ref d) H') : rCatA K (.ref b) (.ref c) H Q := by
  obtain ⟨as, h1, h2⟩ := h
  obtain ⟨cs, h3, h4⟩ := h'
  have l1 := Paired.length h2
  have l2 := Paired.length h4
  refine ⟨b, c, _, _, rfl, rfl, h1, h3, by rw [List.length_map, List.length_map, l1, l2]; exact hz, fun e => ?_, fun _ e => ?_, fun _ _ p hp => ?_⟩
  · have e1 : as = [] := List.map_eq_nil_iff.mp e
    subst e1
    cases h2
    exact q c H (Same.refl H) ⟨cs, h3, h4⟩
  · have e1 : cs = [] := List.map_eq_nil_iff.mp e
    subst e1
    cases h4
    rw [List.append_nil] at q
    exact q b H (Same.refl H) ⟨as, h1, h2⟩
  · rw [← List.map_append]
    exact q p _ (Same.upd hp) ⟨as ++ cs, SqT.of upd_same, Paired.mono (fun a z r => same_tup (Same.upd hp) r) (pr_app h2 h4)⟩
end

section
variable {P : Program} {w : World} {K : PySem.W.Frag} {mg : Str → Option Value} {base : Heap}
/-! ### the law's fields -/
def spFld (K : PySem.W.Frag) : Sp := fun vs H Q _ => ∃ (b : Addr) (s : Story), vs = [.ref b] ∧ StoryAt K H b s ∧ s.length ≤ 100 ∧
  ∀ (p : Addr) (H' : Hp), Same H H' → H p = none → H' p = some (.tup ((lf s).map V.str)) → Q (.ref p) H'
abbrev nFld : List Str := ["_law_story_here", "_law_fields_here", "_law_deed", "_law_field", "_law_one"]
theorem scFld : FnScope nFld ["_law_story_here"] (defScope sFld) := ⟨rfl, rfl, rfl, by decide +kernel, rfl, by decide +kernel, by decide +kernel⟩
theorem has_fld (B : Bl mg) (D : DefAt K mg "_law_fields" sFld ["_law_story_here"]) : Has P w K mg base 1 "_law_fields" ["_law_story_here"] (spFld K) := by
  refine .of D fun f fd F => F.ok scFld (fun vs H Q E h => ?_) (fun cdv A outer s H vs Q E hr h => ?_)
  · obtain ⟨b, s, rfl, _⟩ := h
    rfl
  · obtain ⟨b, z, rfl, hS, hlen, q⟩ := h
    obtain ⟨as, hb, hp⟩ := id hS
    have hl := Paired.length hp
    refine ⟨_, pss_cons (ps_set (i := 1) scFld.nd rfl (.inl rfl) (pe_lst pa_nil))
      (pss_cons (ps_for PassesOwn.never rfl (pi_tup (pv 0)) (pg_tup rfl (pgs_cons (pg_name (i := 2) scFld.nd rfl (.inl rfl)) (pgs_cons (pg_name (i := 3) scFld.nd rfl (.inr rfl)) pgs_nil)))
        (pss_cons (ps_setLc (i := 1) (own := [("_law_one", 4)]) (g := gName 4) (tt := tTest (tOp rNe (tVar 4) (tVar 3))) (by rfl) scFld.nd rfl rfl (sw_true rfl rfl rfl (by decide +kernel)) (pi_list (pv 1)) (blkOk_by (N := nFld) (sc := defScope sFld) (by decide +kernel)) (fun _ _ _ _ _ => pg_name (i := 4) scFld.nd rfl (Or.inl rfl))
            (fun _ _ _ _ _ => pts_one (pt_cmpR op_ne (pv 4) (pv 3) (nomark _))) (fun _ _ _ _ _ => pv 4))
        (pss_one (ps_if (pt_cmpR op_eq (pv 2) pe_str (nomark _)) (pss_one (ps_expr (pe_bm PySem.F.plainAttrs_list PySem.F.slot_list_append PySem.F.type_list_append mt_append (pv 1) (pa_cons (pv 3) pa_nil)))) pss_nil))))
      (pss_one (ps_ret (pe_callTy call_tuple_of (by rfl) B.tuple PyProof.Rows.boot_tuple (pa_cons (pv 1) pa_nil))))), ?_⟩
    refine ⟨Nat.zero_le _, fun l hl0 => ?_⟩
    refine ⟨_, rfl, b, rfl, ⟨_, same_tup (Same.upd hl0) hb⟩, ?_⟩
    refine for_tup (K := K) (a := b) (xs := as.map V.ref) (fun i σ H' => ∃ (l : Addr) (v2 v3 : Option V), σ = [some (.ref b), some (.ref l), v2, v3, none] ∧ Same H H' ∧ H l = none ∧ H' l = some (.lst ((lf (z.take i)).map V.str)))
      ⟨l, none, none, rfl, Same.upd hl0, hl0, upd_same⟩ (fun i σ H' _ ⟨_, _, _, _, e, _⟩ => same_tup e hb) ?_ ?_
    · rintro i x σ H' hx ⟨l, v2, v3, rfl, s1, hl1, hl2⟩
      have hi : i < z.length := by
        have q1 := (List.getElem?_eq_some_iff.mp hx).1
        rw [List.length_map, hl] at q1
        exact q1
      obtain ⟨a, ea, ha⟩ := pr_at hp (List.getElem?_eq_getElem hi)
      rw [List.getElem?_map, ea] at hx
      obtain rfl := Option.some.inj hx
      refine ⟨a, _, rfl, same_tup s1 ha, rfl, _, _, rfl, _, _, rfl, rfl, ?_⟩
      have hacc : (lf (z.take i)).length ≤ 100 := Nat.le_trans (lf_len _) (by rw [List.length_take]; omega)
      have hstep : lf (z.take (i + 1)) = lf1 (lf (z.take i)) z[i] := by
        rw [List.take_add_one, List.getElem?_eq_getElem hi]
        exact lf_snoc _ _
      generalize hac : lf (z.take i) = acc at hl2 hacc hstep
      -- the comprehension
      refine ⟨_, rfl, l, rfl, ⟨_, SqL.of hl2⟩, fun Dd hD => ?_⟩
      have nlD : l ≠ Dd := ne_of_none hl2 hD
      refine lc_list (K := K) (a := l) (xs := acc.map V.str) (fun j H'' => H'' = upd H' Dd (.lst (((acc.take j).filter fun y => !decide (y = z[i].2)).map V.str))) (by simp) (fun j H'' _ e => by rw [e]; exact SqL.of (by rw [upd_ne nlD]; exact hl2)) ?_ ?_
      · rintro j x H'' hx rfl
        rw [List.getElem?_map] at hx
        cases ej : acc[j]? with
        | none => rw [ej] at hx; cases hx
        | some y =>
          rw [ej] at hx
          obtain rfl := Option.some.inj hx
          have hjl := (List.getElem?_eq_some_iff.mp ej).1
          have et : acc.take (j + 1) = acc.take j ++ [y] := by rw [List.take_add_one, ej]; rfl
          have dv : decide (V.str y = V.str z[i].2) = decide (y = z[i].2) := by
            by_cases h : y = z[i].2
            · rw [h, decide_eq_true rfl, decide_eq_true rfl]
            · rw [decide_eq_false h, decide_eq_false fun q => h (V.str.inj q)]
          refine ⟨rfl, _, rfl, _, rfl, rfl, _, rfl, ?_⟩
          show (if (!decide (V.str y = V.str z[i].2)) = true then _ else _)
          rw [dv]
          refine ite2 (fun e => ?_) (fun e => ?_)
          · refine ⟨_, rfl, _, upd_same, ?_, ?_⟩
            · rw [List.length_map]
              exact small1000 (Nat.le_trans (List.length_filter_le _ _) (by rw [List.length_take]; omega))
            · have ey : [y].filter (fun y => !decide (y = z[i].2)) = [y] := by
                exact List.filter_eq_self.mpr fun x hx => by
                  rw [List.mem_singleton] at hx
                  rw [hx]
                  exact e
              rw [upd_upd, et, List.filter_append, ey, List.map_append]
              rfl
          · have e' : (!decide (y = z[i].2)) = false := by simpa using e
            have ey : [y].filter (fun y => !decide (y = z[i].2)) = [] :=
              List.filter_eq_nil_iff.mpr fun x hx => by
                rw [List.mem_singleton] at hx
                rw [hx]
                exact e
            show upd H' Dd _ = _
            rw [et, List.filter_append, ey, List.append_nil]
      · rintro H'' rfl
        rw [List.length_map, List.take_length]
        have hDn : H Dd = none := s1.free hD
        have s2 : Same H (upd H' Dd (.lst ((acc.filter fun y => !decide (y = z[i].2)).map V.str))) := s1.trans (Same.upd hD)
        -- the deed
        refine ⟨_, rfl, rfl, _, rfl, ?_⟩
        have dv : decide (V.str z[i].1 = V.str pu) = decide (z[i].1 = pu) := by
          by_cases h : z[i].1 = pu
          · rw [h, decide_eq_true rfl, decide_eq_true rfl]
          · rw [decide_eq_false h, decide_eq_false fun q => h (V.str.inj q)]
        show (if decide (V.str z[i].1 = V.str pu) = true then _ else _)
        rw [dv]
        refine ite2 (fun e => ?_) (fun e => ?_)
        · have e1 : z[i].1 = pu := of_decide_eq_true e
          refine ⟨_, rfl, .inl ⟨rfl, _, SqL.of upd_same⟩, _, rfl, Dd, _, _, rfl, rfl, upd_same, ?_, ?_⟩
          · rw [List.length_map]
            exact small1000 (Nat.le_trans (List.length_filter_le _ _) (by omega))
          · refine ⟨Dd, _, _, rfl, fun c o ec => ?_, hDn, ?_⟩
            · rw [upd_ne (ne_of_none ec hDn)]
              exact s2 _ _ ec
            · rw [upd_same, hstep]
              unfold lf1
              rw [if_pos e1, List.map_append]
              rfl
        · have e1 : ¬ z[i].1 = pu := of_decide_eq_false (by simpa using e)
          refine ⟨Dd, _, _, rfl, s2, hDn, ?_⟩
          rw [upd_same, hstep]
          unfold lf1
          rw [if_neg e1, List.append_nil]
    · rintro σ H' ⟨l, v2, v3, rfl, s1, hl1, hl2⟩
      rw [List.length_map, hl, List.take_length] at hl2
      refine ⟨_, rfl, l, _, rfl, .inl ⟨SqL.of hl2, fun p hp' => ?_⟩⟩
      exact q p _ (s1.trans (Same.upd hp')) (s1.free hp') upd_same
end
end Wr

namespace Wr
open PySem L2
/-- a good story: due deeds, not too long -/
def GS (s : Story) : Prop := Okay s ∧ s.length ≤ 16
/-- stories stand in the list at l -/
def StoriesAt (K : PySem.W.Frag) (H : Hp) (l : Addr) (ss : List Story) : Prop := ∃ as : List Addr, H l = some (.lst (as.map V.ref)) ∧ Paired (StoryAt K H) as ss
theorem StoriesAt.len {K : PySem.W.Frag} {H : Hp} {l : Addr} {ss : List Story} (h : StoriesAt K H l ss) : ∃ xs : List V, H l = some (.lst xs) ∧ xs.length = ss.length := by
  obtain ⟨as, h1, h2⟩ := h
  exact ⟨_, h1, by rw [List.length_map, Paired.length h2]⟩
theorem StoriesAt.get {K : PySem.W.Frag} {H : Hp} {l : Addr} {ss : List Story} (h : StoriesAt K H l ss) {i : Nat} {s : Story} (hi : ss[i]? = some s) : ∃ (xs : List V) (b : Addr), H l = some (.lst xs) ∧ xs[i]? = some (.ref b) ∧ StoryAt K H b s := by
  obtain ⟨as, h1, h2⟩ := h
  obtain ⟨b, e, q⟩ := pr_at h2 hi
  exact ⟨_, b, h1, by rw [List.getElem?_map, e]; rfl, q⟩
section
variable {P : Program} {w : World} {K : PySem.W.Frag} {mg : Str → Option Value} {base : Heap}
def spStory (K : PySem.W.Frag) : Sp := fun vs H Q _ => ∃ (p n e : Addr) (ns : List Str) (ss : List Story), vs = [.ref p, .ref n, .ref e] ∧ Purse H p ∧ n ≠ p ∧ e ≠ p ∧ SqL K H n (ns.map V.str) ∧ 0 < ns.length ∧ ns.length ≤ 20 ∧ (∀ z ∈ ns, Nm z) ∧
  StoriesAt K H e ss ∧ ss.length ≤ 20 ∧ (∀ s ∈ ss, GS s) ∧ ∀ (b : Addr) (s : Story) (H' : Hp), GS s → StoryAt K H' b s → But p H H' → Purse H' p → Q (.ref b) H'
theorem scStory : FnScope ["_law_purse_here", "_law_names", "_law_elders", "_law_story_here", "_law_elder", "_law_k", "_law_field", "_law_deed"] ["_law_purse_here", "_law_names", "_law_elders"] (defScope sStory) := ⟨rfl, rfl, rfl, by decide +kernel, rfl, by decide +kernel, by decide +kernel⟩
theorem has_story (B : Bl mg) (T : Has P w K mg base 1 "_law_take" ["_law_purse_here", "_law_many"] spTake) (G : Has P w K mg base 1 "_law_fields" ["_law_story_here"] (spFld K))
    (D : DefAt K mg "_law_story" sStory ["_law_purse_here", "_law_names", "_law_elders"]) : Has P w K mg base 2 "_law_story" ["_law_purse_here", "_law_names", "_law_elders"] (spStory K) := by
  refine .of D fun f fd F => F.ok scStory (fun vs H Q E h => ?_) (fun cdv A outer s H vs Q E hr h => ?_)
  · obtain ⟨p, n, e, ns, ss, rfl, _⟩ := h
    rfl
  · obtain ⟨p, n, e, ns, ss, rfl, hP, hnp, hep, hN, n0, n1, hnm, hE, e1, hG, q⟩ := h
    refine ⟨_, (pss_cons (ps_set (i := 3) scStory.nd rfl (.inl rfl) (pe_tup pa_nil))
      (pss_cons (ps_if (pt_cmpR op_gt (pe_callB call_len_seq (by rfl) B.len boot_len (pa_cons (pv 2) pa_nil)) pe_int (nomark _)) (pss_cons (ps_set (i := 4) scStory.nd rfl (.inl rfl) (pe_ix ix_list (pv 2) (pe_has T hr (pa_cons (pv 0) (pa_cons (pe_callB call_len_seq (by rfl) B.len boot_len (pa_cons (pv 2) pa_nil)) pa_nil))) (fun _ _ => rfl)))
      (pss_one (ps_set (i := 3) scStory.nd rfl (.inl rfl) (pe_slice sl_tupA (pv 4) po_none (po_some (pe_has T hr (pa_cons (pv 0) (pa_cons (pe_op op_add (pe_callB call_len_seq (by rfl) B.len boot_len (pa_cons (pv 4) pa_nil)) pe_int) pa_nil)))))))) pss_nil)
      (pss_cons (ps_for PassesOwn.never rfl (pi_range1 rfl B.range (pa_cons (pe_has T hr (pa_cons (pv 0) (pa_cons pe_int pa_nil))) pa_nil)) (pg_name (i := 5) scStory.nd rfl (.inl rfl))
      (pss_cons (ps_set (i := 6) scStory.nd rfl (.inl rfl) (pe_ix ix_list (pv 1) (pe_has T hr (pa_cons (pv 0) (pa_cons (pe_callB call_len_seq (by rfl) B.len boot_len (pa_cons (pv 1) pa_nil)) pa_nil))) (fun _ _ => rfl)))
      (pss_cons (ps_set (i := 7) scStory.nd rfl (.inl rfl) (pe_ix ix_list (pe_lst (pa_cons pe_str (pa_cons pe_str pa_nil))) (pe_callTy call_int1 (by rfl) B.int PyProof.Rows.boot_int (pa_cons (pe_cmpR op_in_seq (pv 6) (pe_has G hr (pa_cons (pv 3) pa_nil)) (by rfl)) pa_nil)) (fun _ _ => rfl)))
      (pss_one (ps_set (i := 3) scStory.nd rfl (.inl rfl) (pe_op op_catA (pv 3) (pe_tup (pa_cons (pe_tup (pa_cons (pv 7) (pa_cons (pv 6) pa_nil))) pa_nil))))))))
      (pss_one (ps_ret (pe_slice sl_tupA (pv 3) po_none (po_some pe_int))))))), ?_⟩
    obtain ⟨a0, b0, c0, hp0⟩ := id hP
    refine ⟨Nat.zero_le _, fun t0 ht0 => ?_⟩
    have s1 : Same H (upd H t0 (.tup [])) := Same.upd ht0
    have npt : p ≠ t0 := ne_of_none hp0 ht0
    generalize hH1 : upd H t0 (.tup []) = H1 at s1
    have ht1 : H1 t0 = some (.tup []) := by rw [← hH1]; exact upd_same
    have P1 : Purse H1 p := ⟨_, _, _, s1 _ _ hp0⟩
    have b1 : But p H H1 := But.of s1
    -- what stands behind the if: a story of at most 16 deeds
    have rest : ∀ (b : Addr) (z : Story) (v4 : Option V) (H2 : Hp), GS z → StoryAt K H2 b z → But p H H2 → Purse H2 p →
        (tSeq (tFor (iRng1 (tCons (tCall spTake [] E0 (tCons (tVar 0) (tCons (tC (.int 9)) tNil))) tNil)) (gName 5)
          (tSeq (tAsg (tOp (rIxL K) (tVar 1) (tCall spTake [] E0 (tCons (tVar 0) (tCons (tCB (fun xs H Q => ∃ p ys, xs = [.ref p] ∧ (SqL K H p ys ∨ SqT K H p ys) ∧ Q (.int ys.length) H) (tCons (tVar 1) tNil)) tNil)))) (gName 6))
          (tSeq (tAsg (tOp (rIxL K) (tLst (tCons (tC (.str pu)) (tCons (tC (.str dr)) tNil))) (tCB (fun xs H Q => (∃ i, xs = [.int i] ∧ Q (.int i) H) ∨ ∃ k, xs = [.bl k] ∧ Q (.int (if k then 1 else 0)) H) (tCons (tOp (rIn K false) (tVar 6) (tCall (spFld K) [] E0 (tCons (tVar 3) tNil))) tNil))) (gName 7))
            (tAsg (tOp (rCatA K) (tVar 3) (tTup (tCons (tTup (tCons (tVar 7) (tCons (tVar 6) tNil))) tNil))) (gName 3)))))
          (tRet (tSl (rSlA K) (tVar 3) tNoPart (tPart (tC (.int 16)))))) { nx := fun _ H' => Q .non H', rt := Q } [some (.ref p), some (.ref n), some (.ref e), some (.ref b), v4, none, none, none] H2 := by
      intro b z v4 H2 hz hb2 b2 P2
      refine ⟨_, rfl, p, 9, rfl, P2, by decide, by decide, fun r H3 r0 r1 b3 P3 => ?_⟩
      obtain ⟨a2, bb2, c2, hp2⟩ := id P2
      refine ⟨r, rfl, by omega, by omega, ?_⟩
      refine for_range (n := r.toNat) (fun i σ H' => ∃ (b : Addr) (z : Story) (v5 v6 v7 : Option V), σ = [some (.ref p), some (.ref n), some (.ref e), some (.ref b), v4, v5, v6, v7] ∧ Okay z ∧ z.length ≤ 16 + i ∧ StoryAt K H' b z ∧ But p H H' ∧ Purse H' p)
        ⟨b, z, none, none, none, rfl, hz.1, hz.2, hb2.but b3 hp2, b2.trans b3, P3⟩ ?_ ?_
      · rintro i σ H4 hi ⟨b, z, v5, v6, v7, rfl, hok, hlen, hb4, b4, P4⟩
        have hN4 : SqL K H4 n (ns.map V.str) := b4.seq hnp hN
        -- the field
        refine ⟨_, rfl, _, rfl, _, rfl, n, _, rfl, .inl hN4, p, _, rfl, P4, (by rw [List.length_map]; omega), (by rw [List.length_map]; omega), fun r5 H5 r50 r51 b5 P5 => ?_⟩
        rw [List.length_map] at r51
        have hN5 : SqL K H5 n (ns.map V.str) := b5.seq hnp hN4
        have h5n : r5.toNat < ns.length := by omega
        refine ⟨n, _, r5, .str ns[r5.toNat], rfl, rfl, hN5, at_of (j := r5.toNat) (by omega) (by rw [List.getElem?_map, List.getElem?_eq_getElem h5n]; rfl), ?_⟩
        have hfn : Nm ns[r5.toNat] := hnm _ (List.getElem_mem h5n)
        generalize ns[r5.toNat] = fl at hfn
        obtain ⟨a4, bb4, c4, hp4⟩ := id P4
        have hb5 : StoryAt K H5 b z := hb4.but b5 hp4
        have b5' : But p H H5 := b4.trans b5
        -- the deed
        refine ⟨(by show 2 ≤ sizeLine; decide), fun g hg => ?_⟩
        have s6 : Same H5 (upd H5 g (.lst [.str pu, .str dr])) := Same.upd hg
        refine ⟨_, rfl, _, rfl, b, z, rfl, hb5.same s6, by omega, fun t H7 s7 ht7 eH7 => ?_⟩
        have b7 : But p H H7 := b5'.trans (But.of (Same.trans s6 s7))
        have hb7 : StoryAt K H7 b z := hb5.same (Same.trans s6 s7)
        obtain ⟨a5, bb5, c5, hp5⟩ := id P5
        have P7 : Purse H7 p := ⟨a5, bb5, c5, s7 _ _ (s6 _ _ hp5)⟩
        refine ⟨t, _, rfl, .inr (SqT.of eH7), rfl, flat_strs _, .inr ⟨_, rfl, ?_⟩⟩
        have hg7 : H7 g = some (.lst [.str pu, .str dr]) := s7 _ _ upd_same
        rw [inV_str]
        have ed : atI ([.str pu, .str dr] : List V) (if (if false = true then !decide (fl ∈ lf z) else decide (fl ∈ lf z)) = true then 1 else 0) = some (.str (dd z fl)) := by
          unfold dd
          by_cases h : fl ∈ lf z
          · rw [if_pos h]
            simp only [h, decide_true, Bool.false_eq_true, if_false, if_true]
            rfl
          · rw [if_neg h]
            simp only [h, decide_false, Bool.false_eq_true, if_false]
            rfl
        refine ⟨g, _, _, _, rfl, rfl, SqL.of hg7, ed, ?_⟩
        -- the new story
        refine ⟨_, rfl, _, rfl, _, rfl, (by show 2 ≤ sizeLine; decide), fun u hu => ⟨(by show 1 ≤ sizeLine; decide), fun v hv => ?_⟩⟩
        have s8 : Same H7 (upd (upd H7 u (.tup [.str (dd z fl), .str fl])) v (.tup [.ref u])) := Same.trans (Same.upd hu) (Same.upd hv)
        have huv : u ≠ v := fun e => by rw [← e, upd_same] at hv; cases hv
        have hsing : StoryAt K (upd (upd H7 u (.tup [.str (dd z fl), .str fl])) v (.tup [.ref u])) v [(dd z fl, fl)] := ⟨[u], SqT.of upd_same, .cons (SqT.of (by rw [upd_ne huv]; exact upd_same)) .nil⟩
        refine StoryAt.cat (hb7.same s8) hsing (by rw [List.length_singleton]; exact line1000 (by omega)) fun c H9 s9 hc9 => ?_
        refine ⟨c, z ++ [(dd z fl, fl)], _, _, _, rfl, .snoc fl hfn.2 hok, by rw [List.length_append, List.length_singleton]; omega, hc9, b7.trans (But.of (Same.trans s8 s9)), ?_⟩
        obtain ⟨a7, bb7, c7, hp7⟩ := P7
        exact ⟨a7, bb7, c7, s9 _ _ (s8 _ _ hp7)⟩
      · rintro σ H4 ⟨b, z, v5, v6, v7, rfl, hok, hlen, hb4, b4, P4⟩
        refine ⟨_, rfl, 16, rfl, hb4.cut (by decide) fun c H5 s5 hc5 => ?_⟩
        obtain ⟨a4, bb4, c4, hp4⟩ := id P4
        exact q c _ H5 ⟨hok.take _, by rw [List.length_take]; exact Nat.min_le_left _ _⟩ hc5 (b4.trans (But.of s5)) ⟨a4, bb4, c4, s5 _ _ hp4⟩
    -- the elder
    obtain ⟨es, hes, pes⟩ := id hE
    have les := Paired.length pes
    have hes1 : H1 e = some (.lst (es.map V.ref)) := s1 _ _ hes
    have pes1 : Paired (StoryAt K H1) es ss := Paired.mono (fun a z h => h.same s1) pes
    refine ⟨_, rfl, e, _, rfl, .inl (SqL.of hes1), _, _, rfl, rfl, _, rfl, ite2 (fun h => ?_) (fun h => ?_)⟩
    · have h0 : (0 : Int) < (((es.map V.ref).length : Nat) : Int) := of_decide_eq_true h
      rw [List.length_map] at h0
      refine ⟨_, rfl, _, rfl, _, rfl, e, _, rfl, .inl (SqL.of hes1), p, _, rfl, P1, (by rw [List.length_map]; exact h0), (by rw [List.length_map]; omega), fun r H2 r0 r1 b2 P2 => ?_⟩
      rw [List.length_map] at r1
      have hes2 : H2 e = some (.lst (es.map V.ref)) := b2 _ _ hep hes1
      have hri : r.toNat < es.length := by omega
      have hrs : r.toNat < ss.length := by omega
      obtain ⟨b, eb, hb⟩ := pr_at pes1 (List.getElem?_eq_getElem hrs)
      refine ⟨e, _, r, .ref b, rfl, rfl, SqL.of hes2, at_of (j := r.toNat) (by omega) (by rw [List.getElem?_map, eb]; rfl), ?_⟩
      have hgs : GS ss[r.toNat] := hG _ (List.getElem_mem hrs)
      generalize ss[r.toNat] = z at hb hgs
      have hb2 : StoryAt K H2 b z := hb.but b2 (s1 _ _ hp0)
      obtain ⟨xs, hx, lx⟩ := hb2.seq
      have l16 := hgs.2
      refine ⟨_, rfl, _, rfl, _, rfl, b, xs, rfl, .inr hx, _, _, rfl, rfl, p, _, rfl, P2, (by rw [lx]; omega), (by rw [lx]; omega), fun r3 H3 r30 r31 b3 P3 => ⟨r3, rfl, ?_⟩⟩
      obtain ⟨a2, bb2, c2, hp2⟩ := id P2
      refine (hb2.but b3 hp2).cut r30 fun c H4 s4 hc4 => ?_
      obtain ⟨a3, bb3, c3, hp3⟩ := id P3
      exact rest c _ _ H4 ⟨hgs.1.take _, by rw [List.length_take]; omega⟩ hc4 (((b1.trans b2).trans b3).trans (But.of s4)) ⟨a3, bb3, c3, s4 _ _ hp3⟩
    · exact rest t0 [] _ H1 ⟨.nil, Nat.zero_le _⟩ (.nil ht1) b1 P1
end
end Wr

namespace Wr
open PySem L2
section
variable {K : PySem.W.Frag} {a b : Addr} {xs ys : List V}
/-- zip of two tuples of one length -/
theorem walk_zipT (h : xs.length = ys.length) : Walk (RZ.ItzT K a b) xs.length (fun H => SqT K H a xs ∧ SqT K H b ys) (YPair (fun i => xs[i]?) (fun i => ys[i]?)) := by
  refine ⟨fun i H hi q => ?_, fun H q => ⟨xs, ys, q.1, q.2, .inl (Nat.le_refl _)⟩, fun i H v H' _ q y => ?_⟩
  · exact ⟨xs, ys, xs[i], ys[i]'(by omega), q.1, q.2, List.getElem?_eq_getElem hi, List.getElem?_eq_getElem (by omega)⟩
  · obtain ⟨t, x, z, e1, e2, e3, e4, e5⟩ := y
    exact ⟨t, x, z, e1, e2, e3, e4 xs q.1, e5 ys q.2⟩
end
/-- an int or a text -/
def Fl (x : V) : Prop := (∃ i, x = .int i) ∨ ∃ z, x = .str z
section
variable {P : Program} {w : World} {K : PySem.W.Frag} {mg : Str → Option Value} {base : Heap}
abbrev nSame : List Str := ["_law_one", "_law_other", "_law_a", "_law_b"]
theorem scSame : FnScope nSame ["_law_one", "_law_other"] (defScope sSame) := ⟨rfl, rfl, rfl, by decide +kernel, rfl, by decide +kernel, by decide +kernel⟩
def spSame0 : Sp := fun vs H Q _ => ∃ x : V, vs = [x, x] ∧ Fl x ∧ Q (.bl true) H
theorem has_same0 (B : Bl mg) (D : DefAt K mg "_law_same" sSame ["_law_one", "_law_other"]) : Has P w K mg base 1 "_law_same" ["_law_one", "_law_other"] spSame0 := by
  refine .of D fun f fd F => F.ok scSame (fun vs H Q E h => ?_) (fun cdv A outer s H vs Q E hr h => ?_)
  · obtain ⟨x, rfl, _⟩ := h
    rfl
  · obtain ⟨x, rfl, hx, q⟩ := h
    refine ⟨_, (pss_cons (ps_if (PW.pt (pw_or (pt_val (pe_isi B.isi (pv 0) B.tuple PyProof.Rows.boot_tuple)) (pw_or1 (pt_val (pe_isi B.isi (pv 1) B.tuple PyProof.Rows.boot_tuple))))) pss_never pss_nil)
      (pss_cons (ps_if (PW.pt (pw_or (pt_val (pe_isi B.isi (pv 0) B.bool PyProof.Rows.boot_bool)) (pw_or1 (pt_val (pe_isi B.isi (pv 1) B.bool PyProof.Rows.boot_bool))))) pss_never pss_nil)
      (pss_one (ps_ret (pe_cmpR op_eq (pv 0) (pv 1) (nomark _)))))), ?_⟩
    have i1 : ∀ {Q : VK}, Q (.bl false) H → rIsi K [x, .ty "tuple"] H Q := fun {Q} q => by
      rcases hx with ⟨i, rfl⟩ | ⟨z, rfl⟩
      · exact isi_i k_it q
      · exact isi_s k_st q
    have i2 : ∀ {Q : VK}, Q (.bl false) H → rIsi K [x, .ty "bool"] H Q := fun {Q} q => by
      rcases hx with ⟨i, rfl⟩ | ⟨z, rfl⟩
      · exact isi_i k_ib q
      · exact isi_s k_sb q
    refine ⟨_, rfl, i1 ⟨_, rfl, iteF ⟨_, rfl, i1 ⟨_, rfl, iteF ?_⟩⟩⟩⟩
    refine ⟨_, rfl, i2 ⟨_, rfl, iteF ⟨_, rfl, i2 ⟨_, rfl, iteF ?_⟩⟩⟩⟩
    refine ⟨_, rfl, _, rfl, ?_, ?_⟩
    · rcases hx with ⟨i, rfl⟩ | ⟨z, rfl⟩
      · rfl
      · rfl
    · show Q (.bl (decide (x = x))) H
      rw [decide_eq_true rfl]
      exact q
def spSame (K : PySem.W.Frag) : Sp := fun vs H Q _ => ∃ (a b : Addr) (xs : List V), vs = [.ref a, .ref b] ∧ SqT K H a xs ∧ SqT K H b xs ∧ (∀ x ∈ xs, Fl x) ∧ xs.length ≤ 100 ∧ ∀ H' : Hp, Same H H' → Q (.bl true) H'
theorem has_same (B : Bl mg) (Z : Has P w K mg base 1 "_law_same" ["_law_one", "_law_other"] spSame0) (D : DefAt K mg "_law_same" sSame ["_law_one", "_law_other"]) : Has P w K mg base 2 "_law_same" ["_law_one", "_law_other"] (spSame K) := by
  refine .of D fun f fd F => F.ok scSame (fun vs H Q E h => ?_) (fun cdv A outer s H vs Q E hr h => ?_)
  · obtain ⟨a, b, xs, rfl, _⟩ := h
    rfl
  · obtain ⟨a, b, xs, rfl, ha, hb, hf, hl, q⟩ := h
    refine ⟨_, (pss_cons (ps_if (PW.pt (pw_or (pt_val (pe_isi B.isi (pv 0) B.tuple PyProof.Rows.boot_tuple)) (pw_or1 (pt_val (pe_isi B.isi (pv 1) B.tuple PyProof.Rows.boot_tuple))))) (pss_cons (ps_if (PW.pt (pw_or (pt_not (pt_val (pe_isi B.isi (pv 0) B.tuple PyProof.Rows.boot_tuple))) (pw_or (pt_not (pt_val (pe_isi B.isi (pv 1) B.tuple PyProof.Rows.boot_tuple))) (pw_or1 (pt_cmpR op_ne (pe_callB call_len_seq (by rfl) B.len boot_len (pa_cons (pv 0) pa_nil)) (pe_callB call_len_seq (by rfl) B.len boot_len (pa_cons (pv 1) pa_nil)) (nomark _)))))) pss_never pss_nil)
      (pss_one (ps_ret (pe_callB (cr_all rfl) (by rfl) B.all PyProof.Rows.boot_all (pa_cons (pe_lc (own := [("_law_a", 2), ("_law_b", 3)]) (g := gTup K 2 (gCons (gName 2) (gCons (gName 3) gNil))) (te := tCall spSame0 [] E0 (tCons (tVar 2) (tCons (tVar 3) tNil))) (by rfl) scSame.nd (RZ.pi_zipA (by rfl) B.zip (pa_cons (pv 0) (pa_cons (pv 1) pa_nil))) (blkOk_by (N := nSame) (sc := defScope sSame) (by decide +kernel))
      (fun _ _ _ _ _ => (pg_tup rfl (pgs_cons (pg_name (i := 2) scSame.nd rfl (.inl rfl)) (pgs_cons (pg_name (i := 3) scSame.nd rfl (.inl rfl)) pgs_nil)))) (fun _ _ _ _ _ => pts_nil) (fun _ _ _ _ _ => (pe_has Z hr (pa_cons (pv 2) (pa_cons (pv 3) pa_nil))))) pa_nil))))) pss_nil) pss_never), ?_⟩
    refine ⟨_, rfl, isi_t ha k_tt ⟨_, rfl, iteT ?_⟩⟩
    refine ⟨_, rfl, isi_t ha k_tt ⟨_, rfl, iteF ⟨_, rfl, isi_t hb k_tt ⟨_, rfl, iteF ?_⟩⟩⟩⟩
    refine ⟨_, rfl, a, xs, rfl, .inr ha, _, rfl, b, xs, rfl, .inr hb, rfl, _, rfl, ?_⟩
    show (if (!decide (V.int (xs.length : Int) = V.int (xs.length : Int))) = true then _ else _)
    rw [decide_eq_true rfl]
    refine iteF ?_
    refine ⟨_, rfl, _, rfl, a, b, xs, xs, rfl, .inr ⟨ha, hb, fun Dd hD => ?_⟩⟩
    refine lc_it (walk_zipT rfl) (fun i H' => Same H H' ∧ H' Dd = some (.lst ((List.replicate i true).map V.bl))) ⟨Same.upd hD, upd_same⟩ (fun i H' _ q => ⟨same_tup q.1 ha, same_tup q.1 hb⟩) ?_ ?_
    · rintro i x H1 H2 hi ⟨s1, hd1⟩ ⟨t, y, y2, rfl, ht, rfl, e1, e2⟩
      have ey : y2 = y := Option.some.inj (e2.symm.trans e1)
      subst ey
      have ndt : Dd ≠ t := ne_of_none hd1 ht
      refine ⟨t, _, rfl, SqT.of upd_same, rfl, _, _, rfl, _, _, rfl, rfl, rfl, ?_⟩
      refine ⟨_, rfl, _, rfl, y2, rfl, hf _ (List.mem_of_getElem? e1), ?_⟩
      refine ⟨_, by rw [upd_ne ndt]; exact hd1, ?_, ?_, ?_⟩
      · rw [List.length_map, List.length_replicate]
        exact small1000 (by omega)
      · intro c o e
        rw [upd_ne (ne_of_none e hD)]
        exact Same.upd ht _ _ (s1 _ _ e)
      · rw [upd_same, List.replicate_succ', List.map_append]
        rfl
    · rintro H1 ⟨s1, hd1⟩
      refine ⟨Dd, _, rfl, SqL.of hd1, ?_⟩
      have ea : (List.replicate xs.length true).all id = true := by
        rw [List.all_eq_true]
        intro x hx
        rw [List.eq_of_mem_replicate hx]
        rfl
      rw [ea]
      exact q H1 s1
end
end Wr

namespace Wr
open PySem L2
/-! ### the row of shapes on the heap -/
/-- what stands in a shape's tuple -/
def rowV (L : List Story) (s : Story) : List V := match s.getLast? with
  | none => []
  | some p => [.int (L.idxOf s.dropLast : Nat), .str p.1, .str p.2]
def rowD (L : List Story) (s : Story) : PyData := match s.getLast? with
  | none => .tuple []
  | some p => .tuple [.int (L.idxOf s.dropLast : Nat), .str p.1, .str p.2]
theorem rowV_nil (L : List Story) : rowV L [] = [] := rfl
theorem rowD_nil (L : List Story) : rowD L [] = .tuple [] := rfl
theorem rowV_snoc (L : List Story) (s : Story) (p : Dd) : rowV L (s ++ [p]) = [.int (L.idxOf s : Nat), .str p.1, .str p.2] := by
  unfold rowV
  rw [List.getLast?_append]
  simp
theorem rowD_snoc (L : List Story) (s : Story) (p : Dd) : rowD L (s ++ [p]) = .tuple [.int (L.idxOf s : Nat), .str p.1, .str p.2] := by
  unfold rowD
  rw [List.getLast?_append]
  simp
theorem snoc_of {s : Story} (h : s ≠ []) : ∃ (t : Story) (p : Dd), s = t ++ [p] ∧ s.dropLast = t := by
  obtain ⟨p, e, _⟩ := last_of h
  exact ⟨s.dropLast, p, e, rfl⟩
theorem rowV_grow {L : List Story} (t : Tree L) {x s : Story} (h : s ∈ L) : rowV (L ++ [x]) s = rowV L s := by
  by_cases hs : s = []
  · subst hs
    rfl
  · obtain ⟨u, p, e, e2⟩ := snoc_of hs
    have hu : u ∈ L := e2 ▸ t.par_mem h
    rw [e, rowV_snoc, rowV_snoc, ix_grow hu]
theorem rowD_grow {L : List Story} (t : Tree L) {x s : Story} (h : s ∈ L) : rowD (L ++ [x]) s = rowD L s := by
  by_cases hs : s = []
  · subst hs
    rfl
  · obtain ⟨u, p, e, e2⟩ := snoc_of hs
    have hu : u ∈ L := e2 ▸ t.par_mem h
    rw [e, rowD_snoc, rowD_snoc, ix_grow hu]
def ShapesAt (K : PySem.W.Frag) (H : Hp) (b : Addr) (L : List Story) : Prop := ∃ as : List Addr, SqT K H b (as.map V.ref) ∧ Paired (fun (a : Addr) (s : Story) => SqT K H a (rowV L s)) as L
section
variable {K : PySem.W.Frag} {H H' : Hp} {b : Addr} {L : List Story}
theorem ShapesAt.mono (h : ShapesAt K H b L) (m : ∀ a xs, SqT K H a xs → SqT K H' a xs) : ShapesAt K H' b L := by
  obtain ⟨as, h1, h2⟩ := h
  exact ⟨as, m _ _ h1, Paired.mono (fun a p q => m _ _ q) h2⟩
theorem ShapesAt.same (h : ShapesAt K H b L) (e : Same H H') : ShapesAt K H' b L := h.mono fun _ _ q => same_tup e q
theorem ShapesAt.seq (h : ShapesAt K H b L) : ∃ xs : List V, SqT K H b xs ∧ xs.length = L.length := by
  obtain ⟨as, h1, h2⟩ := h
  exact ⟨_, h1, by rw [List.length_map, Paired.length h2]⟩
theorem ShapesAt.item (h : ShapesAt K H b L) {i : Nat} {s : Story} (hi : L[i]? = some s) : ∃ (xs : List V) (a : Addr), SqT K H b xs ∧ xs[i]? = some (.ref a) ∧ SqT K H a (rowV L s) := by
  obtain ⟨as, h1, h2⟩ := h
  obtain ⟨a, e, q⟩ := pr_at h2 hi
  exact ⟨_, a, h1, by rw [List.getElem?_map, e]; rfl, q⟩
/-! as data -/
theorem dp_row {a : Addr} {s : Story} (h : SqT K H a (rowV L s)) : Dp K H (.ref a) (rowD L s) := by
  by_cases hs : s = []
  · subst hs
    exact .tup h .nil
  · obtain ⟨u, p, e, _⟩ := snoc_of hs
    rw [e, rowV_snoc] at h
    rw [e, rowD_snoc]
    exact .tup h (.cons (.int _) (.cons (.str _) (.cons (.str _) .nil)))
theorem dp_rows : ∀ {as : List Addr} {ss : List Story}, Paired (fun (a : Addr) (s : Story) => SqT K H a (rowV L s)) as ss → DpAll K H (as.map V.ref) (ss.map (rowD L))
  | _, _, .nil => .nil
  | _, _, .cons r t => .cons (dp_row r) (dp_rows t)
theorem ShapesAt.dp (h : ShapesAt K H b L) : Dp K H (.ref b) (.tuple (L.map (rowD L))) := by
  obtain ⟨as, h1, h2⟩ := h
  exact .tup h1 (dp_rows h2)
end
theorem row_ok {L : List Story} {s : Story} (h : Okay s) : (rowD L s).canLay0 = true ∧ (rowD L s).depth ≤ 1 := by
  by_cases hs : s = []
  · subst hs
    exact ⟨by simp [rowD_nil, PyData.canLay0, PyData.canLayAll0], by simp [rowD_nil, PyData.depth, PyData.depthAll]⟩
  · obtain ⟨u, p, e, _⟩ := snoc_of hs
    subst e
    have g := h.good p (List.mem_append_right _ (List.mem_singleton.mpr rfl))
    have hd : PyData.strOk p.1 = true := by
      rcases g.1 with q | q
      · rw [q]; decide +kernel
      · rw [q]; decide +kernel
    rw [rowD_snoc]
    exact ⟨by simp [PyData.canLay0, PyData.canLayAll0, hd, g.2], by simp [PyData.depth, PyData.depthAll]⟩
theorem rows_ok {L : List Story} : ∀ {ss : List Story}, (∀ s ∈ ss, Okay s) → PyData.canLayAll0 (ss.map (rowD L)) = true ∧ PyData.depthAll (ss.map (rowD L)) ≤ 1
  | [], _ => ⟨by simp [PyData.canLayAll0], by simp [PyData.depthAll]⟩
  | s :: ss, h => by
    obtain ⟨h1, h2⟩ := row_ok (L := L) (h s (List.mem_cons_self ..))
    obtain ⟨h3, h4⟩ := rows_ok (L := L) (ss := ss) fun x hx => h x (List.mem_cons_of_mem _ hx)
    refine ⟨by simp [PyData.canLayAll0, h1, h3], ?_⟩
    simp only [List.map_cons, PyData.depthAll]
    omega
theorem rows_shaped {L : List Story} {ss : List Story} (h : ∀ s ∈ ss, Okay s) : SeqAt.shaped (.tuple (ss.map (rowD L))) = true := by
  obtain ⟨h1, h2⟩ := rows_ok (L := L) h
  have h3 : PyData.depth (.tuple (ss.map (rowD L))) ≤ 64 := by
    simp only [PyData.depth]
    omega
  show (PyData.canLay0 (.tuple (ss.map (rowD L))) && decide (PyData.depth (.tuple (ss.map (rowD L))) ≤ 64)) = true
  rw [Bool.and_eq_true]
  exact ⟨by simp only [PyData.canLay0]; exact h1, decide_eq_true h3⟩
theorem rows_eqv {L : List Story} {ss : List Story} (h : ∀ s ∈ ss, Okay s) : PyData.eqv (.tuple (ss.map (rowD L))) (.tuple (ss.map (rowD L))) = true :=
  SeqAt.eqv_refl _ (SeqAt.canLay_of_shaped (rows_shaped h))

section
variable {P : Program} {w : World} {K : PySem.W.Frag} {mg : Str → Option Value} {base : Heap}
/-! ### the law's look at what was told -/
def spNum (K : PySem.W.Frag) : Sp := fun vs H Q _ => ∃ (t b c : Addr) (L L' : List Story) (m : Nat) (k : Bool), vs = [.ref t, .ref b, .bl k] ∧ SqT K H t [.ref c, .int (m : Nat)] ∧ ShapesAt K H b L ∧ ShapesAt K H c L' ∧ Tree L ∧ Tree L' ∧
  ((k = true ∧ L' = L) ∨ (k = false ∧ ∃ x, L' = L ++ [x] ∧ m = L.length)) ∧ ∀ H' : Hp, Same H H' → Q (.bl true) H'
theorem scNum : FnScope ["_law_told", "_law_shapes", "_law_known"] ["_law_told", "_law_shapes", "_law_known"] (defScope sNum) := ⟨rfl, rfl, rfl, by decide +kernel, rfl, by decide +kernel, by decide +kernel⟩
theorem has_num (B : Bl mg) (W : Has P w K mg base 1 "_law_is_whole" ["_law_thing"] spWhole) (D : DefAt K mg "_law_number" sNum ["_law_told", "_law_shapes", "_law_known"]) : Has P w K mg base 2 "_law_number" ["_law_told", "_law_shapes", "_law_known"] (spNum K) := by
  refine .of D fun f fd F => F.ok scNum (fun vs H Q E h => ?_) (fun cdv A outer s H vs Q E hr h => ?_)
  · obtain ⟨t, b, c, L, L', m, k, rfl, _⟩ := h
    rfl
  · obtain ⟨t, b, c, L, L', m, k, rfl, ht, hb, hc, hL, hL', hk, q⟩ := h
    have hu := hr.units
    refine ⟨_, (pss_cons (ps_if (PW.pt (pw_or (pt_not (pt_val (pe_isi B.isi (pv 0) B.tuple PyProof.Rows.boot_tuple))) (pw_or (pt_cmpR op_ne (pe_callB call_len_seq (by rfl) B.len boot_len (pa_cons (pv 0) pa_nil)) pe_int (nomark _)) (pw_or (pt_not (pt_val (pe_has W hr (pa_cons (pe_ix ix_tup (pv 0) pe_int (fun _ _ => rfl)) pa_nil)))) (pw_or1 (pt_not (pt_val (pe_isi B.isi (pe_ix ix_tup (pv 0) pe_int (fun _ _ => rfl)) B.tuple PyProof.Rows.boot_tuple)))))))) pss_never pss_nil)
      (pss_cons (ps_if (pt_val (pv 2)) (pss_one (ps_ret (pe_cmpR (op_eqD hu) (pe_ix ix_tup (pv 0) pe_int (fun _ _ => rfl)) (pv 1) (nomark _)))) pss_nil)
      (pss_one (ps_ret (pe_and (pe_cmpR (op_eqD hu) (pe_slice sl_tupA (pe_ix ix_tup (pv 0) pe_int (fun _ _ => rfl)) po_none (po_some (pe_un un_neg pe_int))) (pv 1) (nomark _)) (pe_one (pe_cmpR op_eq (pe_ix ix_tup (pv 0) pe_int (fun _ _ => rfl)) (pe_callB call_len_seq (by rfl) B.len boot_len (pa_cons (pv 1) pa_nil)) (nomark _)))))))), ?_⟩
    obtain ⟨xs, hcx, lcx⟩ := hc.seq
    refine ⟨_, rfl, isi_t ht k_tt ⟨_, rfl, iteF ?_⟩⟩
    refine ⟨_, rfl, t, _, rfl, .inr ht, rfl, _, rfl, iteF ?_⟩
    refine ⟨_, rfl, t, _, 1, _, rfl, rfl, ht, rfl, _, rfl, _, rfl, iteF ?_⟩
    refine ⟨_, rfl, t, _, 0, _, rfl, rfl, ht, rfl, isi_t hcx k_tt ⟨_, rfl, iteF ?_⟩⟩
    refine ⟨_, rfl, k, rfl, ?_⟩
    rcases hk with ⟨rfl, rfl⟩ | ⟨rfl, x, rfl, rfl⟩
    · refine iteT ⟨_, rfl, t, _, 0, _, rfl, rfl, ht, rfl, _, rfl, _, _, hc.dp, hb.dp, rows_shaped hL.ok, rows_shaped hL.ok, ?_⟩
      rw [rows_eqv hL.ok]
      exact q H (Same.refl H)
    · refine iteF ?_
      -- all but the last
      obtain ⟨as, h1, h2⟩ := id hc
      have la := Paired.length h2
      rw [List.length_append, List.length_singleton] at la
      refine ⟨_, rfl, t, _, 0, _, rfl, rfl, ht, rfl, 1, rfl, _, rfl, c, _, rfl, h1, fun wh => ?_, fun _ p hp => ?_⟩
      · have e := cut_last_whole V.ref as wh.2
        have e2 := congrArg List.length e
        rw [List.length_dropLast] at e2
        omega
      · have sp := Same.upd (o := .tup (cutV (as.map V.ref) none (some (-1)))) hp
        rw [cut_last V.ref as] at sp ⊢
        have h3 := pr_take L.length h2
        rw [List.take_append_of_le_length (Nat.le_refl _), List.take_length, show as.take L.length = as.dropLast by rw [List.dropLast_eq_take, la, Nat.add_sub_cancel]] at h3
        have h4 : Paired (fun (a : Addr) (s : Story) => SqT K (upd H p (.tup (as.dropLast.map V.ref))) a (rowV (L ++ [x]) s)) as.dropLast L := Paired.mono (fun a z r => same_tup sp r) h3
        have h5 : L.map (rowD (L ++ [x])) = L.map (rowD L) := List.map_congr_left fun z hz => rowD_grow hL hz
        have d1 : Dp K (upd H p (.tup (as.dropLast.map V.ref))) (.ref p) (.tuple (L.map (rowD L))) := by
          rw [← h5]
          exact .tup (SqT.of upd_same) (dp_rows h4)
        obtain ⟨ys, hy, ly⟩ := (hb.same sp).seq
        refine ⟨_, rfl, _, _, d1, (hb.same sp).dp, rows_shaped hL.ok, rows_shaped hL.ok, _, rfl, ?_⟩
        rw [rows_eqv hL.ok]
        refine iteT ⟨_, rfl, t, _, 1, _, rfl, rfl, same_tup sp ht, rfl, _, rfl, b, ys, rfl, .inr hy, rfl, ?_⟩
        show Q (.bl (decide (V.int ((L.length : Nat) : Int) = V.int ((ys.length : Nat) : Int)))) _
        rw [ly, decide_eq_true rfl]
        exact q _ sp

/-! ### walked back -/
def spWalk (K : PySem.W.Frag) : Sp := fun vs H Q _ => ∃ (b : Addr) (L : List Story) (s : Story), vs = [.ref b, .int (L.idxOf s : Nat)] ∧ ShapesAt K H b L ∧ Tree L ∧ s ∈ L ∧ ∀ (c : Addr) (H' : Hp), Same H H' → StoryAt K H' c s → Q (.ref c) H'
theorem scWalk : FnScope ["_law_shapes", "_law_number_here", "_law_story_here", "_law_k"] ["_law_shapes", "_law_number_here"] (defScope sWalk) := ⟨rfl, rfl, rfl, by decide +kernel, rfl, by decide +kernel, by decide +kernel⟩
theorem has_walk (B : Bl mg) (D : DefAt K mg "_law_walked" sWalk ["_law_shapes", "_law_number_here"]) : Has P w K mg base 1 "_law_walked" ["_law_shapes", "_law_number_here"] (spWalk K) := by
  refine .of D fun f fd F => F.ok scWalk (fun vs H Q E h => ?_) (fun cdv A outer s H vs Q E hr h => ?_)
  · obtain ⟨b, L, s, rfl, _⟩ := h
    rfl
  · obtain ⟨b, L, z, rfl, hb, hL, hz, q⟩ := h
    refine ⟨_, (pss_cons (ps_set (i := 2) scWalk.nd rfl (.inl rfl) (pe_tup pa_nil))
      (pss_cons (ps_for PassesOwn.never rfl (pi_range1 rfl B.range (pa_cons pe_int pa_nil)) (pg_name (i := 3) scWalk.nd rfl (.inl rfl))
      (pss_cons (ps_if (pt_cmpR op_eq (pv 1) pe_int (nomark _)) (pss_one (ps_ret (pv 2))) pss_nil)
      (pss_cons (ps_set (i := 2) scWalk.nd rfl (.inl rfl) (pe_op op_catA (pe_tup (pa_cons (pe_slice sl_tupA (pe_ix ix_tup (pv 0) (pv 1) (fun _ _ => rfl)) (po_some pe_int) po_none) pa_nil)) (pv 2)))
      (pss_one (ps_set (i := 1) scWalk.nd rfl (.inl rfl) (pe_ix ix_tup (pe_ix ix_tup (pv 0) (pv 1) (fun _ _ => rfl)) pe_int (fun _ _ => rfl)))))))
      (pss_one (ps_ret pe_non)))), ?_⟩
    refine ⟨Nat.zero_le _, fun t0 ht0 => ?_⟩
    refine ⟨17, rfl, by decide, by decide, ?_⟩
    have h16 := hL.len z hz
    refine for_range (n := 17) (fun i σ H' => ∃ (c : Addr) (v3 : Option V), σ = [some (.ref b), some (.int (L.idxOf (z.take (z.length - i)) : Nat)), some (.ref c), v3] ∧ i ≤ z.length ∧ Same H H' ∧ StoryAt K H' c (z.drop (z.length - i)))
      ⟨t0, none, ?_, Nat.zero_le _, Same.upd ht0, ?_⟩ ?_ ?_
    · rw [Nat.sub_zero, List.take_length]
      rfl
    · rw [Nat.sub_zero, List.drop_length]
      exact .nil upd_same
    · rintro i σ H1 hi ⟨c, v3, rfl, hiz, s1, hc⟩
      refine ⟨_, rfl, rfl, _, rfl, ite2 (fun e => ?_) (fun e => ?_)⟩
      · have e1 : ((L.idxOf (z.take (z.length - i)) : Nat) : Int) = 0 := V.int.inj (of_decide_eq_true e)
        have hm := hL.begs _ z rfl hz (z.length - i)
        have e2 : z.take (z.length - i) = [] := ix_inj hm (by rw [hL.ix_nil]; omega) hL.nil_mem
        have e3 : z.drop (z.length - i) = z := by
          have e4 := List.take_append_drop (z.length - i) z
          rw [e2, List.nil_append] at e4
          exact e4
        rw [e3] at hc
        exact ⟨_, rfl, q c H1 s1 hc⟩
      · have e1 : ¬ ((L.idxOf (z.take (z.length - i)) : Nat) : Int) = 0 := fun q => e (decide_eq_true (by rw [q] <;> rfl))
        have hm := hL.begs _ z rfl hz (z.length - i)
        have hlt : i < z.length := by
          refine Nat.lt_of_not_le fun q => e1 ?_
          have : z.length - i = 0 := by omega
          rw [this, List.take_zero, hL.ix_nil]
          rfl
        -- the shape's own tuple
        have hk : z.length - i - 1 < z.length := by omega
        have et : z.take (z.length - i) = z.take (z.length - i - 1) ++ [z[z.length - i - 1]] := by
          have h1 : z.length - i = (z.length - i - 1) + 1 := by omega
          conv => lhs; rw [h1]
          rw [List.take_add_one, List.getElem?_eq_getElem hk]
          rfl
        have ed : z.drop (z.length - (i + 1)) = z[z.length - i - 1] :: z.drop (z.length - i) := by
          have h1 : z.length - (i + 1) = z.length - i - 1 := by omega
          rw [h1, List.drop_eq_getElem_cons hk]
          have h2 : z.length - i - 1 + 1 = z.length - i := by omega
          rw [h2]
        obtain ⟨xs, a, hx, hxa, ha⟩ := (hb.same s1).item (ix_get hm)
        rw [et, rowV_snoc] at ha
        refine ⟨_, rfl, _, rfl, b, xs, _, _, rfl, rfl, hx, atI_nat hxa, 1, rfl, a, _, rfl, ha, fun wh => ?_, fun _ p hp => ?_⟩
        · have h1 : HT.sIx 3 0 (some 1) = 0 := wh.1
          rw [show (some (1 : Int)) = some ((1 : Nat) : Int) from rfl, HT.sIx_nat] at h1
          exact absurd h1 (by decide)
        · rw [cut_from1]
          have s2 : Same H1 (upd H1 p (.tup [.str z[z.length - i - 1].1, .str z[z.length - i - 1].2])) := Same.upd hp
          refine ⟨(by show 1 ≤ sizeLine; decide), fun p2 hp2 => ?_⟩
          have s3 := Same.upd (o := .tup [.ref p]) hp2
          have hpp : p ≠ p2 := fun e => by
            have hp2' : (upd H1 p (.tup [.str z[z.length - i - 1].1, .str z[z.length - i - 1].2])) p2 = none := hp2
            rw [← e, upd_same] at hp2'
            cases hp2'
          have s4 : Same H1 (upd (upd H1 p (.tup [.str z[z.length - i - 1].1, .str z[z.length - i - 1].2])) p2 (.tup [.ref p])) := Same.trans s2 s3
          have hone : StoryAt K (upd (upd H1 p (.tup [.str z[z.length - i - 1].1, .str z[z.length - i - 1].2])) p2 (.tup [.ref p])) p2 [z[z.length - i - 1]] :=
            ⟨[p], SqT.of upd_same, .cons (SqT.of (by rw [upd_ne hpp]; exact upd_same)) .nil⟩
          refine ⟨_, rfl, StoryAt.cat hone (hc.same s4) (by rw [List.length_singleton, List.length_drop]; exact line1000 (by omega)) fun d H2 s5 hd => ?_⟩
          have s6 : Same H1 H2 := Same.trans s4 s5
          refine ⟨_, rfl, _, rfl, b, xs, _, _, rfl, rfl, same_tup s6 hx, atI_nat hxa, a, _, 0, _, rfl, rfl, same_tup s6 ha, rfl, ?_⟩
          refine ⟨d, some (.int (0 + (i : Nat))), ?_, by omega, Same.trans s1 s6, ?_⟩
          · rw [show z.length - (i + 1) = z.length - i - 1 by omega]
            rfl
          · rw [ed]
            exact hd
    · rintro σ H1 ⟨c, v3, rfl, hiz, _⟩
      exact absurd hiz (by omega)
end
end Wr

/-! enumerate(t) of a tuple, in a for; xs.remove(y) of a flat item that is there -/
namespace WrE
open PySem
/-- what enumerate's own object is when it is made over the iterator at i -/
abbrev enObj (i : Addr) : Obj := { cls := .type "enumerate", data := .fields #[.none, .bool false, .ref i, rawInt 0, .none, .none] }
theorem meets_one {v : Value} {o : Obj} {G : Heap → Prop} (B : Begins v o G) :
    Meets (Builtin.«enumerate.__new__» ⟨[.type "enumerate", v], []⟩)
      (fun _ R s => G s.heap ∧ R (.ok (.ret (.ref (s.heap.push o).objs.size))) { s with heap := (s.heap.push o).push (enObj s.heap.objs.size) }) :=
  .of_wp fun prog w A R s h => by
    obtain ⟨hp, gs, dr, tk, os⟩ := s
    obtain ⟨hG, hR⟩ := h
    have sub := sub_enumerate
    have it0 : ∀ {A' : Around} {E : Value → Shared → Prop} {Q : Value → Shared → Prop}, Q (.ref hp.objs.size) ⟨hp.push o, gs, dr, tk, os⟩ →
        wpAny (model prog w) A' (pyIter v) Q E ⟨hp, gs, dr, tk, os⟩ := fun q => B.iter prog w _ _ ⟨hp, gs, dr, tk, os⟩ _ hG q
    wp_walk using it0
    refine wpAny_stack_any fun stk => wpAny_pure ?_
    split
    · rename_i cl _ _ _ _ _
      cases (cl == Value.type "enumerate") <;> (wp_walk using it0; exact ⟨_, rfl, hR⟩)
    · wp_walk using it0
      exact ⟨_, rfl, hR⟩
section
variable {prog : Program} {w : World} {A : Around} {E : Value → Shared → Prop} {s : Shared}
theorem call_one {v : Value} {o : Obj} {G : Heap → Prop} {Q : Value → Shared → Prop} (B : Begins v o G) (hG : G s.heap)
    (h : ∀ g : Heap, IsEnum g (s.heap.objs.size + 1) s.heap.objs.size 0 .none → g.get? s.heap.objs.size = some o → (∀ b u, s.heap.get? b = some u → g.get? b = some u) →
      Q (.ref (s.heap.objs.size + 1)) { s with heap := g }) : wpAny (model prog w) A (call (.type "enumerate") [v]) Q E s := by
  refine callType_new F.called_enumerate (by decide) (F.typeCall_enumerate_1 _) (F.newCall_enumerate_1 _) (fun ob => F.args_object_init_2 ob _) F.entry_enumerate_new (meets_one B) ⟨hG, ?_⟩
  have sz : (s.heap.push o).objs.size = s.heap.objs.size + 1 := Heap.size_push ..
  have he : IsEnum ((s.heap.push o).push (enObj s.heap.objs.size)) (s.heap.objs.size + 1) s.heap.objs.size 0 .none := by
    have q := Heap.get?_push_size (s.heap.push o) (o := enObj s.heap.objs.size) rfl
    rw [sz] at q
    exact q
  show _ ∧ _
  rw [sz]
  exact ⟨⟨_, he, rfl⟩, h _ he (Heap.get?_push_of_some _ (Heap.get?_push_size _ B.free)) fun b u x => Heap.get?_push_of_some _ (Heap.get?_push_of_some _ x)⟩
end
end WrE
namespace Wr
open PySem L2
/-- the tuple at a, each item in a new pair behind its place -/
def IteT (K : PySem.W.Frag) (a : Addr) : It :=
  ⟨fun i H => ∃ (xs : List V) (x : V), SqT K H a xs ∧ xs[i]? = some x,
   fun i H v H' => ∃ (T : Addr) (x : V), v = .ref T ∧ H T = none ∧ H' = upd H T (.tup [.int (i : Nat), x]) ∧ ∀ xs, SqT K H a xs → xs[i]? = some x,
   fun i H => ∃ xs : List V, SqT K H a xs ∧ xs.length = i⟩
theorem turn_enumT {P : Program} {w : World} {K : PySem.W.Frag} {elts : List Expr} {kk : Nat} {tpos : Pos} (a e it : Addr) :
    Turn P w K (.Tuple elts kk tpos) (IteT K a) [e, it] e (fun i h => (∃ old, IsEnum h e it ((0 : Int) + ((i : Nat) : Int)) old) ∧ h.IsTupleIter it a i ∧ e ≠ it ∧ a ≠ e ∧ a ≠ it) where
  mem := by simp
  obj := fun i h st b hb => by
    obtain ⟨⟨old, he⟩, ⟨o, ho, _, hd⟩, _⟩ := st
    have e2 : b = e ∨ b = it := by simpa using hb
    rcases e2 with rfl | rfl
    · exact ⟨_, he, fun v q => nomatch q⟩
    · exact ⟨o, ho, fun v q => by rw [hd] at q; cases q⟩
  keep := fun i h h' st k => by
    obtain ⟨⟨old, he⟩, hi, hr⟩ := st
    exact ⟨⟨old, k e (by simp) _ he⟩, hi.at fun o q => k it (by simp) o q, hr⟩
  item := by
    intro X hP hw hK hc i pins s σ H E I hf st hg
    subst hP hw hK
    obtain ⟨hen, hit, hne, hae, hai⟩ := st
    obtain ⟨xs, x, hq, hx⟩ := hg
    obtain ⟨its, rv, pt, hz⟩ := I.tuple hq
    obtain ⟨u, hu, ru⟩ := rv.get hx
    have hlt : i < its.toArray.size := by
      rw [List.size_toArray]
      exact (List.getElem?_eq_some_iff.mp hu).1
    obtain ⟨old, he⟩ := id hen
    have el : e < s.heap.objs.size := Heap.lt_size he
    have il : it < s.heap.objs.size := by
      obtain ⟨_, q, _⟩ := id hit
      exact Heap.lt_size q
    have G := GoesN.enumFrom (prog := X.prog) (w := X.w) (A := X.A) (elts := elts) (x1 := kk) (pos := tpos) 0 (Draws.tuple (A := X.A.in1) (show X.A.in1.handled = none from I.ok.hd hc) it a hai its.toArray) e hne (by simp [hne, Ne.symm hae]) (by simp)
    refine G.goes i s _ E hlt ⟨hen, hit, pt⟩ fun v h' tk hY st' hk _ => ?_
    obtain ⟨T, t, x', rfl, hT, ex, hTt⟩ := hY
    have eu : x' = u := by
      rw [List.getElem?_toArray, hu] at ex
      exact (Option.some.inj ex).symm
    rw [eu] at hTt
    obtain ⟨en', hit', hpt'⟩ := st'
    have new : ObjOk X.prog X.w (upd H T (.tup [.int (i : Nat), x])) h' T (.tup [.int (i : Nat), x]) :=
      ⟨by show 2 ≤ sizeLine; decide, [.int ((0 : Int) + (i : Int)) t, u], .cons ⟨t, by rw [Int.zero_add]⟩ (.cons ru .nil), hTt⟩
    have I1 : Inv X pins σ (upd H T (.tup [.int (i : Nat), x])) { s with heap := h', toks := tk } := I.turnedNew (ch := [e, it]) (fun b ob hb q => hk b ob hb q) hf hT new
    refine ⟨.ref T, _, I1, rfl, ⟨T, x, rfl, I.hok.fresh hT, rfl, fun ys hy => by rw [I.tuple_inj hy hq]; exact hx⟩, ⟨en', hit', hne, hae, hai⟩, fun b hb => ?_⟩
    have bl : b < s.heap.objs.size := by
      have e2 : b = e ∨ b = it := by simpa using hb
      rcases e2 with rfl | rfl
      · exact el
      · exact il
    rw [upd_ne (Nat.ne_of_lt (Nat.lt_of_lt_of_le bl hT))]
    exact (hf b hb).1
  done := by
    intro X hP hw hK hc i pins s σ H E I hf st hg
    subst hP hw hK
    obtain ⟨hen, hit, hne, hae, hai⟩ := st
    obtain ⟨xs, hq, hx⟩ := hg
    obtain ⟨its, rv, pt, hz⟩ := I.tuple hq
    have hl := rv.length
    have ei : i = its.toArray.size := by
      rw [List.size_toArray]
      omega
    subst ei
    have G := GoesN.enumFrom (prog := X.prog) (w := X.w) (A := X.A) (elts := elts) (x1 := kk) (pos := tpos) 0 (Draws.tuple (A := X.A.in1) (show X.A.in1.handled = none from I.ok.hd hc) it a hai its.toArray) e hne (by simp [hne, Ne.symm hae]) (by simp)
    refine G.stops s _ E ⟨hen, hit, pt⟩ fun h' tk hk _ => ?_
    exact I.turnedL (ch := [e, it]) (fun b o hb q => hk b o hb q) hf
  self := fun A i s Q E st h => by
    obtain ⟨⟨old, he⟩, _⟩ := st
    exact wpAny_pyIter_enum he h
end Wr

namespace Wr
open PySem PyProof.Rows L2
def iEnumT (K : PySem.W.Frag) (ta : TA) : TI := fun σ H R => ta σ H fun vs H1 => ∃ (a : Addr) (xs : List V), vs = [.ref a] ∧ SqT K H1 a xs ∧ R (IteT K a) H1
theorem pi_enumT {X : Cx} {e : Expr} {ta : TA} {p pos tpos : Pos} {elts : List Expr} {kk : Nat} (hm : X.mg "enumerate" = none) (ha : PA X [e] ta) (hg : Gl X "enumerate" := by rfl)
    (hs : starEach [e] X.env = [(false, eval e X.env)] := by rfl) : PI X (.Tuple elts kk tpos) (.Call (.Name "enumerate" p) [e] [] pos) (iEnumT X.K ta) := by
  refine ⟨fun pins s σ H R I h => ?_⟩
  refine PyProof.Rows.Call_ (ld_blt I hg hm PyProof.Rows.boot_enumerate (PyProof.Rows.callWith_type1 (thn (ha.run pos pins s σ H _ I h) fun us s1 ⟨vs, H1, I1, r1, q1⟩ => ?_) hs rfl))
  obtain ⟨a, xs, rfl, hq, q⟩ := q1
  obtain rfl := Vals.ref1 r1
  obtain ⟨its, rv, pt, hz⟩ := I1.tuple hq
  have al : a < s1.heap.objs.size := pt.lt
  refine WrE.call_one (begins_tuple a its.toArray) pt fun g he hit hk => wpAny_pyIter_enum he ?_
  have I2 : Inv X pins σ H1 { s1 with heap := g } := I1.kept (t' := s1.toks) hk
  refine ⟨s1.heap.objs.size + 1, [s1.heap.objs.size + 1, s1.heap.objs.size], _, _, H1, rfl, I2, turn_enumT a (s1.heap.objs.size + 1) s1.heap.objs.size,
    ⟨⟨.none, he⟩, ⟨_, hit, rfl, rfl⟩, Nat.succ_ne_self _, Nat.ne_of_lt (Nat.lt_succ_of_lt al), Nat.ne_of_lt al⟩, fun b hb => ?_, q⟩
  have hle : s1.heap.objs.size ≤ b := by
    have e2 : b = s1.heap.objs.size + 1 ∨ b = s1.heap.objs.size := by simpa using hb
    rcases e2 with rfl | rfl
    · exact Nat.le_succ _
    · exact Nat.le_refl _
  exact I1.fpOk hle (I1.hok.fresh hle)
theorem walk_enumT {K : PySem.W.Frag} {a : Addr} {xs : List V} : Walk (IteT K a) xs.length (fun H => SqT K H a xs) (YPair (fun i => some (.int (i : Nat))) (fun i => xs[i]?)) := by
  refine ⟨fun i H hi q => ⟨xs, xs[i], q, List.getElem?_eq_getElem hi⟩, fun H q => ⟨xs, q, rfl⟩, fun i H v H' _ q y => ?_⟩
  obtain ⟨T, x, e1, e2, e3, e4⟩ := y
  exact ⟨T, .int (i : Nat), x, e1, e2, e3, rfl, e4 xs q⟩

/-! ### xs.remove(y), y there -/
theorem str_eqV (x y : Str) : eqV (.str y) (.str x) = decide (y = x) := by
  show (y == x) = decide (y = x)
  by_cases h : y = x
  · subst h
    simp
  · rw [decide_eq_false h]
    exact beq_eq_false_iff_ne.mpr h
def rRemS : V → List V → Hp → VK → Prop := fun x xs H Q => ∃ (l : Addr) (ys : List Str) (y : Str), x = .ref l ∧ xs = [.str y] ∧ H l = some (.lst (ys.map V.str)) ∧ y ∈ ys ∧ Q .non (upd H l (.lst ((ys.erase y).map V.str)))
theorem erase_at {α : Type} [DecidableEq α] : ∀ {ys : List α} {y : α}, y ∈ ys → ∃ j, j < ys.length ∧ ys[j]? = some y ∧ (∀ m, m < j → ys[m]? ≠ some y) ∧ ys.erase y = ys.eraseIdx j
  | [], y, h => nomatch h
  | a :: r, y, h => by
    by_cases e : a = y
    · subst e
      exact ⟨0, Nat.succ_pos _, rfl, fun m hm => absurd hm (Nat.not_lt_zero _), by simp⟩
    · have hr : y ∈ r := (List.mem_cons.mp h).resolve_left fun q => e q.symm
      obtain ⟨j, h1, h2, h3, h4⟩ := erase_at hr
      refine ⟨j + 1, Nat.succ_lt_succ h1, h2, fun m hm => ?_, ?_⟩
      · cases m with
        | zero => exact fun q => e (Option.some.inj q)
        | succ m => exact h3 m (Nat.lt_of_succ_lt_succ hm)
      · rw [List.erase_cons_tail (by simpa using e), h4]
        rfl
theorem map_erIdx {α : Type} (f : α → V) : ∀ (ys : List α) (j : Nat), (ys.map f).eraseIdx j = (ys.eraseIdx j).map f
  | [], _ => rfl
  | _ :: _, 0 => rfl
  | a :: r, j + 1 => congrArg (List.cons (f a)) (map_erIdx f r j)
theorem mt_removeS {X : Cx} : MtM X "list.remove" rRemS := by
  intro pins s σ H x xs v us Q I rx rxs h
  obtain ⟨l, ys, y, rfl, rfl, hH, hm, q⟩ := h
  cases rx
  obtain ⟨u, rfl, ru⟩ := rxs.one
  obtain ⟨z, its, n, r, hl, e⟩ := I.lstM hH
  obtain ⟨j, hj, hjy, hno, her⟩ := erase_at hm
  have hlen := r.length
  rw [List.length_map] at hlen z
  have hjl : j < its.toArray.size := by
    rw [List.size_toArray]
    omega
  have at_ : ∀ (m : Nat) (hm : m < its.toArray.size) (w : Str), ys[m]? = some w → eqU (.str y) its.toArray[m] = decide (w = y) := by
    intro m hm w hw
    have hw2 : (ys.map V.str)[m]? = some (.str w) := by
      rw [List.getElem?_map, hw]
      rfl
    obtain ⟨u2, h1, h2⟩ := r.get hw2
    have h3 : its.toArray[m] = u2 := by
      have h4 : its.toArray[m]? = some u2 := by
        rw [List.getElem?_toArray]
        exact h1
      rw [Array.getElem?_eq_getElem hm] at h4
      exact Option.some.inj h4
    rw [h3, eqU_of h2 rfl, str_eqV]
  refine call_meets PySem.F.slot_list_remove ⟨_, e, rfl⟩ PySem.F.entry_list_remove (PySem.F.args_list_remove_2 _ _)
    (SeqAt.list_removeAt l its.toArray n none #[] u (eqU (.str y)) j hjl ?_ ?_ (by rw [List.size_toArray]; omega)) ⟨e, fun w hw => mem_eqAt ru rfl r (flat_strs ys) w (by simpa using hw), ?_⟩
  · rw [at_ j hjl y hjy]
    exact decide_eq_true rfl
  · intro m hm hmj
    have hml : m < ys.length := by omega
    rw [at_ m hm _ (List.getElem?_eq_getElem hml)]
    refine decide_eq_false fun z => hno m hmj ?_
    rw [List.getElem?_eq_getElem hml, z]
  · have rr := r.eraseIdx j
    rw [map_erIdx, ← her] at rr
    refine ⟨.non, _, I.lset (its' := its.eraseIdx j) (t' := s.toks) hH e ?_ rr ?_, rfl, q⟩
    · show its.toArray.eraseIdxIfInBounds j = (its.eraseIdx j).toArray
      rw [List.eraseIdxIfInBounds_toArray]
    · rw [List.length_map]
      exact Nat.le_trans (List.length_erase_le ..) (by omega)
end Wr

/-! a dict whose keys are stories (tuples of pairs of texts) -/
namespace Wr
open PySem PyProof.Rows L2
/-- a story as a key -/
def nk1 (p : Dd) : NestedKey := .tup [.text p.1, .text p.2]
def nk (s : Story) : NestedKey := .tup (s.map nk1)
theorem nk1_inj {p q : Dd} (h : nk1 p = nk1 q) : p = q := by
  unfold nk1 at h
  injection h with h
  injection h with h1 h
  injection h with h2 _
  injection h1 with h1
  injection h2 with h2
  exact Prod.ext h1 h2
theorem nks_inj : ∀ {s t : Story}, s.map nk1 = t.map nk1 → s = t
  | [], [], _ => rfl
  | [], _ :: _, h => by cases h
  | _ :: _, [], h => by cases h
  | p :: s, q :: t, h => by
    rw [List.map_cons, List.map_cons] at h
    injection h with h1 h2
    rw [nk1_inj h1, nks_inj h2]
theorem nk_inj {s t : Story} (h : nk s = nk t) : s = t := by
  unfold nk at h
  injection h with h
  exact nks_inj h
theorem nk1_depth (p : Dd) : (nk1 p).depth = 1 := by simp [nk1, NestedKey.depth, NestedKey.depthAll]
theorem nks_depth : ∀ s : Story, NestedKey.depthAll (s.map nk1) ≤ 1
  | [] => by simp [NestedKey.depthAll]
  | p :: s => by
    have h := nks_depth s
    have h1 := nk1_depth p
    simp only [List.map_cons, NestedKey.depthAll]
    omega
theorem nk_depth (s : Story) : (nk s).depth ≤ 8 := by
  have h := nks_depth s
  simp only [nk, NestedKey.depth]
  omega

/-- an entry: its story, where the key's own tuple stands, its value -/
abbrev En := Story × Addr × V
abbrev EnRel : En → NestedKey × Addr × Value → Prop := fun p q => nk p.1 = q.1 ∧ p.2.1 = q.2.1 ∧ RelV p.2.2 q.2.2
def NDOk (P : Program) (w : World) (d : Addr) (es : List En) (h : Heap) : Prop :=
  (d == sysModules) = false ∧ es.length ≤ sizeLine ∧ ∃ (xs : List (NestedKey × Addr × Value)) (o : Obj) (en : Array DictEntry) (ep : Nat),
    Paired EnRel es xs ∧ h.get? d = some o ∧ o.ExactDict ∧ o.data = .dict en ep ∧ en.toList = xs.map (entryOfKey (nestedKind P w)) ∧ (xs.map (·.1)).Nodup
def ND (P : Program) (w : World) (d : Addr) (es : List En) : HO := .ext (NDOk P w d es)
theorem nd_obj {P : Program} {w : World} {H : Hp} {h : Heap} {d : Addr} {es : List En} (x : NDOk P w d es h) : ObjOk P w H h d (ND P w d es) := by
  refine ⟨x, ?_, fun h1 h2 y k => ?_⟩
  · obtain ⟨_, _, xs, o, _, _, _, e, _⟩ := x
    exact ⟨o, e⟩
  · obtain ⟨y1, y2, xs, o, en, ep, y3, y4, y5⟩ := y
    exact ⟨y1, y2, xs, o, en, ep, y3, k _ y4, y5⟩
/-- the keys stand where the entries say -/
def KeysAt (K : PySem.W.Frag) (H : Hp) (es : List En) : Prop := ∀ e ∈ es, StoryAt K H e.2.1 e.1
theorem KeysAt.mono {K : PySem.W.Frag} {H H' : Hp} {es : List En} (h : KeysAt K H es) (m : ∀ a xs, SqT K H a xs → SqT K H' a xs) : KeysAt K H' es := fun e he => (h e he).mono m
/-- where es stands, or is locked -/
abbrev NDAt (P : Program) (w : World) (H : Hp) (d : Addr) (es : List En) : Prop := Rd H d (ND P w d es)

theorem tup_vals : ∀ {as : List Addr} {us : List Value}, Vals (as.map V.ref) us → us = as.map Value.ref
  | [], us, r => by
    cases r
    rfl
  | a :: as, us, r => by
    rw [List.map_cons] at r
    cases r with
    | cons r t =>
      cases r
      rw [tup_vals t]
      rfl
section
variable {X : Cx} {pins : List (Addr × Obj)} {σ : L2.St} {H : Hp} {s : Shared}
theorem key1 (I : Inv X pins σ H s) {a : Addr} {p : Dd} (h : SqT X.K H a [.str p.1, .str p.2]) : NestedIs s.heap (nk1 p) (.ref a) := by
  obtain ⟨its, r, ⟨o, h1, h2, n, h3⟩, _⟩ := I.tuple h
  obtain ⟨u1, u2, rfl, ⟨t1, rfl⟩, ⟨t2, rfl⟩⟩ := vals2 r
  exact .tup h1 h2 h3 (.cons (.text _ _) (.cons (.text _ _) .nil))
theorem keys1 (I : Inv X pins σ H s) : ∀ {as : List Addr} {z : Story}, Paired (fun (a : Addr) (p : Dd) => SqT X.K H a [.str p.1, .str p.2]) as z → NestedAll s.heap (z.map nk1) (as.map Value.ref)
  | _, _, .nil => .nil
  | _, _, .cons r t => .cons (key1 I r) (keys1 I t)
/-- a story on the heap is a key -/
theorem key_is (I : Inv X pins σ H s) {b : Addr} {z : Story} (h : StoryAt X.K H b z) : (nestedKind X.prog X.w).is s.heap (nk z) b := by
  obtain ⟨as, h1, h2⟩ := h
  obtain ⟨its, r, ⟨o, e1, e2, n, e3⟩, _⟩ := I.tuple h1
  have ei := tup_vals r
  subst ei
  refine ⟨.tup e1 e2 e3 ?_, nk_depth z⟩
  exact keys1 I h2
theorem en_is (I : Inv X pins σ H s) {es : List En} {xs : List (NestedKey × Addr × Value)} (r : Paired EnRel es xs) (k : KeysAt X.K H es) : ∀ x ∈ xs, (nestedKind X.prog X.w).is s.heap x.1 x.2.1 := by
  induction r with
  | nil => exact fun x hx => nomatch hx
  | @cons p q es xs h t ih =>
    intro x hx
    rcases List.mem_cons.mp hx with e | hx
    · subst e
      obtain ⟨h1, h2, _⟩ := h
      rw [← h1, ← h2]
      exact key_is I (k p (List.mem_cons_self ..))
    · exact ih (fun e he => k e (List.mem_cons_of_mem _ he)) x hx
/-- the dict, to the library's rules -/
theorem nd_rd (I : Inv X pins σ H s) {d : Addr} {es : List En} (h : NDAt X.prog X.w H d es) (k : KeysAt X.K H es) : (d == sysModules) = false ∧ es.length ≤ sizeLine ∧ ∃ xs, Paired EnRel es xs ∧ s.heap.DictOfH (nestedKind X.prog X.w) d xs := by
  obtain ⟨⟨h1, h2, xs, o, en, ep, h3, h4, h5, h6, h7, h8⟩, _⟩ := (show ObjOk X.prog X.w H s.heap d (ND X.prog X.w d es) from rd_of I.hok h)
  exact ⟨h1, h2, xs, h3, o, en, ep, h4, h5, h6, h7, en_is I h3 k, h8⟩
end
/-! looking up -/
theorem at_some : ∀ {es : List En} {xs : List (NestedKey × Addr × Value)} {z : Story}, Paired EnRel es xs → (atKey xs (nk z)).isSome = decide (z ∈ es.map (·.1))
  | _, _, z, .nil => rfl
  | p :: es, q :: xs, z, .cons r t => by
    have ih := at_some (z := z) t
    unfold atKey at ih ⊢
    rw [List.find?_cons]
    by_cases h : z = p.1
    · have e : q.1 = nk z := by rw [h, r.1]
      simp [e, h]
    · have e : ¬ q.1 = nk z := by
        rw [← r.1]
        exact fun y => h (nk_inj y).symm
      have h2 : decide (q.1 = nk z) = false := decide_eq_false e
      rw [h2]
      simp only [List.map_cons, List.mem_cons]
      rw [ih]
      simp [h]
theorem at_mem : ∀ {es : List En} {xs : List (NestedKey × Addr × Value)} {z : Story} {a : Addr} {v : V}, Paired EnRel es xs → (es.map (·.1)).Nodup → (z, a, v) ∈ es → ∃ u, atKey xs (nk z) = some (a, u) ∧ RelV v u
  | _, _, z, a, v, .nil, _, h => nomatch h
  | p :: es, q :: xs, z, a, v, .cons r t, n, h => by
    rw [List.map_cons, List.nodup_cons] at n
    unfold atKey
    rw [List.find?_cons]
    rcases List.mem_cons.mp h with e | h
    · subst e
      have e1 : q.1 = nk z := r.1.symm
      have e2 : a = q.2.1 := r.2.1
      refine ⟨q.2.2, ?_, r.2.2⟩
      simp [e1, e2]
    · have hz : z ≠ p.1 := fun e => n.1 (e ▸ List.mem_map.mpr ⟨_, h, rfl⟩)
      have e : ¬ q.1 = nk z := by
        rw [← r.1]
        exact fun y => hz (nk_inj y).symm
      obtain ⟨u, h1, h2⟩ := at_mem (z := z) t n.2 h
      rw [decide_eq_false e]
      exact ⟨u, h1, h2⟩
/-! storing -/
def putN (es : List En) (z : Story) (b : Addr) (v : V) : List En := if z ∈ es.map (·.1) then es.map (fun e => if e.1 = z then (e.1, e.2.1, v) else e) else es ++ [(z, b, v)]
theorem put_rel {z : Story} {v : V} {u : Value} (ru : RelV v u) : ∀ {es : List En} {xs : List (NestedKey × Addr × Value)}, Paired EnRel es xs → Paired EnRel (es.map (fun e => if e.1 = z then (e.1, e.2.1, v) else e)) (xs.map (putAt (nk z) u))
  | _, _, .nil => .nil
  | p :: es, q :: xs, .cons r t => by
    rw [List.map_cons, List.map_cons]
    refine .cons ?_ (put_rel ru t)
    unfold putAt
    by_cases h : p.1 = z
    · have e : q.1 = nk z := by rw [← r.1, h]
      rw [if_pos h, if_pos e]
      exact ⟨r.1, r.2.1, ru⟩
    · have e : ¬ q.1 = nk z := by
        rw [← r.1]
        exact fun y => h (nk_inj y)
      rw [if_neg h, if_neg e]
      exact r
theorem put_stored {es : List En} {xs : List (NestedKey × Addr × Value)} {z : Story} {b : Addr} {v : V} {u : Value} (r : Paired EnRel es xs) (ru : RelV v u) : Paired EnRel (putN es z b v) (storedH xs (nk z) b u) := by
  unfold putN storedH
  rw [at_some r]
  by_cases h : z ∈ es.map (·.1)
  · rw [if_pos h, if_pos (decide_eq_true h)]
    exact put_rel ru r
  · rw [if_neg h, if_neg (by simpa using h)]
    exact pr_app r (.cons ⟨rfl, rfl, ru⟩ .nil)
theorem putN_len (es : List En) (z : Story) (b : Addr) (v : V) : (putN es z b v).length ≤ es.length + 1 := by
  unfold putN
  split
  · rw [List.length_map]
    omega
  · rw [List.length_append, List.length_singleton]
    exact Nat.le_refl _
section
variable {X : Cx}
/-- z in d -/
def rInN (X : Cx) : R2 := fun x y H Q => ∃ (d b : Addr) (es : List En) (z : Story), x = .ref b ∧ y = .ref d ∧ NDAt X.prog X.w H d es ∧ KeysAt X.K H es ∧ StoryAt X.K H b z ∧ Q (.bl (decide (z ∈ es.map (·.1)))) H
theorem op_inN (hu : X.A.units + 64 < cLine) : OpR X (compareOp .In) (rInN X) := by
  intro pins s σ H x y v u Q I rx ry h
  obtain ⟨d, b, es, z, rfl, rfl, hd, hk, hz, q⟩ := h
  cases rx
  cases ry
  obtain ⟨ds, _, xs, r, dd⟩ := nd_rd I hd hk
  refine wpAny_in_heap (show X.A.in1.units + 8 < cLine by show X.A.units + 1 + 8 < cLine; omega) (key_is I hz) ds dd ?_
  rw [at_some r]
  exact ⟨.bl _, H, I.tok _, rfl, q⟩
/-- d[z] -/
def rIxN (X : Cx) : R2 := fun x y H Q => ∃ (d b : Addr) (es : List En) (z : Story) (a : Addr) (v : V), x = .ref d ∧ y = .ref b ∧ NDAt X.prog X.w H d es ∧ KeysAt X.K H es ∧ (es.map (·.1)).Nodup ∧ StoryAt X.K H b z ∧ (z, a, v) ∈ es ∧ Q v H
theorem ix_nd (hu : X.A.units + 64 < cLine) : IxR X (rIxN X) := by
  intro value slice pins s σ H x y v u Q I rx ry h hs
  obtain ⟨d, b, es, z, a, w, rfl, rfl, hd, hk, hn, hz, hm, q⟩ := h
  cases rx
  cases ry
  obtain ⟨ds, _, xs, r, dd⟩ := nd_rd I hd hk
  obtain ⟨uv, e1, e2⟩ := at_mem r hn hm
  refine tail_any (ops := [.ref d, .ref b]) dd.typeIs (PySem.F.slot_dict_getitem.lookup) ?_ hs
  exact wpAny_getItem_heap (show X.A.in1.units + 8 < cLine by show X.A.units + 1 + 8 < cLine; omega) (key_is I hz) dd e1 ⟨w, H, I.tok _, e2, q⟩
/-- d[z] = v -/
def rSetN (X : Cx) : TSet := fun o i v H Q => ∃ (d b : Addr) (es : List En) (z : Story), o = .ref d ∧ i = .ref b ∧ H d = some (ND X.prog X.w d es) ∧ KeysAt X.K H es ∧ StoryAt X.K H b z ∧ es.length < sizeLine ∧ Q (upd H d (ND X.prog X.w d (putN es z b v)))
theorem set_nd (hu : X.A.units + 64 < cLine) : PSet X (rSetN X) := by
  intro pins s σ H o i v ov iv u Q I ro ri rv h
  obtain ⟨d, b, es, z, rfl, rfl, hd, hk, hz, hl, q⟩ := h
  cases ro
  cases ri
  obtain ⟨ds, _, xs, r, dd⟩ := nd_rd I (.inl hd) hk
  refine wpAny_setItem_heap (show X.A.in1.units + 8 < cLine by show X.A.units + 1 + 8 < cLine; omega) (key_is I hz) dd (fun h' dd' hs => ⟨_, ?_, q⟩) (by rw [← Paired.length r]; omega)
  obtain ⟨o, en, ep, e1, e2, e3, e4, _, e5⟩ := dd'
  refine I.write (e := d) (t' := s.toks + _) (by rw [hd]; exact True.intro) (.inl rfl) (fun c w hc e => (hs.2 c hc).trans e) ⟨o, e1⟩ (nd_obj ⟨ds, ?_, _, o, en, ep, put_stored r rv, e1, e2, e3, e4, e5⟩)
  exact Nat.le_trans (putN_len es z b v) hl
/-- len(d) -/
def rLenN (X : Cx) : List V → Hp → VK → Prop := fun vs H Q => ∃ (d : Addr) (es : List En), vs = [.ref d] ∧ NDAt X.prog X.w H d es ∧ KeysAt X.K H es ∧ Q (.int ((es.length : Nat) : Int)) H
theorem call_lenN : CallR X (.builtin "len") (rLenN X) := by
  intro pins s σ H vs us Q I r h
  obtain ⟨d, es, rfl, hd, hk, q⟩ := h
  obtain rfl := Vals.ref1 r
  obtain ⟨ds, hz, xs, rl, dd⟩ := nd_rd I hd hk
  have hl := Paired.length rl
  refine call_len_dictH ds dd (by rw [← hl]; rw [sizeLine_eq] at hz; omega) ?_
  rw [← hl]
  exact ⟨.int ((es.length : Nat) : Int), H, I.tok _, ⟨_, rfl⟩, q⟩
end
end Wr

namespace Wr
open PySem PyProof.Rows L2
/-- the keys of the locked dict at d, each its own tuple -/
def ItN (P : Program) (w : World) (d : Addr) (o : Obj) (es : List En) : It :=
  ⟨fun i H => H d = some (.frz o (ND P w d es)) ∧ i < es.length,
   fun i H x H' => H' = H ∧ ∃ e : En, es[i]? = some e ∧ x = .ref e.2.1,
   fun i H => H d = some (.frz o (ND P w d es)) ∧ i = es.length⟩
theorem frz_nd {X : Cx} {pins : List (Addr × Obj)} {σ : L2.St} {H : Hp} {s : Shared} {d : Addr} {o : Obj} {es : List En} (I : Inv X pins σ H s) (h : H d = some (.frz o (ND X.prog X.w d es))) :
    (d == sysModules) = false ∧ s.heap.get? d = some o ∧ o.ExactDict ∧ ∃ (en : Array DictEntry) (ep : Nat), o.data = .dict en ep ∧ en.size = es.length ∧ ∀ (i : Nat) (e : En), es[i]? = some e → ∃ x : DictEntry, en[i]? = some x ∧ x.key = .ref e.2.1 := by
  obtain ⟨ho, ⟨h1, _, xs, o', en, ep, h3, h4, h5, h6, h7, _⟩, _⟩ := I.hok d _ h
  rw [ho] at h4
  obtain rfl := Option.some.inj h4
  refine ⟨h1, ho, h5, en, ep, h6, ?_, fun i e he => ?_⟩
  · rw [size_of_entries h7, ← Paired.length h3]
  · obtain ⟨x, e1, e2⟩ := pr_at2 h3 he
    refine ⟨entryOfKey (nestedKind X.prog X.w) x, ?_, ?_⟩
    · rw [entry_at h7 i, e1]
      rfl
    · show Value.ref x.2.1 = Value.ref e.2.1
      rw [e2.2.1]
theorem turn_nd {P : Program} {w : World} {K : PySem.W.Frag} {tg : Expr} {d : Addr} {o : Obj} {es : List En} {en : Array DictEntry} {ep : Nat} (it : Addr) (hod : o.data = .dict en ep) :
    Turn P w K tg (ItN P w d o es) [it] it (fun i h => h.IsKeyIter it d i es.length ep) where
  mem := List.mem_singleton.mpr rfl
  obj := fun i h st b hb => by
    rw [List.mem_singleton] at hb
    obtain ⟨ob, e1, _, e3⟩ := st
    rw [hb]
    exact ⟨ob, e1, fun v z => by rw [e3] at z; cases z⟩
  keep := fun i h h' st k => st.at fun ob e => k it (List.mem_singleton.mpr rfl) ob e
  item := by
    intro X hP hw hK hc i pins s σ H E I hf st hg
    subst hP hw hK
    obtain ⟨hd, hi⟩ := hg
    obtain ⟨g0, g1, _, g3, g4, g5⟩ := hf it (List.mem_singleton.mpr rfl)
    obtain ⟨_, ho, _, en', ep', hdt, hsz, ent⟩ := frz_nd I hd
    obtain ⟨e1, e2⟩ := dict_ep hod hdt
    subst e1 e2
    obtain ⟨x, hx, hk⟩ := ent i es[i] (List.getElem?_eq_getElem hi)
    refine next_key_item st ho hdt hsz hx fun h' st' sb => ?_
    have I1 : Inv X pins σ H { s with heap := h' } := I.turned (t' := s.toks) (fun b ob hb e => (sb.2 b hb).trans e) g0 g1 g3 g4 g5
    obtain ⟨oi, i1, i2, i3⟩ := id st'
    exact ⟨x.key, rfl, go_of (s := { s with heap := h' }) i1 i2 i3 (by decide) ⟨.ref es[i].2.1, H, I1, hk, ⟨rfl, es[i], List.getElem?_eq_getElem hi, rfl⟩, st', fun b hb => (hf b hb).1⟩⟩
  done := by
    intro X hP hw hK hc i pins s σ H E I hf st hg
    subst hP hw hK
    obtain ⟨hd, hi⟩ := hg
    obtain ⟨g0, g1, _, g3, g4, g5⟩ := hf it (List.mem_singleton.mpr rfl)
    obtain ⟨_, ho, _, en', ep', hdt, hsz, ent⟩ := frz_nd I hd
    obtain ⟨e1, e2⟩ := dict_ep hod hdt
    subst e1 e2
    exact next_key_end (I.ok.hd hc) st ho hdt hsz (by omega) fun h' eb => ⟨rfl, I.turned (t' := s.toks) (fun b ob hb e => eb b ob hb e) g0 g1 g3 g4 g5⟩
  self := fun A i s Q E st h => wpAny_pyIter_keyiter st h
def iND (X : Cx) (td : TE) : TI := fun σ H R => td σ H fun x H1 => ∃ (d : Addr) (o : Obj) (es : List En), x = .ref d ∧ H1 d = some (.frz o (ND X.prog X.w d es)) ∧ R (ItN X.prog X.w d o es) H1
theorem pi_nd {X : Cx} {tg e : Expr} {td : TE} (he : PE X e td) : PI X tg e (iND X td) := by
  refine ⟨fun pins s σ H R I h => ?_⟩
  refine thn (he.run pins s σ H _ I h) fun u s1 ⟨x, H1, I1, rx, d, o, es, ex, hd, q⟩ => ?_
  subst ex
  cases rx
  obtain ⟨hs, ho, hx, en, ep, hdt, hsz, _⟩ := frz_nd I1 hd
  refine iter_keys hs ho hx hdt (pi_one (tk := s1.toks) I1 _ (turn_nd _ hdt) ⟨_, Heap.get?_push_size _ rfl, rfl, ?_⟩ q)
  rw [hsz]
  all_goals rfl
theorem walk_nd {P : Program} {w : World} {d : Addr} {o : Obj} {es : List En} : Walk (ItN P w d o es) es.length (fun H => H d = some (.frz o (ND P w d es))) (fun i H x H' => H' = H ∧ ∃ e : En, es[i]? = some e ∧ x = .ref e.2.1) :=
  ⟨fun _ _ hi q => ⟨q, hi⟩, fun _ q => ⟨q, rfl⟩, fun _ _ _ _ _ _ y => y⟩

/-! ### {z: v}, z a story -/
theorem nd_empty {P : Program} {w : World} {H : Hp} (h : Heap) (hb : sysModules < h.objs.size) : ObjOk P w H (h.push { cls := .type "dict", data := .dict #[] }) h.objs.size (ND P w h.objs.size []) :=
  nd_obj ⟨beq_eq_false_iff_ne.mpr (Ne.symm (Nat.ne_of_lt hb)), Nat.zero_le _, [], _, #[], 0, .nil, Heap.get?_push_size _ rfl, ⟨rfl, rfl, rfl⟩, rfl, rfl, List.nodup_nil⟩
def tDisp1 (X : Cx) (tk tv : TE) : TE := fun σ H Q => ∀ d, H d = none → tk σ (upd H d (ND X.prog X.w d [])) fun x H1 => tv σ H1 fun y H2 => ∃ (b : Addr) (z : Story), x = .ref b ∧ H2 d = some (ND X.prog X.w d []) ∧ StoryAt X.K H2 b z ∧ Q (.ref d) (upd H2 d (ND X.prog X.w d [(z, b, y)]))
theorem pe_disp1 {X : Cx} {k v : Expr} {tk tv : TE} {pos : Pos} (hu : X.A.units + 64 < cLine) (hk : PE X k tk) (hv : PE X v tv) : PE X (.Dict [some k] [v] pos) (tDisp1 X tk tv) := by
  refine ⟨fun pins s σ H Q I q => ?_⟩
  have hn := I.hok.fresh (Nat.le_refl s.heap.objs.size)
  have I1 := I.laid (a := s.heap.objs.size) (o := ND X.prog X.w s.heap.objs.size []) (h' := s.heap.push { cls := .type "dict", data := .dict #[] }) (t' := s.toks) (fun _ _ q => Heap.get?_push_of_some _ q) (Nat.le_refl _) (nd_empty s.heap I.big)
  rw [arm_eval_Dict, zip_pairTrees [some k] [v] X.env pos rfl rfl, dictDisplay_pairs _ (by simp [pairTrees]) (by simp [pairTrees])]
  refine wpAny_bind (wpAny_standAt (wpAny_bind (wpAny_subDictH (knd := nestedKind X.prog X.w) (show X.A.units + 8 < cLine by omega) (by simp [pairTrees]) ?_)))
  refine pairTrees_cons_walk (thn (hk.run pins _ σ _ _ I1 (q _ hn)) fun u s1 ⟨x, H1, J1, rx, q1⟩ => thn (hv.run pins s1 σ H1 _ J1 q1) fun u2 s2 ⟨y, H2, J2, ry, b, z, ex, hd, hz, q2⟩ => pairTrees_nil_walk ?_)
  subst ex
  cases rx
  obtain ⟨ds, _, xs, r, dd⟩ := nd_rd J2 (.inl hd) (fun e he => nomatch he)
  cases r
  refine ⟨[(nk z, b, u2)], ⟨rfl, rfl, key_is J2 hz, trivial⟩, dd, fun h' tk dd' hs => wpAny_pure ⟨.ref s.heap.objs.size, _, ?_, rfl, q2⟩⟩
  obtain ⟨o, en, ep, e1, e2, e3, e4, _, e5⟩ := dd'
  refine J2.write (e := s.heap.objs.size) (by rw [hd]; exact True.intro) (.inl rfl) (fun c w hc e => (hs.2 c hc).trans e) ⟨o, e1⟩ (nd_obj ⟨ds, (by show 1 ≤ sizeLine; decide), _, o, en, ep, ?_, e1, e2, e3, e4, e5⟩)
  exact .cons ⟨rfl, rfl, ry⟩ .nil
end Wr

namespace Wr
open PySem L2
theorem pr_rev {α β : Type} {F : α → β → Prop} : ∀ {as : List α} {bs : List β}, Paired F as bs → Paired F as.reverse bs.reverse
  | _, _, .nil => .nil
  | _, _, .cons r t => by
    rw [List.reverse_cons, List.reverse_cons]
    exact Paired.snoc (pr_rev t) r
/-- a shape's own tuple, of a deed -/
def DeedAt (K : PySem.W.Frag) (H : Hp) (a : Addr) (p : Dd) : Prop := ∃ m : Int, SqT K H a [.int m, .str p.1, .str p.2]
theorem DeedAt.same {K : PySem.W.Frag} {H H' : Hp} {a : Addr} {p : Dd} (h : DeedAt K H a p) (e : Same H H') : DeedAt K H' a p := by
  obtain ⟨m, q⟩ := h
  exact ⟨m, same_tup e q⟩
theorem dec_str {x y : Str} : decide (V.str x = V.str y) = decide (x = y) := by
  by_cases h : x = y
  · rw [h, decide_eq_true rfl, decide_eq_true rfl]
  · rw [decide_eq_false h, decide_eq_false fun q => h (V.str.inj q)]
theorem pf_len {s : Story} (h : Okay s) : (pf s).length ≤ s.length := by
  rw [h.fields.1]
  exact lf_len s
section
variable {P : Program} {w : World} {K : PySem.W.Frag} {mg : Str → Option Value} {base : Heap}
def spFa (K : PySem.W.Frag) : Sp := fun vs H Q _ => ∃ (b : Addr) (L : List Story) (s : Story), vs = [.ref b, .int (L.idxOf s : Nat)] ∧ ShapesAt K H b L ∧ Tree L ∧ s ∈ L ∧
  ∀ (p : Addr) (H' : Hp), Same H H' → H p = none → H' p = some (.tup ((lf s).map V.str)) → Q (.ref p) H'
theorem scFa : FnScope ["shapes", "number", "story", "fields", "shape"] ["shapes", "number"] (defScope sFa) := ⟨rfl, rfl, rfl, by decide +kernel, rfl, by decide +kernel, by decide +kernel⟩
theorem has_fa (B : Bl mg) (S : Has P w K mg base 1 "is_shape" ["shapes", "number"] (spIs K)) (D : DefAt K mg "fields_at" sFa ["shapes", "number"]) : Has P w K mg base 2 "fields_at" ["shapes", "number"] (spFa K) := by
  refine .of D fun f fd F => F.ok scFa (fun vs H Q E h => ?_) (fun cdv A outer s H vs Q E hr h => ?_)
  · obtain ⟨b, L, z, rfl, _⟩ := h
    rfl
  · obtain ⟨b, L, z, rfl, hb, hL, hz, q⟩ := h
    refine ⟨_, (pss_cons (ps_if (pt_not (pt_val (pe_has S hr (pa_cons (pv 0) (pa_cons (pv 1) pa_nil))))) pss_never pss_nil)
      (pss_cons (ps_set (i := 2) scFa.nd rfl (.inl rfl) (pe_lst pa_nil))
      (pss_cons (ps_while PassesOwn.never (pt_cmpR op_gt (pv 1) pe_int (nomark _))
      (pss_cons (ps_expr (pe_bm PySem.F.plainAttrs_list PySem.F.slot_list_append PySem.F.type_list_append mt_append (pv 2) (pa_cons (pe_ix ix_tup (pv 0) (pv 1) (fun _ _ => rfl)) pa_nil)))
      (pss_one (ps_set (i := 1) scFa.nd rfl (.inl rfl) (pe_ix ix_tup (pe_ix ix_tup (pv 0) (pv 1) (fun _ _ => rfl)) pe_int (fun _ _ => rfl))))))
      (pss_cons (ps_set (i := 3) scFa.nd rfl (.inl rfl) (pe_lst pa_nil))
      (pss_cons (ps_for PassesOwn.never rfl (pi_list (pe_revL (pv 2))) (pg_name (i := 4) scFa.nd rfl (.inl rfl))
      (pss_one (ps_if (pt_cmpR op_eq (pe_ix ix_tup (pv 4) pe_int (fun _ _ => rfl)) pe_str (nomark _)) (pss_one (ps_expr (pe_bm PySem.F.plainAttrs_list PySem.F.slot_list_append PySem.F.type_list_append mt_append (pv 3) (pa_cons (pe_ix ix_tup (pv 4) pe_int (fun _ _ => rfl)) pa_nil)))) (pss_one (ps_expr (pe_bm PySem.F.plainAttrs_list PySem.F.slot_list_remove PySem.F.type_list_remove mt_removeS (pv 3) (pa_cons (pe_ix ix_tup (pv 4) pe_int (fun _ _ => rfl)) pa_nil)))))))
      (pss_one (ps_ret (pe_callTy call_tuple_of (by rfl) B.tuple PyProof.Rows.boot_tuple (pa_cons (pv 3) pa_nil))))))))), ?_⟩
    obtain ⟨xs, hx, lx⟩ := hb.seq
    have h16 := hL.len z hz
    have hok := hL.ok z hz
    have hlt : L.idxOf z < L.length := List.idxOf_lt_length_iff.mpr hz
    -- the refusal that isn't
    refine ⟨_, rfl, _, rfl, b, xs, _, rfl, hx, by omega, by omega, _, rfl, iteF ?_⟩
    -- the way back
    refine ⟨Nat.zero_le _, fun l hl => ?_⟩
    refine ⟨fun m σ H1 => ∃ (j : Nat) (bs : List Addr), m = z.length - j ∧ j ≤ z.length ∧ σ = [some (.ref b), some (.int (L.idxOf (z.take (z.length - j)) : Nat)), some (.ref l), none, none] ∧ Same H H1 ∧ H1 l = some (.lst (bs.map V.ref)) ∧
        Paired (DeedAt K H1) bs (z.drop (z.length - j)).reverse, ⟨z.length, 0, [], rfl, Nat.zero_le _, ?_, Same.upd hl, upd_same, ?_⟩, ?_⟩
    · rw [Nat.sub_zero, List.take_length]
      rfl
    · rw [Nat.sub_zero, List.drop_length]
      exact .nil
    · rintro m σ H1 ⟨j, bs, rfl, hj, rfl, s1, hl1, hp⟩
      have lbs := Paired.length hp
      rw [List.length_reverse, List.length_drop] at lbs
      have hm := hL.begs _ z rfl hz (z.length - j)
      refine ⟨_, rfl, _, _, rfl, rfl, _, rfl, ?_⟩
      by_cases hjz : j = z.length
      · -- the end
        have e0 : z.length - j = 0 := by omega
        rw [e0, List.take_zero, hL.ix_nil]
        refine iteF ?_
        rw [e0, List.drop_zero] at hp
        refine ⟨Nat.zero_le _, fun fl hfl => ?_⟩
        have s2 : Same H1 (upd H1 fl (.lst [])) := Same.upd hfl
        refine ⟨_, rfl, l, _, rfl, SqL.of (s2 _ _ hl1), fun g hg => ?_⟩
        have s3 : Same (upd H1 fl (.lst [])) (upd (upd H1 fl (.lst [])) g (.lst (bs.map V.ref).reverse)) := Same.upd hg
        have nfg : fl ≠ g := fun e => by rw [← e, upd_same] at hg; cases hg
        have hp2 : Paired (DeedAt K H1) bs.reverse z := by
          have h1 := pr_rev hp
          rw [List.reverse_reverse] at h1
          exact h1
        rw [← List.map_reverse] at s3 ⊢
        have lrev := Paired.length hp2
        refine ⟨g, rfl, ⟨_, SqL.of upd_same⟩, ?_⟩
        refine for_list (K := K) (a := g) (xs := bs.reverse.map V.ref) (fun i σ H2 => ∃ v4 : Option V, σ = [some (.ref b), some (.int ((0 : Nat) : Int)), some (.ref l), some (.ref fl), v4] ∧ Same H1 H2 ∧ H2 g = some (.lst (bs.reverse.map V.ref)) ∧ H2 fl = some (.lst ((pf (z.take i)).map V.str)))
          ⟨none, rfl, Same.trans s2 s3, upd_same, by rw [upd_ne nfg, upd_same]; rfl⟩ (fun i σ H2 _ ⟨_, _, _, e, _⟩ => SqL.of e) ?_ ?_
        · rintro i x σ H2 hi ⟨v4, rfl, s4, hg2, hf2⟩
          rw [List.getElem?_map] at hi
          cases ea : bs.reverse[i]? with
          | none => rw [ea] at hi; cases hi
          | some a =>
            rw [ea] at hi
            obtain rfl := Option.some.inj hi
            obtain ⟨p, ep, mm, ha⟩ := pr_at2 hp2 ea
            have ha2 : SqT K H2 a [.int mm, .str p.1, .str p.2] := same_tup s4 ha
            have hil := (List.getElem?_eq_some_iff.mp ep).1
            have et : z.take (i + 1) = z.take i ++ [p] := by rw [List.take_add_one, ep]; rfl
            have hokt : Okay (z.take i ++ [p]) := by rw [← et]; exact hok.take _
            have hlen : (pf (z.take i)).length ≤ 16 := Nat.le_trans (pf_len (hok.take i)) (by rw [List.length_take]; omega)
            have nh : H fl = none := s1.free hfl
            refine ⟨_, rfl, a, _, 1, _, rfl, rfl, ha2, rfl, rfl, _, rfl, ?_⟩
            show (if decide (V.str p.1 = V.str pu) = true then _ else _)
            rw [dec_str]
            refine ite2 (fun e => ?_) (fun e => ?_)
            · have e1 : p.1 = pu := of_decide_eq_true e
              refine ⟨_, rfl, .inl ⟨rfl, _, SqL.of hf2⟩, _, rfl, a, _, 2, _, rfl, rfl, ha2, rfl, fl, _, _, rfl, rfl, hf2, ?_, ?_⟩
              · rw [List.length_map]
                exact small1000 (by omega)
              · refine ⟨_, rfl, fun c o ec => ?_, ?_, ?_⟩
                · rw [upd_ne (ne_of_none ec hfl)]
                  exact s4 _ _ ec
                · rw [upd_ne (Ne.symm nfg)]
                  exact hg2
                · rw [upd_same, et, pf_snoc]
                  unfold pf1
                  rw [if_pos e1, List.map_append]
                  rfl
            · have e1 : ¬ p.1 = pu := of_decide_eq_false (by simpa using e)
              refine ⟨_, rfl, .inl ⟨rfl, _, SqL.of hf2⟩, _, rfl, a, _, 2, _, rfl, rfl, ha2, rfl, fl, _, _, rfl, rfl, hf2, hokt.drop_mem e1, ?_⟩
              refine ⟨_, rfl, fun c o ec => ?_, ?_, ?_⟩
              · rw [upd_ne (ne_of_none ec hfl)]
                exact s4 _ _ ec
              · rw [upd_ne (Ne.symm nfg)]
                exact hg2
              · rw [upd_same, et, pf_snoc]
                unfold pf1
                rw [if_neg e1]
        · rintro σ H2 ⟨v4, rfl, s4, hg2, hf2⟩
          rw [List.length_map, lrev, List.take_length, hok.fields.1] at hf2
          refine ⟨_, rfl, fl, _, rfl, .inl ⟨SqL.of hf2, fun p hp => ?_⟩⟩
          exact q p _ (Same.trans s1 (Same.trans s4 (Same.upd hp))) ((Same.trans s1 s4).free hp) upd_same
      · -- one deed back
        have hk : z.length - j - 1 < z.length := by omega
        have et : z.take (z.length - j) = z.take (z.length - (j + 1)) ++ [z[z.length - j - 1]] := by
          have h1 : z.length - j = (z.length - (j + 1)) + 1 := by omega
          conv => lhs; rw [h1]
          rw [List.take_add_one, show z.length - (j + 1) = z.length - j - 1 by omega, List.getElem?_eq_getElem hk]
          rfl
        have ed : z.drop (z.length - (j + 1)) = z[z.length - j - 1] :: z.drop (z.length - j) := by
          have h1 : z.length - (j + 1) = z.length - j - 1 := by omega
          rw [h1, List.drop_eq_getElem_cons hk]
          have h2 : z.length - j - 1 + 1 = z.length - j := by omega
          rw [h2]
        have hpos : 0 < L.idxOf (z.take (z.length - j)) := by
          refine Nat.pos_of_ne_zero fun e => ?_
          have e2 : z.take (z.length - j) = [] := ix_inj hm (by rw [hL.ix_nil]; exact e) hL.nil_mem
          rw [et] at e2
          exact snoc_ne _ _ e2
        have hd : decide ((0 : Int) < ((L.idxOf (z.take (z.length - j)) : Nat) : Int)) = true := decide_eq_true (by omega)
        show (if decide ((0 : Int) < ((L.idxOf (z.take (z.length - j)) : Nat) : Int)) = true then _ else _)
        rw [hd]
        refine iteT ?_
        obtain ⟨ys, a, hy, hya, ha⟩ := (hb.same s1).item (ix_get hm)
        conv at ha => rw [et, rowV_snoc]
        refine ⟨fun σ' H2 => ∃ bs' : List Addr, σ' = [some (.ref b), some (.int (L.idxOf (z.take (z.length - (j + 1))) : Nat)), some (.ref l), none, none] ∧ Same H H2 ∧ H2 l = some (.lst (bs'.map V.ref)) ∧ Paired (DeedAt K H2) bs' (z.drop (z.length - (j + 1))).reverse, ?_, ?_⟩
        · rintro σ' H2 ⟨bs', rfl, s2, hl2, hp2⟩
          exact ⟨z.length - (j + 1), by omega, j + 1, bs', rfl, by omega, rfl, s2, hl2, hp2⟩
        · refine ⟨_, rfl, .inl ⟨rfl, _, SqL.of hl1⟩, _, rfl, _, rfl, b, ys, _, _, rfl, rfl, hy, atI_nat hya, l, _, _, rfl, rfl, hl1, ?_, ?_⟩
          · rw [List.length_map]
            exact small1000 (by omega)
          · have b1 : But l H1 (upd H1 l (.lst (bs.map V.ref ++ [.ref a]))) := But.upd
            have tk : ∀ c vs, SqT K H1 c vs → SqT K (upd H1 l (.lst (bs.map V.ref ++ [.ref a]))) c vs := fun c vs h => b1.tup hl1 (fun _ z => nomatch z) (fun _ _ z => nomatch z) h
            refine ⟨_, rfl, _, rfl, b, ys, _, _, rfl, rfl, tk _ _ hy, atI_nat hya, a, _, 0, _, rfl, rfl, tk _ _ ha, rfl, ?_⟩
            refine ⟨bs ++ [a], rfl, fun c o ec => ?_, ?_, ?_⟩
            · rw [upd_ne (ne_of_none ec hl)]
              exact s1 _ _ ec
            · rw [upd_same, List.map_append]
              rfl
            · rw [ed, List.reverse_cons]
              refine Paired.snoc (Paired.mono (fun c p h => ?_) hp) ⟨_, tk _ _ ha⟩
              obtain ⟨mm, h⟩ := h
              exact ⟨mm, tk _ _ h⟩
end
end Wr

namespace Wr
open PySem L2
/-- a shape is the one that is asked for -/
theorem row_is {L : List Story} (t : Tree L) {x s : Story} (hx : x ∈ L) (hs : s ∈ L) (p : Dd) : PyData.eqv (rowD L x) (.tuple [.int (L.idxOf s : Nat), .str p.1, .str p.2]) = decide (x = s ++ [p]) := by
  by_cases hn : x = []
  · subst hn
    rw [rowD_nil, decide_eq_false (fun e => snoc_ne s p e.symm)]
    simp [PyData.eqv, PyData.eqvAll]
  · obtain ⟨u, q, e, e2⟩ := snoc_of hn
    have hu : u ∈ L := e2 ▸ t.par_mem hx
    subst e
    rw [rowD_snoc]
    have h1 : PyData.eqv (.tuple [.int (L.idxOf u : Nat), .str q.1, .str q.2]) (.tuple [.int (L.idxOf s : Nat), .str p.1, .str p.2]) = (((L.idxOf u : Nat) : Int) == ((L.idxOf s : Nat) : Int) && ((q.1 == p.1) && ((q.2 == p.2) && true))) := by
      simp only [PyData.eqv, PyData.eqvAll]
    rw [h1]
    by_cases h : u ++ [q] = s ++ [p]
    · obtain ⟨h2, h3⟩ := snoc_inj h
      subst h2 h3
      simp
    · rw [decide_eq_false h]
      by_cases a1 : L.idxOf u = L.idxOf s
      · have hus := ix_inj hu a1 hs
        subst hus
        have hqp : q ≠ p := fun e => h (by rw [e])
        by_cases a2 : q.1 = p.1
        · have a3 : q.2 ≠ p.2 := fun e => hqp (Prod.ext a2 e)
          have b3 : (q.2 == p.2) = false := beq_eq_false_iff_ne.mpr a3
          simp [b3]
        · have b2 : (q.1 == p.1) = false := beq_eq_false_iff_ne.mpr a2
          simp [b2]
      · have b1 : (((L.idxOf u : Nat) : Int) == ((L.idxOf s : Nat) : Int)) = false := beq_eq_false_iff_ne.mpr (by omega)
        rw [b1, Bool.false_and]
theorem ask_shaped {n : Int} {p : Dd} (h1 : PyData.strOk p.1 = true) (h2 : PyData.strOk p.2 = true) : SeqAt.shaped (.tuple [.int n, .str p.1, .str p.2]) = true := by
  show (PyData.canLay0 (.tuple [.int n, .str p.1, .str p.2]) && decide (PyData.depth (.tuple [.int n, .str p.1, .str p.2]) ≤ 64)) = true
  rw [Bool.and_eq_true]
  exact ⟨by simp [PyData.canLay0, PyData.canLayAll0, h1, h2], by simp [PyData.depth, PyData.depthAll]⟩
theorem row_shaped {L : List Story} {s : Story} (h : Okay s) : SeqAt.shaped (rowD L s) = true := by
  obtain ⟨h1, h2⟩ := row_ok (L := L) h
  show ((rowD L s).canLay0 && decide ((rowD L s).depth ≤ 64)) = true
  rw [Bool.and_eq_true]
  exact ⟨h1, decide_eq_true (by omega)⟩
theorem Okay.last {s : Story} {p : Dd} (h : Okay (s ++ [p])) : PyData.strOk p.1 = true ∧ PyData.strOk p.2 = true := by
  have g := h.good p (List.mem_append_right _ (List.mem_singleton.mpr rfl))
  refine ⟨?_, g.2⟩
  rcases g.1 with q | q
  · rw [q]; decide +kernel
  · rw [q]; decide +kernel
/-- the shapes behind a deed -/
def after (L : List Story) (x : Story) : List Story := if x ∈ L then L else L ++ [x]
theorem after_mem (L : List Story) (x : Story) : x ∈ after L x := by
  unfold after
  split
  · assumption
  · exact List.mem_append_right _ (List.mem_singleton.mpr rfl)
theorem line1000b {n : Nat} (h : n ≤ 2000) : n ≤ sizeLine := Nat.le_trans h (by decide)
theorem pr_rows {K : PySem.W.Frag} {H : Hp} {L : List Story} (t : Tree L) {x : Story} : ∀ {as : List Addr} {ss : List Story}, (∀ s ∈ ss, s ∈ L) → Paired (fun (a : Addr) (s : Story) => SqT K H a (rowV L s)) as ss → Paired (fun (a : Addr) (s : Story) => SqT K H a (rowV (L ++ [x]) s)) as ss
  | _, _, _, .nil => .nil
  | _, _, h, .cons r q => .cons (by rw [rowV_grow t (h _ (List.mem_cons_self ..))]; exact r) (pr_rows t (fun s hs => h s (List.mem_cons_of_mem _ hs)) q)
section
variable {P : Program} {w : World} {K : PySem.W.Frag} {mg : Str → Option Value} {base : Heap}
def spCh (K : PySem.W.Frag) : Sp := fun vs H Q _ => ∃ (b : Addr) (L : List Story) (s : Story) (p : Dd), vs = [.ref b, .int (L.idxOf s : Nat), .str p.1, .str p.2] ∧ ShapesAt K H b L ∧ Tree L ∧ s ∈ L ∧ PyData.strOk p.1 = true ∧ PyData.strOk p.2 = true ∧ L.length ≤ 1000 ∧
  ∀ H' : Hp, Same H H' → (s ++ [p] ∈ L → Q (.int (L.idxOf (s ++ [p]) : Nat)) H') ∧ (s ++ [p] ∉ L → Q .non H')
theorem scCh : FnScope ["shapes", "number", "deed", "field", "at", "shape"] ["shapes", "number", "deed", "field"] (defScope sCh) := ⟨rfl, rfl, rfl, by decide +kernel, rfl, by decide +kernel, by decide +kernel⟩
theorem has_ch (B : Bl mg) (D : DefAt K mg "child_of" sCh ["shapes", "number", "deed", "field"]) : Has P w K mg base 1 "child_of" ["shapes", "number", "deed", "field"] (spCh K) := by
  refine .of D fun f fd F => F.ok scCh (fun vs H Q E h => ?_) (fun cdv A outer s H vs Q E hr h => ?_)
  · obtain ⟨b, L, z, p, rfl, _⟩ := h
    rfl
  · obtain ⟨b, L, z, p, rfl, hb, hL, hz, o1, o2, hln, q⟩ := h
    have hu := hr.units
    refine ⟨_, (pss_cons (ps_for PassesOwn.never rfl (pi_enumT B.enu (pa_cons (pv 0) pa_nil)) (pg_tup rfl (pgs_cons (pg_name (i := 4) scCh.nd rfl (.inl rfl)) (pgs_cons (pg_name (i := 5) scCh.nd rfl (.inl rfl)) pgs_nil)))
      (pss_one (ps_if (pt_cmpR (op_eqD hu) (pv 5) (pe_tup (pa_cons (pv 1) (pa_cons (pv 2) (pa_cons (pv 3) pa_nil)))) (nomark _)) (pss_one (ps_ret (pv 4))) pss_nil)))
      (pss_one (ps_ret pe_non))), ?_⟩
    obtain ⟨as, hx, hp⟩ := id hb
    have las := Paired.length hp
    refine ⟨_, rfl, b, as.map V.ref, rfl, hx, ?_⟩
    refine for_it (walk_enumT (xs := as.map V.ref)) (fun i σ H1 => ∃ v4 v5 : Option V, σ = [some (.ref b), some (.int (L.idxOf z : Nat)), some (.str p.1), some (.str p.2), v4, v5] ∧ Same H H1 ∧ ∀ j, j < i → L[j]? ≠ some (z ++ [p]))
      ⟨none, none, rfl, Same.refl H, fun j hj => absurd hj (Nat.not_lt_zero _)⟩ (fun i σ H1 _ ⟨_, _, _, e, _⟩ => same_tup e hx) ?_ ?_
    · rintro i x σ H1 H2 hi ⟨v4, v5, rfl, s1, hno⟩ ⟨T, y, y2, rfl, hT, rfl, e1, e2⟩
      obtain rfl := Option.some.inj e1
      have e2 : (as.map V.ref)[i]? = some y2 := e2
      rw [List.getElem?_map] at e2
      cases ea : as[i]? with
      | none => rw [ea] at e2; cases e2
      | some a =>
        rw [ea] at e2
        obtain rfl := Option.some.inj e2
        obtain ⟨x, ex, ha⟩ := pr_at2 hp ea
        have hxL : x ∈ L := List.mem_of_getElem? ex
        have s2 : Same H1 (upd H1 T (.tup [.int (i : Nat), .ref a])) := Same.upd hT
        refine ⟨T, _, rfl, SqT.of upd_same, rfl, _, _, rfl, _, _, rfl, rfl, ?_⟩
        refine ⟨_, rfl, _, rfl, _, rfl, _, rfl, (by show 3 ≤ sizeLine; decide), fun t ht => ?_⟩
        have s3 : Same H1 (upd (upd H1 T (.tup [.int (i : Nat), .ref a])) t (.tup [.int (L.idxOf z : Nat), .str p.1, .str p.2])) := Same.trans s2 (Same.upd ht)
        refine ⟨_, _, dp_row (same_tup (Same.trans s1 s3) ha), .tup (SqT.of upd_same) (.cons (.int _) (.cons (.str _) (.cons (.str _) .nil))), row_shaped (hL.ok x hxL), ask_shaped o1 o2, _, rfl, ?_⟩
        rw [row_is hL hxL hz p]
        refine ite2 (fun e => ?_) (fun e => ?_)
        · have e3 : x = z ++ [p] := of_decide_eq_true e
          subst e3
          refine ⟨_, rfl, ?_⟩
          have q2 := (q _ (Same.trans s1 s3)).1 hxL
          rw [ix_of hL.nodup ex] at q2
          exact q2
        · have e3 : ¬ x = z ++ [p] := of_decide_eq_false (by simpa using e)
          refine ⟨_, _, rfl, Same.trans s1 s3, fun j hj => ?_⟩
          by_cases hji : j = i
          · subst hji
            rw [ex]
            exact fun h => e3 (Option.some.inj h)
          · exact hno j (by omega)
    · rintro σ H1 ⟨v4, v5, rfl, s1, hno⟩
      rw [List.length_map, las] at hno
      refine (q H1 s1).2 fun hm => ?_
      exact hno _ (List.idxOf_lt_length_iff.mpr hm) (ix_get hm)

def spSb (K : PySem.W.Frag) : Sp := fun vs H Q _ => ∃ (b : Addr) (L : List Story) (s : Story) (p : Dd), vs = [.ref b, .int (L.idxOf s : Nat), .str p.1, .str p.2] ∧ ShapesAt K H b L ∧ Tree L ∧ s ∈ L ∧ Okay (s ++ [p]) ∧ L.length ≤ 1000 ∧
  ∀ (t c : Addr) (H' : Hp), Same H H' → SqT K H' t [.ref c, .int ((after L (s ++ [p])).idxOf (s ++ [p]) : Nat)] → ShapesAt K H' c (after L (s ++ [p])) → Q (.ref t) H'
theorem scSb : FnScope ["shapes", "number", "deed", "field", "has_it", "child"] ["shapes", "number", "deed", "field"] (defScope sSb) := ⟨rfl, rfl, rfl, by decide +kernel, rfl, by decide +kernel, by decide +kernel⟩
theorem has_sb (B : Bl mg) (FA : Has P w K mg base 2 "fields_at" ["shapes", "number"] (spFa K)) (CH : Has P w K mg base 1 "child_of" ["shapes", "number", "deed", "field"] (spCh K)) (D : DefAt K mg "shape_by" sSb ["shapes", "number", "deed", "field"]) :
    Has P w K mg base 3 "shape_by" ["shapes", "number", "deed", "field"] (spSb K) := by
  refine .of D fun f fd F => F.ok scSb (fun vs H Q E h => ?_) (fun cdv A outer s H vs Q E hr h => ?_)
  · obtain ⟨b, L, z, p, rfl, _⟩ := h
    rfl
  · obtain ⟨b, L, z, p, rfl, hb, hL, hz, hok, hln, q⟩ := h
    have hr1 : Room 1 _ := hr.mono (by decide)
    refine ⟨_, (pss_cons (ps_set (i := 4) scSb.nd rfl (.inl rfl) (pe_cmpR op_in_seq (pv 3) (pe_has FA hr (pa_cons (pv 0) (pa_cons (pv 1) pa_nil))) (by rfl)))
      (pss_cons (ps_if (pt_cmpR op_ne (pv 4) (pe_cmpR op_eq (pv 2) pe_str (nomark _)) (nomark _)) pss_never pss_nil)
      (pss_cons (ps_set (i := 5) scSb.nd rfl (.inl rfl) (pe_has CH hr1 (pa_cons (pv 0) (pa_cons (pv 1) (pa_cons (pv 2) (pa_cons (pv 3) pa_nil))))))
      (pss_cons (ps_if (pt_cmpR op_notN (pv 5) pe_non (nomark _)) (pss_one (ps_ret (pe_tup (pa_cons (pv 0) (pa_cons (pv 5) pa_nil))))) pss_nil)
      (pss_one (ps_ret (pe_tup (pa_cons (pe_op op_catA (pv 0) (pe_tup (pa_cons (pe_tup (pa_cons (pv 1) (pa_cons (pv 2) (pa_cons (pv 3) pa_nil)))) pa_nil))) (pa_cons (pe_callB call_len_seq (by rfl) B.len boot_len (pa_cons (pv 0) pa_nil)) pa_nil))))))))), ?_⟩
    refine ⟨_, rfl, _, rfl, _, rfl, b, L, z, rfl, hb, hL, hz, fun g H1 s1 hg0 hg => ?_⟩
    refine ⟨g, _, rfl, .inr (SqT.of hg), rfl, flat_strs _, ?_⟩
    refine ⟨_, rfl, _, rfl, rfl, rfl, ?_⟩
    rw [inV_str]
    have ed : decide (V.bl (if false = true then !decide (p.2 ∈ lf z) else decide (p.2 ∈ lf z)) = V.bl (decide (V.str p.1 = V.str dr))) = true := by
      refine decide_eq_true ?_
      rw [dec_str]
      show V.bl (decide (p.2 ∈ lf z)) = V.bl (decide (p.1 = dr))
      by_cases h : p.2 ∈ lf z
      · rw [decide_eq_true h, decide_eq_true (hok.due.mpr h)]
      · rw [decide_eq_false h, decide_eq_false fun e => h (hok.due.mp e)]
    refine ⟨_, rfl, ?_⟩
    rw [ed]
    refine iteF ?_
    -- the child
    obtain ⟨o1, o2⟩ := hok.last
    refine ⟨_, rfl, _, rfl, _, rfl, _, rfl, b, L, z, p, rfl, hb.same s1, hL, hz, o1, o2, hln, fun H2 s2 => ⟨fun hm => ?_, fun hm => ?_⟩⟩
    · have e : after L (z ++ [p]) = L := if_pos hm
      rw [e] at q
      refine ⟨_, rfl, rfl, _, rfl, ?_⟩
      refine ⟨_, rfl, _, rfl, (by show 2 ≤ sizeLine; decide), fun t ht => ?_⟩
      exact q t b _ (Same.trans s1 (Same.trans s2 (Same.upd ht))) (SqT.of upd_same) (hb.same (Same.trans s1 (Same.trans s2 (Same.upd ht))))
    · have e : after L (z ++ [p]) = L ++ [z ++ [p]] := if_neg hm
      rw [e, ix_new hm] at q
      refine ⟨_, rfl, rfl, _, rfl, ?_⟩
      have s12 : Same H H2 := Same.trans s1 s2
      obtain ⟨as, hx, hp⟩ := hb.same s12
      have las := Paired.length hp
      refine ⟨_, rfl, _, rfl, _, rfl, _, rfl, (by show 3 ≤ sizeLine; decide), fun t1 ht1 => ⟨(by show 1 ≤ sizeLine; decide), fun t2 ht2 => ?_⟩⟩
      have s3 : Same H2 (upd (upd H2 t1 (.tup [.int (L.idxOf z : Nat), .str p.1, .str p.2])) t2 (.tup [.ref t1])) := Same.trans (Same.upd ht1) (Same.upd ht2)
      have n12 : t1 ≠ t2 := fun e => by rw [← e, upd_same] at ht2; cases ht2
      have h1 : SqT K (upd (upd H2 t1 (.tup [.int (L.idxOf z : Nat), .str p.1, .str p.2])) t2 (.tup [.ref t1])) t1 [.int (L.idxOf z : Nat), .str p.1, .str p.2] := SqT.of (by rw [upd_ne n12]; exact upd_same)
      generalize hH3 : upd (upd H2 t1 (.tup [.int (L.idxOf z : Nat), .str p.1, .str p.2])) t2 (.tup [.ref t1]) = H3 at s3 h1
      have h2 : SqT K H3 t2 [.ref t1] := by
        rw [← hH3]
        exact SqT.of upd_same
      have hp0 := hL.pos
      refine ⟨b, t2, as.map V.ref, [.ref t1], rfl, rfl, same_tup s3 hx, h2, by rw [List.length_map, las, List.length_singleton]; exact line1000b (by omega), fun e0 => ?_, fun _ e0 => absurd e0 (by simp), fun _ _ c hc => ?_⟩
      · have : as = [] := List.map_eq_nil_iff.mp e0
        subst this
        simp at las
        omega
      · have s4 : Same H3 (upd H3 c (.tup (as.map V.ref ++ [.ref t1]))) := Same.upd hc
        refine ⟨_, rfl, b, _, rfl, .inr (same_tup (Same.trans s3 s4) hx), (by show 2 ≤ sizeLine; decide), fun t ht => ?_⟩
        have s5 := Same.upd (o := .tup [.ref c, .int ((as.map V.ref).length : Nat)]) ht
        have s6 := Same.trans s4 s5
        rw [List.length_map, las] at s5 s6 ⊢
        refine q t c _ (Same.trans s12 (Same.trans s3 s6)) (SqT.of upd_same) ⟨as ++ [t1], ?_, ?_⟩
        · have h3 := s5 c _ upd_same
          refine SqT.of ?_
          rw [List.map_append]
          exact h3
        · refine pr_app ?_ (.cons ?_ .nil)
          · have h4 : Paired (fun (a : Addr) (x : Story) => SqT K (upd (upd H3 c (.tup (as.map V.ref ++ [.ref t1]))) t (.tup [.ref c, .int (L.length : Nat)])) a (rowV L x)) as L := Paired.mono (fun a x r => same_tup (Same.trans s3 s6) r) hp
            exact pr_rows hL (fun x hx => hx) h4
          · rw [rowV_snoc, ix_grow hz]
            exact same_tup s6 h1
end
end Wr

namespace Wr
open PySem L2
/-- the numbers' entries: the stories in the order of their numbers -/
structure Nums (L : List Story) (es : List En) : Prop where
  keys : es.map (·.1) = L
  vals : ∀ (i : Nat) (e : En), es[i]? = some e → e.2.2 = .int (i : Nat)
theorem Nums.get {L : List Story} {es : List En} (h : Nums L es) {s : Story} (hs : s ∈ L) : ∃ a : Addr, es[L.idxOf s]? = some (s, a, .int (L.idxOf s : Nat)) := by
  have h1 := ix_get hs
  have h2 : (es.map (·.1))[L.idxOf s]? = some s := by rw [h.keys]; exact h1
  rw [List.getElem?_map] at h2
  cases e : es[L.idxOf s]? with
  | none => rw [e] at h2; cases h2
  | some x =>
    rw [e] at h2
    have h3 : x.1 = s := Option.some.inj h2
    have h4 := h.vals _ _ e
    exact ⟨x.2.1, congrArg some (Prod.ext h3 (Prod.ext rfl h4))⟩
theorem Nums.mem {L : List Story} {es : List En} (h : Nums L es) {s : Story} (hs : s ∈ L) : ∃ a : Addr, (s, a, .int (L.idxOf s : Nat)) ∈ es := by
  obtain ⟨a, e⟩ := h.get hs
  exact ⟨a, List.mem_of_getElem? e⟩
theorem Nums.nodup {L : List Story} {es : List En} (h : Nums L es) (t : Tree L) : (es.map (·.1)).Nodup := by
  rw [h.keys]
  exact t.nodup
theorem NDAt.same {P : Program} {w : World} {H H' : Hp} {d : Addr} {es : List En} (h : NDAt P w H d es) (e : Same H H') : NDAt P w H' d es := by
  rcases h with h | ⟨o, h⟩
  · exact .inl (e _ _ h)
  · exact .inr ⟨o, e _ _ h⟩
theorem KeysAt.same {K : PySem.W.Frag} {H H' : Hp} {es : List En} (h : KeysAt K H es) (e : Same H H') : KeysAt K H' es := h.mono fun _ _ q => same_tup e q
section
variable {P : Program} {w : World} {K : PySem.W.Frag} {mg : Str → Option Value} {base : Heap}
def spAgain (P : Program) (w : World) (K : PySem.W.Frag) : Sp := fun vs H Q _ => ∃ (b c d : Addr) (L : List Story) (s : Story) (es : List En), vs = [.ref b, .ref c, .ref d] ∧ ShapesAt K H b L ∧ Tree L ∧ StoryAt K H c s ∧ s ∈ L ∧ NDAt P w H d es ∧ KeysAt K H es ∧ Nums L es ∧ L.length ≤ 1000 ∧
  ∀ H' : Hp, Same H H' → Q (.bl true) H'
theorem scAgain : FnScope ["_law_shapes", "_law_story_here", "_law_numbers", "_law_at", "_law_k", "_law_told"] ["_law_shapes", "_law_story_here", "_law_numbers"] (defScope sAgain) := ⟨rfl, rfl, rfl, by decide +kernel, rfl, by decide +kernel, by decide +kernel⟩
theorem has_again (B : Bl mg) (SB : Has P w K mg base 3 "shape_by" ["shapes", "number", "deed", "field"] (spSb K)) (NU : Has P w K mg base 2 "_law_number" ["_law_told", "_law_shapes", "_law_known"] (spNum K)) (D : DefAt K mg "_law_again" sAgain ["_law_shapes", "_law_story_here", "_law_numbers"]) :
    Has P w K mg base 4 "_law_again" ["_law_shapes", "_law_story_here", "_law_numbers"] (spAgain P w K) := by
  refine .of D fun f fd F => F.ok scAgain (fun vs H Q E h => ?_) (fun cdv A outer s H vs Q E hr h => ?_)
  · obtain ⟨b, c, d, L, z, es, rfl, _⟩ := h
    rfl
  · obtain ⟨b, c, d, L, z, es, rfl, hb, hL, hc, hz, hd, hk, hn, hln, q⟩ := h
    have hu := hr.units
    have hr2 : Room 2 _ := hr.mono (by decide)
    refine ⟨_, (pss_cons (ps_set (i := 3) scAgain.nd rfl (.inl rfl) pe_int)
      (pss_cons (ps_for PassesOwn.never rfl (pi_range1 rfl B.range (pa_cons (pe_callB call_len_seq (by rfl) B.len boot_len (pa_cons (pv 1) pa_nil)) pa_nil)) (pg_name (i := 4) scAgain.nd rfl (.inl rfl))
      (pss_cons (ps_set (i := 5) scAgain.nd rfl (.inl rfl) (pe_has SB hr (pa_cons (pv 0) (pa_cons (pv 3) (pa_cons (pe_ix ix_tup (pe_ix ix_tup (pv 1) (pv 4) (fun _ _ => rfl)) pe_int (fun _ _ => rfl)) (pa_cons (pe_ix ix_tup (pe_ix ix_tup (pv 1) (pv 4) (fun _ _ => rfl)) pe_int (fun _ _ => rfl)) pa_nil))))))
      (pss_cons (ps_set (i := 3) scAgain.nd rfl (.inl rfl) (pe_ix (ix_nd hu) (pv 2) (pe_slice sl_tupA (pv 1) po_none (po_some (pe_op op_add (pv 4) pe_int))) (fun _ _ => rfl)))
      (pss_one (ps_if (PW.pt (pw_or (pt_not (pt_val (pe_has NU hr2 (pa_cons (pv 5) (pa_cons (pv 0) (pa_cons pe_bl pa_nil)))))) (pw_or1 (pt_cmpR op_ne (pe_ix ix_tup (pv 5) pe_int (fun _ _ => rfl)) (pv 3) (nomark _))))) pss_never pss_nil)))))
      (pss_one (ps_ret pe_bl)))), ?_⟩
    obtain ⟨xs, hx, lx⟩ := hc.seq
    have h16 := hL.len z hz
    refine ⟨_, rfl, c, xs, rfl, .inr hx, _, rfl, by rw [lx]; omega, by rw [lx]; omega, ?_⟩
    rw [lx, Int.toNat_natCast]
    refine for_range (n := z.length) (fun i σ H1 => ∃ v4 v5 : Option V, σ = [some (.ref b), some (.ref c), some (.ref d), some (.int (L.idxOf (z.take i) : Nat)), v4, v5] ∧ Same H H1)
      ⟨none, none, ?_, Same.refl H⟩ ?_ ?_
    · rw [List.take_zero, hL.ix_nil]
      rfl
    · rintro i σ H1 hi ⟨v4, v5, rfl, s1⟩
      have et : z.take (i + 1) = z.take i ++ [z[i]] := by
        rw [List.take_add_one, List.getElem?_eq_getElem hi]
        rfl
      have hm := hL.begs _ z rfl hz i
      have hm1 := hL.begs _ z rfl hz (i + 1)
      have hok : Okay (z.take i ++ [z[i]]) := by
        rw [← et]
        exact (hL.ok z hz).take _
      obtain ⟨ys, a, hy, hya, ha⟩ := (hc.same s1).item (List.getElem?_eq_getElem hi)
      refine ⟨_, rfl, _, rfl, _, rfl, _, rfl, c, ys, _, _, rfl, rfl, hy, at_of (j := i) (by omega) hya, a, _, 0, _, rfl, rfl, ha, rfl, ?_⟩
      refine ⟨_, rfl, _, rfl, c, ys, _, _, rfl, rfl, hy, at_of (j := i) (by omega) hya, a, _, 1, _, rfl, rfl, ha, rfl, ?_⟩
      refine ⟨b, L, z.take i, z[i], rfl, hb.same s1, hL, hm, hok, hln, fun t g H2 s2 ht hg => ?_⟩
      rw [← et, show after L (z.take (i + 1)) = L from if_pos hm1] at ht hg
      have s12 : Same H H2 := Same.trans s1 s2
      -- the number told
      refine ⟨_, rfl, _, rfl, _, rfl, _, _, rfl, rfl, _, rfl, (hc.same s12).cut (by omega) fun c2 H3 s3 hc2 => ?_⟩
      have s13 : Same H H3 := Same.trans s12 s3
      have en : (0 + (i : Int) + 1).toNat = i + 1 := by omega
      rw [en] at hc2
      obtain ⟨a2, ha2⟩ := hn.mem hm1
      refine ⟨d, c2, es, z.take (i + 1), a2, _, rfl, rfl, hd.same s13, hk.same s13, hn.nodup hL, hc2, ha2, ?_⟩
      -- both looks
      refine ⟨_, rfl, _, rfl, t, b, g, L, L, _, true, rfl, same_tup s3 ht, hb.same s13, hg.same s3, hL, hL, .inl ⟨rfl, rfl⟩, fun H4 s4 => ?_⟩
      refine ⟨_, rfl, iteF ?_⟩
      refine ⟨_, rfl, t, _, 1, _, rfl, rfl, same_tup (Same.trans s3 s4) ht, rfl, _, rfl, rfl, _, rfl, ?_⟩
      show (if (!decide (V.int ((L.idxOf (z.take (i + 1)) : Nat) : Int) = V.int ((L.idxOf (z.take (i + 1)) : Nat) : Int))) = true then _ else _)
      rw [decide_eq_true rfl]
      refine iteF ?_
      exact ⟨_, _, rfl, Same.trans s13 s4⟩
    · rintro σ H1 ⟨v4, v5, rfl, s1⟩
      exact q H1 s1
end
end Wr

namespace Wr
open PySem PyProof.Rows

/-! ### the key's own expression, over the heap alone -/
section
variable {prog : Program} {w : World} {A : Around} {E : Value → Shared → Prop} {s : Shared} {env : Env}
/-- a step that keeps every object -/
def Onl (s s' : Shared) : Prop := ∃ h' tk, s' = { s with heap := h', toks := tk } ∧ ∀ b o, s.heap.get? b = some o → h'.get? b = some o
theorem Onl.refl : Onl s s := ⟨s.heap, s.toks, rfl, fun _ _ e => e⟩
theorem lam_raw {m : Str → Option Value} {a c : Addr} {x : Value} {j way r : Int} {t1 t2 : Tok} {i1 i2 i3 i4 : Nat} {p1 p2 p3 p4 p5 p6 p7 p8 p9 p10 p11 p12 : Pos} {Q : Value → Shared → Prop}
    (hk : env.scope.kind = .function) (k1 : env.kindOf "_law_turn" = some .local) (k2 : env.kindOf "_law_way" = some .free)
    (hn : s.heap.Ns env.locals m) (hm : m "_law_turn" = some (.ref a)) (ht : IsTup s.heap a #[x, .int j t1])
    (hc : env.cells.lookup ("_law_way" : Str) = some c) (hv : s.heap.IsCell c (some (.int way t2)))
    (hj : -(2 ^ 64) < j ∧ j < 2 ^ 64) (hw : (way = 1 ∧ r = j) ∨ (way = 2 ∧ r = -j))
    (h : ∀ h' tk t, (∀ b o, s.heap.get? b = some o → h'.get? b = some o) → Q (.int r t) { s with heap := h', toks := tk }) :
    wpAny (model prog w) A (eval (.BinOp (.Subscript (.Name "_law_turn" p1) (.Constant (.int 1) i1 p2) p3) .Mult
      (.Subscript (.List [.Constant (.int 1) i2 p4, .UnaryOp .USub (.Constant (.int 1) i3 p5) p6] p7) (.BinOp (.Name "_law_way" p8) .Sub (.Constant (.int 1) i4 p9) p10) p11) p12) env) Q E s := by
  refine wpAny_BinOp ?_
  refine Subscript_ (wpAny_Name (wpAny_loadName_local hk k1 hn hm ?_))
  refine wpAny_Constant_int ?_
  refine subscriptTail_builtinR (x := .int j t1) (T := "tuple") ht.typeIs slot_tuple_getitem.lookup
    (getItem_tuple (j := 1) (Q := fun r s' => r = .int j t1 ∧ _) ht (by omega) (by omega) (by rfl) (by rfl) ⟨rfl, ?_⟩) (by rfl)
  refine Subscript_ (wpAny_List_spliced ?_)
  show wpAny _ _ (spliced ((false, eval (.Constant (.int 1) i2 p4) env) :: backTo p7 (starEach [.UnaryOp .USub (.Constant (.int 1) i3 p5) p6] env))) _ _ _
  refine Calls.spliced_cons (wpAny_Constant_int ?_)
  show wpAny _ _ (spliced ((false, eval (.UnaryOp .USub (.Constant (.int 1) i3 p5) p6) env) :: backTo p7 (starEach [] env))) _ _ _
  refine Calls.spliced_cons (wpAny_UnaryOp (wpAny_Constant_int ?_))
  refine neg_int ?_
  refine Calls.spliced_nil ⟨?_, ?_⟩
  · rw [sizeLine_eq]
    exact Nat.le_of_ble_eq_true (by rfl)
  refine wpAny_BinOp (wpAny_Name (wpAny_loadName_free hk k2 hc (hv.keeps fun b o e => Heap.get?_push_of_some _ e) ?_))
  refine wpAny_Constant_int ?_
  refine PyProof.Rows.sub_int ?_
  rcases hw with ⟨rfl, rfl⟩ | ⟨rfl, rfl⟩
  · refine item_listR (k := 1 - 1) (x := .int 1 (s.toks + 1)) ⟨_, Heap.get?_push_size _ rfl, rfl, _, rfl⟩ (by omega) (by omega) (by rfl) ?_ (by rfl)
    refine PyProof.Rows.mul_int ?_ (.of_left (intBits_le_64 hj.1 hj.2))
    rw [Int.mul_one]
    exact h _ _ _ fun b o e => Heap.get?_push_of_some _ e
  · refine item_listR (k := 2 - 1) (x := .int (-1) (s.toks + 1 + 1 + 1)) ⟨_, Heap.get?_push_size _ rfl, rfl, _, rfl⟩ (by omega) (by omega) (by rfl) ?_ (by rfl)
    refine PyProof.Rows.mul_int ?_ (.of_left (intBits_le_64 hj.1 hj.2))
    rw [show j * -1 = -j by omega]
    exact h _ _ _ fun b o e => Heap.get?_push_of_some _ e
abbrev lamPs (q : Pos) : Arguments := { posonlyargs := [], args := [{ arg := "_law_turn", annotation := none, pos := q }], vararg := none, kwonlyargs := [], kw_defaults := [], kwarg := none, defaults := [] }
abbrev lamSc : Scope := { kind := .function, names := [(Str.ofString "_law_turn", .local), (Str.ofString "_law_way", .free)], isGenerator := false, isCoroutine := false, more := [] }
abbrev lamB (i1 i2 i3 i4 : Nat) (p1 p2 p3 p4 p5 p6 p7 p8 p9 p10 p11 p12 : Pos) : Expr := .BinOp (.Subscript (.Name "_law_turn" p1) (.Constant (.int 1) i1 p2) p3) .Mult
  (.Subscript (.List [.Constant (.int 1) i2 p4, .UnaryOp .USub (.Constant (.int 1) i3 p5) p6] p7) (.BinOp (.Name "_law_way" p8) .Sub (.Constant (.int 1) i4 p9) p10) p11) p12
/-- the key of one turn -/
theorem lam_turn {f a c c' : Addr} {q : Str} {q0 : Pos} {cl : List (Str × Addr)} {pm ctv x : Value} {j way r : Int} {t1 t2 : Tok} {i1 i2 i3 i4 : Nat} {p1 p2 p3 p4 p5 p6 p7 p8 p9 p10 p11 p12 : Pos}
    (hd : A.depth < recursionLimit) (hf : s.heap.get? f = some (PySem.W.kla_obj "<lambda>" q (lamPs q0) (lamB i1 i2 i3 i4 p1 p2 p3 p4 p5 p6 p7 p8 p9 p10 p11 p12) lamSc cl pm c' ctv))
    (hcd : s.heap.CodeRec (.ref c') q) (hl : s.heap.NoLimit) (ht : IsTup s.heap a #[x, .int j t1])
    (hc : cl.lookup ("_law_way" : Str) = some c) (hv : s.heap.IsCell c (some (.int way t2))) (hj : -(2 ^ 64) < j ∧ j < 2 ^ 64) (hw : (way = 1 ∧ r = j) ∨ (way = 2 ∧ r = -j)) :
    wpAny (model prog w) A (call (.ref f) [.ref a]) (PySem.W.KeyPure (.int r) s) (fun _ _ => False) s := by
  refine wpAny_call (PySem.W.kla_callFunE hd hf rfl rfl rfl rfl hcd ?_)
  rw [show bindArgs (PySem.W.kla_fn "<lambda>" q (lamPs q0) (lamB i1 i2 i3 i4 p1 p2 p3 p4 p5 p6 p7 p8 p9 p10 p11 p12) lamSc cl pm (.ref c') ctv) ⟨[.ref a], []⟩ = pure [(("_law_turn" : Str), .ref a)] from rfl]
  refine wpAny_pure (wpAny_newFunctionEnv (fun y hy => ?_) (fun y hy => ?_) (fun h₁ hns hsb => ⟨hl.fresh _ hsb, ?_⟩) rfl)
  · rcases List.mem_cons.mp hy with rfl | hy
    · exact fun z => nomatch z
    · rcases List.mem_cons.mp hy with rfl | hy
      · exact fun z => nomatch z
      · cases hy
  · rcases List.mem_cons.mp hy with rfl | hy
    · rfl
    · cases hy
  have kp : ∀ b o, s.heap.get? b = some o → h₁.get? b = some o := fun b o e => hsb.extBut b o (Nat.ne_of_lt (Heap.lt_size e)) (Heap.get?_push_of_some _ e)
  refine PySem.W.kla_codeExpr (lam_raw (a := a) (x := x) (j := j) (way := way) (r := r) rfl rfl rfl hns rfl (ht.keeps kp) hc (hv.keeps kp) hj hw fun h' tk t k => ?_)
  exact ⟨h', tk, rfl, fun b o e => k b o (kp b o e), Reads.int r t⟩
end
end Wr

namespace Wr
open PySem PyProof.Rows L2

/-! ### sorted(turns, key=lambda ..) -/
/-- a list of turns on the heap -/
def TurnsAt (K : PySem.W.Frag) (H : Hp) (l : Addr) (ts : List Tn) : Prop := ∃ as : List Addr, H l = some (.lst (as.map V.ref)) ∧ Paired (fun (a : Addr) (t : Tn) => SqT K H a [.int t.1, .int t.2]) as ts
theorem ext_tup {K : PySem.W.Frag} {H H' : Hp} {a : Addr} {xs : List V} (e : LamX.ExtN H H') (h : SqT K H a xs) : SqT K H' a xs := by
  rcases h with (h | ⟨o, h⟩) | h
  · exact .inl (.inl (e _ _ h (fun _ z => nomatch z)))
  · exact .inl (.inr ⟨o, e _ _ h (fun _ z => nomatch z)⟩)
  · exact .inr h
theorem TurnsAt.ext {K : PySem.W.Frag} {H H' : Hp} {l : Addr} {ts : List Tn} (h : TurnsAt K H l ts) (e : LamX.ExtN H H') : TurnsAt K H' l ts := by
  obtain ⟨as, h1, h2⟩ := h
  exact ⟨as, e _ _ h1 (fun _ z => nomatch z), Paired.mono (fun a t q => ext_tup e q) h2⟩
/-- the items of such a list, as values -/
def Tv (K : PySem.W.Frag) (H : Hp) (v : Value) (t : Tn) : Prop := ∃ a, v = .ref a ∧ SqT K H a [.int t.1, .int t.2]
theorem tv_of {K : PySem.W.Frag} {H : Hp} : ∀ {as : List Addr} {ts : List Tn} {vs : List Value}, Paired (fun (a : Addr) (t : Tn) => SqT K H a [.int t.1, .int t.2]) as ts → Vals (as.map V.ref) vs → PySem.W.EachIs (Tv K H) vs ts
  | _, _, _, .nil, .nil => .nil
  | _, _, _, .cons q t, .cons r u => by
    cases r
    exact .cons ⟨_, rfl, q⟩ (tv_of t u)
theorem of_tv {K : PySem.W.Frag} {H : Hp} : ∀ {vs : List Value} {ts : List Tn}, PySem.W.EachIs (Tv K H) vs ts → ∃ as : List Addr, vs = as.map Value.ref ∧ Paired (fun (a : Addr) (t : Tn) => SqT K H a [.int t.1, .int t.2]) as ts
  | _, _, .nil => ⟨[], rfl, .nil⟩
  | _, _, .cons ⟨a, e, q⟩ u => by
    obtain ⟨as, e2, q2⟩ := of_tv u
    exact ⟨a :: as, by rw [e, e2]; rfl, .cons q q2⟩
theorem vals_refs : ∀ as : List Addr, Vals (as.map V.ref) (as.map Value.ref)
  | [] => .nil
  | _ :: as => .cons rfl (vals_refs as)

/-- the order of the turns -/
def keyOf (way : Int) (t : Tn) : Int := if way = 1 then (t.2 : Int) else -(t.2 : Int)
def byKey (way : Int) (a b : Tn) : Bool := decide (keyOf way a ≤ keyOf way b)
def tSK (K : PySem.W.Frag) (T : List (Addr × Str)) (i : Nat) (te : TE) : TE := fun σ H Q => te σ H fun x H1 => ∃ (way : Int) (l : Addr) (ts : List Tn), σ[i]? = some (some (.int way)) ∧ (way = 1 ∨ way = 2) ∧ x = .ref l ∧ TurnsAt K H1 l ts ∧
  ts.length ≤ 1000 ∧ (∀ t ∈ ts, t.2 ≤ 1000) ∧ LamX.Tabs T H1 ∧ ∀ (l2 : Addr) (H2 : Hp), LamX.ExtN H1 H2 → TurnsAt K H2 l2 (ts.mergeSort (byKey way)) → Q (.ref l2) H2
theorem pe_sortK {X : Cx} {T : List (Addr × Str)} {i k c P : Nat} {e : Expr} {te : TE} {q0 q1 q2 q3 pos : Pos} {i1 i2 i3 i4 : Nat} {p1 p2 p3 p4 p5 p6 p7 p8 p9 p10 p11 p12 : Pos}
    (ha : PA X [e] (tCons te tNil)) (hm : X.mg "sorted" = none) (hr : Room k X.A) (hk3 : 3 ≤ k) (hN : X.N[i]? = some "_law_way") (hkd : X.env.kindOf ("_law_way" : Str) = some .cell) (TB : LamX.TabB X.base X.mg c P) (hcode : X.env.code = .ref c)
    (hmT : (P, X.env.qual ++ "<lambda>") ∈ T) (hu : ∀ p ∈ T, p.1 = P → p.2 = X.env.qual ++ "<lambda>") (hg : Gl X "sorted" := by rfl)
    (hz : backTo pos (starEach [e] X.env) = (false, eval e X.env) :: backTo pos (starEach [] X.env) := by rfl) (hpl : (backTo pos (starEach [e] X.env)).any (·.1) = false := by rfl) :
    PE X (.Call (.Name "sorted" q1) [e] [{ arg := some "key", value := .Lambda (lamPs q0) (lamB i1 i2 i3 i4 p1 p2 p3 p4 p5 p6 p7 p8 p9 p10 p11 p12) lamSc q2, pos := q3 }] pos) (tSK X.K T i te) := by
  refine ⟨fun pins s σ H Q I h => ?_⟩
  refine wpAny_Call_Name_kw (ld_blt I hg hm PyProof.Rows.boot_sorted ?_ (by decide) (by decide))
  let R : V → Hp → Prop := fun x H1 => ∃ (way : Int) (l : Addr) (ts : List Tn), σ[i]? = some (some (.int way)) ∧ (way = 1 ∨ way = 2) ∧ x = .ref l ∧ TurnsAt X.K H1 l ts ∧
    ts.length ≤ 1000 ∧ (∀ t ∈ ts, t.2 ≤ 1000) ∧ LamX.Tabs T H1 ∧ ∀ (l2 : Addr) (H2 : Hp), LamX.ExtN H1 H2 → TurnsAt X.K H2 l2 (ts.mergeSort (byKey way)) → Q (.ref l2) H2
  have h' : tCons te tNil σ H (fun vs H1 => match vs with | [x] => R x H1 | _ => False) := h
  refine PyProof.Rows.callWith_kw (thn (ha.run pos pins s σ H _ I h') fun us s1 ⟨vs, H1, I1, r1, q1⟩ => ?_) hz hpl (by rfl) (by rfl)
  have q2 : ∃ x, vs = [x] ∧ R x H1 := by
    cases vs with
    | nil => exact q1.elim
    | cons x r =>
      cases r with
      | nil => exact ⟨x, rfl, q1⟩
      | cons y z => exact q1.elim
  obtain ⟨x, rfl, way, l, ts, hw, hway, rfl, hts, hlen, hsm, hT, fin⟩ := q2
  obtain ⟨u, rfl, ru⟩ := vals1 r1
  obtain rfl : u = Value.ref l := ru
  show wpAny _ _ (evalAll [do let v ← eval (.Lambda (lamPs q0) (lamB i1 i2 i3 i4 p1 p2 p3 p4 p5 p6 p7 p8 p9 p10 p11 p12) lamSc q2) X.env; standAt pos; pure v]) _ _ _
  have hfree : ∀ y ∈ lamSc.names, y.2 = .free → ∃ c, X.env.cells.lookup y.1 = some c := fun y hy e => by
    rcases List.mem_cons.mp hy with rfl | hy
    · cases e
    · rcases List.mem_cons.mp hy with rfl | hy
      · exact I.ok.has _ (.inl hkd)
      · cases hy
  refine wpAny_evalAll_cons (wpAny_bind (LamX.lam_make2 I1 TB hcode hmT hu hT (by rfl) hfree fun f c' pm ctv H2 s2 I2 eN T2 hf hfn hfr hco => wpAny_bind (wpAny_standAt (wpAny_pure ?_))))
  refine wpAny_evalAll_nil ?_
  have hts2 := hts.ext eN
  obtain ⟨as, hl2, hp2⟩ := hts2
  obtain ⟨its, rv, pl, hz2⟩ := I2.list (SqL.of hl2)
  have each := tv_of hp2 rv
  obtain ⟨⟨oc, vs', tq, hoc, hdc, hvc⟩, _, _⟩ := I2.hok c' _ hco
  obtain ⟨mf, hnf, lookf⟩ := I2.loc
  obtain ⟨uw, ruw, lw⟩ := lookf i _ _ hN hw (.inr (.inl hkd))
  obtain ⟨tw, rfl⟩ := ruw
  obtain ⟨cc, hcc, hcell⟩ : ∃ cc, X.env.cells.lookup ("_law_way" : Str) = some cc ∧ s2.heap.IsCell cc (some (.int way tw)) := by
    rcases lw with ⟨k1, _⟩ | ⟨_, cc, e1, e2⟩
    · rw [hkd] at k1
      cases k1
    · exact ⟨cc, e1, e2⟩
  have hcl : (cloFrom X.env.cells lamSc.names []).lookup ("_law_way" : Str) = some cc := by
    show ([(Str.ofString "_law_way", (X.env.cells.lookup (Str.ofString "_law_way")).getD 0)] : List (Str × Addr)).lookup (Str.ofString "_law_way") = some cc
    rw [hcc]
    rfl
  show wpAny (model X.prog X.w) X.A (call (.builtin "sorted") [.ref l] [(Str.ofString "key", .ref f)]) _ _ _
  refine PySem.W.sorted_key_data (b := false) (fun t : Tn => .int (keyOf way t)) pl.isList each (PySem.W.AllAlike.of fun _ _ => by simp [PySem.W.alike]) (PySem.W.Sortable.others fun _ => ⟨fun z => (nomatch z), fun _ z => (nomatch z)⟩)
    (by rw [sizeLine_eq]; omega) (fun t _ => ?_) (ksk_s1 _ _) (fun _ => ksk_l1 _ _) (fun _ => ksk_t1 _ _) (fun v t hv ht h tk kp => ?_) fun out cz h' tk kp hfresh hD hol eo => ?_
  · have := hr.units
    have hd : (PyData.int (keyOf way t)).depth = 0 := by simp [PyData.depth]
    omega
  · obtain ⟨a, rfl, hq⟩ := hv
    obtain ⟨its2, rv2, pt, _⟩ := I2.tuple hq
    obtain ⟨u1, u2, rfl, r1', ⟨t1, rfl⟩⟩ := vals2 rv2
    have hj := hsm t ht
    refine lam_turn (s := { s2 with heap := h, toks := tk }) (c := cc) (way := way) (j := (t.2 : Int)) (t1 := t1) (t2 := tw) ?_ (kp _ _ hf) ⟨c', oc, vs', tq, rfl, kp _ _ hoc, hdc, hvc⟩ (I2.nolimit.keeps kp) (pt.keeps kp) hcl (hcell.keeps kp) (by omega) ?_
    · have := hr.dp
      show X.A.depth < recursionLimit
      omega
    · rcases hway with rfl | rfl
      · exact .inl ⟨rfl, by unfold keyOf; rw [if_pos rfl]⟩
      · exact .inr ⟨rfl, by unfold keyOf; rw [if_neg (by decide)]⟩
  · obtain ⟨bs, e1, e2⟩ := of_tv eo
    have hlt : ∀ b o, s2.heap.get? b = some o → h'.get? b = some o := kp
    have hn2 : H2 (s2.heap.objs.size + 1) = none := I2.hok.fresh (Nat.le_succ _)
    have hsz : (ts.mergeSort (byKey way)).length = ts.length := List.length_mergeSort ts
    have hle : (fun t : Tn => PyData.int (keyOf way t)) = fun t : Tn => .int (keyOf way t) := rfl
    rw [PySem.W.dataLe_int] at e2
    have hl3 := Paired.length e2
    refine ⟨.ref (s2.heap.objs.size + 1), upd H2 (s2.heap.objs.size + 1) (.lst (bs.map V.ref)), I2.laid hlt (Nat.le_succ _) ⟨?_, bs.map Value.ref, cz, vals_refs bs, ?_⟩, rfl, fin _ _ ?_ ?_⟩
    · rw [List.length_map, hl3]
      have : ((ts.mergeSort fun a b => decide (keyOf way a ≤ keyOf way b)).length) = ts.length := List.length_mergeSort ts
      rw [this, sizeLine_eq]
      omega
    · rw [← e1]
      exact hD
    · exact LamX.ExtN.trans eN (LamX.ExtN.of (Same.upd hn2))
    · exact ⟨bs, upd_same, Paired.mono (fun a t q => same_tup (Same.upd hn2) q) e2⟩
end Wr

namespace Wr
open PySem L2
open PyProof.Rows (envOfC)

/-! ### the columns of a sorted list -/
theorem byKey_total (way : Int) : PySem.W.TotalLe (byKey way) where
  trans a b c h1 h2 := by
    have h1' := of_decide_eq_true h1
    have h2' := of_decide_eq_true h2
    exact decide_eq_true (Int.le_trans h1' h2')
  total a b := by
    rcases Int.le_total (keyOf way a) (keyOf way b) with h | h
    · exact .inl (decide_eq_true h)
    · exact .inr (decide_eq_true h)
theorem rank_col {way : Int} (hw : way = 1 ∨ way = 2) (j : Nat) : PySem.W.sameRank (byKey way) (0, j) = fun t : Tn => decide (t.2 = j) := by
  funext t
  show (decide (keyOf way (0, j) ≤ keyOf way t) && decide (keyOf way t ≤ keyOf way (0, j))) = decide (t.2 = j)
  rw [Bool.eq_iff_iff, Bool.and_eq_true, decide_eq_true_iff, decide_eq_true_iff, decide_eq_true_iff]
  unfold keyOf
  rcases hw with rfl | rfl
  · rw [if_pos rfl, if_pos rfl]
    show ((j : Int) ≤ (t.2 : Int) ∧ (t.2 : Int) ≤ (j : Int)) ↔ t.2 = j
    omega
  · rw [if_neg (by decide), if_neg (by decide)]
    show (-(j : Int) ≤ -(t.2 : Int) ∧ -(t.2 : Int) ≤ -(j : Int)) ↔ t.2 = j
    omega
theorem cols_sort {lens : List Nat} {ts : List Tn} {way : Int} (c : Cols lens ts) (hw : way = 1 ∨ way = 2) : Cols lens (ts.mergeSort (byKey way)) := fun j => by
  rw [← rank_col hw j, PySem.W.sort_stable (byKey_total way) ts (0, j), rank_col hw j]
  exact c j

/-- the beginning of a row -/
def prow (lens : List Nat) (k i : Nat) : List Tn := ((List.range i).filter fun j => decide (k < lens.getD j 0)).map fun j => (k, j)
theorem prow_yes {lens : List Nat} {k i : Nat} (h : k < lens.getD i 0) : prow lens k (i + 1) = prow lens k i ++ [(k, i)] := by
  unfold prow
  rw [List.range_succ, List.filter_append, List.filter_cons_of_pos (by simpa using h), List.filter_nil, List.map_append]
  rfl
theorem prow_no {lens : List Nat} {k i : Nat} (h : ¬ k < lens.getD i 0) : prow lens k (i + 1) = prow lens k i := by
  unfold prow
  rw [List.range_succ, List.filter_append, List.filter_cons_of_neg (by simpa using h), List.filter_nil, List.append_nil]
theorem prow_len (lens : List Nat) (k i : Nat) : (prow lens k i).length ≤ i := by
  unfold prow
  rw [List.length_map]
  exact Nat.le_trans (List.length_filter_le _ _) (by rw [List.length_range]; exact Nat.le_refl _)
theorem prow_all (lens : List Nat) (k : Nat) : prow lens k lens.length = row0 lens k := rfl

/-! ### a def whose code object is known -/
def DefAtC (K : PySem.W.Frag) (mg : Str → Option Value) (x : Str) (st : Stmt) (ps : List Str) (c : Addr) : Prop :=
  ∃ (f : Addr) (fd : FuncData), (∃ (oc : Value) (od : Option Addr) (kV doc pm : Value) (an : Option Addr) (ct : Value) (osl : Array (Option Value)),
    fd = PySem.W.fnOf x x (defArgs st) (defBody st) (defScope st) .none kV doc pm an (.ref c) ct ∧ K.lookup f = some ⟨oc, od, .func fd, osl⟩ ∧ PySem.W.codeIn K (.ref c) x = true) ∧ PySem.W.keepIn K (.ref f) = true ∧ mg x = some (.ref f) ∧ Binds K fd ps []
theorem Has.ofC {P : Program} {w : World} {K : PySem.W.Frag} {mg : Str → Option Value} {base : Heap} {k : Nat} {x : Str} {st : Stmt} {N ps : List Str} {sp : Sp} {c : Addr} (D : DefAtC K mg x st ps c) (S : FnScope N ps (defScope st)) (len : ∀ vs H Q E, sp vs H Q E → vs.length = ps.length)
    (hbody : ∀ (f : Addr) (A : Around) (outer : List Env) (s : Shared) (H : Hp) (vs : List V) (Q : VK) (E : XK), Room k (A.deeper (envOfC x (defScope st) s.heap.objs.size f (.ref c))) → sp vs H Q E →
      ∃ t, PSs (cxOf CX0 P w K mg base N x (defScope st) f (.ref c) A outer s H E).nox (defBody st) t ∧ t { nx := fun _ H' => Q .non H', rt := Q } (start N vs) H) : Has P w K mg base (k + 1) x ps sp := by
  obtain ⟨f, fd, ⟨oc, od, kV, doc, pm, an, ct, osl, rfl, lk, hcd⟩, kp, m, b⟩ := D
  refine ⟨f, _, fn_of lk hcd S len fun A outer s H vs Q E hr hsp => ?_, m, kp, b⟩
  obtain ⟨t, h, q⟩ := hbody f A outer s H vs Q E hr hsp
  exact ⟨t, h.nox, q⟩

/-! ### the turns -/
theorem TurnsAt.sm {K : PySem.W.Frag} {H H' : Hp} {l : Addr} {ts : List Tn} (h : TurnsAt K H l ts) (e : Same H H') : TurnsAt K H' l ts := h.ext (LamX.ExtN.of e)
theorem TurnsAt.len {K : PySem.W.Frag} {H : Hp} {l : Addr} {ts : List Tn} (h : TurnsAt K H l ts) : ∃ as : List Addr, H l = some (.lst (as.map V.ref)) ∧ as.length = ts.length := by
  obtain ⟨as, h1, h2⟩ := h
  exact ⟨as, h1, Paired.length h2⟩
theorem StoriesAt.sm {K : PySem.W.Frag} {H H' : Hp} {l : Addr} {ss : List Story} (h : StoriesAt K H l ss) (e : Same H H') : StoriesAt K H' l ss := by
  obtain ⟨as, h1, h2⟩ := h
  exact ⟨as, e _ _ h1, Paired.mono (fun a s q => q.same e) h2⟩
theorem StoriesAt.ext {K : PySem.W.Frag} {H H' : Hp} {l : Addr} {ss : List Story} (h : StoriesAt K H l ss) (e : LamX.ExtN H H') : StoriesAt K H' l ss := by
  obtain ⟨as, h1, h2⟩ := h
  exact ⟨as, e _ _ h1 (fun _ z => nomatch z), Paired.mono (fun a s q => q.mono fun _ _ r => ext_tup e r) h2⟩
section
variable {P : Program} {w : World} {K : PySem.W.Frag} {mg : Str → Option Value} {base : Heap}
abbrev lamQ : Str := "_law_turns.<locals>.<lambda>"
def spTurns (K : PySem.W.Frag) (pt : Addr) : Sp := fun vs H Q _ => ∃ (way : Int) (e : Addr) (ss : List Story), vs = [.int way, .ref e] ∧ 0 ≤ way ∧ way < 3 ∧ StoriesAt K H e ss ∧ ss.length ≤ 20 ∧ (∀ s ∈ ss, GS s) ∧ LamX.TabS H pt lamQ ∧
  ∀ (l : Addr) (ts : List Tn) (H' : Hp), LamX.ExtN H H' → TurnsAt K H' l ts → Cols (ss.map List.length) ts → ts.length ≤ 320 → Q (.ref l) H'
abbrev nTurns : List Str := ["_law_way", "_law_stories", "_law_turns_here", "_law_k", "_law_j"]
theorem scTurns : FnScope nTurns ["_law_way", "_law_stories"] (defScope sTurns) := ⟨rfl, rfl, rfl, by decide +kernel, rfl, by decide +kernel, by decide +kernel⟩
abbrev tTurnIf (K : PySem.W.Frag) : TT := tTest (tOp (rI0 fun i j => .bl (decide (i < j))) (tVar 3) (tCB (fun xs H Q => ∃ p ys, xs = [.ref p] ∧ (SqL K H p ys ∨ SqT K H p ys) ∧ Q (.int ys.length) H) (tCons (tOp (rIxL K) (tVar 1) (tVar 4)) tNil)))
theorem has_turns {c pt : Addr} (B : Bl mg) (TB : LamX.TabB base mg c pt) (D : DefAtC K mg "_law_turns" sTurns ["_law_way", "_law_stories"] c) : Has P w K mg base 5 "_law_turns" ["_law_way", "_law_stories"] (spTurns K pt) := by
  refine .ofC D scTurns (fun vs H Q E h => ?_) (fun f A outer s H vs Q E hr h => ?_)
  · obtain ⟨way, e, ss, rfl, _⟩ := h
    rfl
  · obtain ⟨way, e, ss, rfl, w0, w1, hss, hsl, hgs, hT, q⟩ := h
    refine ⟨_, (pss_cons (ps_set (i := 2) scTurns.nd rfl (.inl rfl) (pe_lst pa_nil))
      (pss_cons (ps_for PassesOwn.never rfl (pi_range1 rfl B.range (pa_cons pe_int pa_nil)) (pg_name (i := 3) scTurns.nd rfl (.inr rfl))
        (pss_one (ps_set (i := 2) scTurns.nd rfl (.inl rfl) (pe_op op_cat (pv 2) (pe_lc (own := [("_law_j", 4)]) (g := gName 4) (tt := tTurnIf K) (te := tTup (tCons (tVar 3) (tCons (tVar 4) tNil))) (by rfl) scTurns.nd
          (pi_range1 rfl B.range (pa_cons (pe_callB call_len_seq (by rfl) B.len boot_len (pa_cons (pv 1) pa_nil)) pa_nil)) (blkOk_by (N := nTurns) (sc := defScope sTurns) (by decide +kernel)) (fun _ _ _ _ _ => pg_name (i := 4) scTurns.nd rfl (Or.inl rfl))
          (fun _ _ _ _ _ => pts_one (pt_cmpR op_lt (pv 3) (pe_callB call_len_seq (by rfl) B.len boot_len (pa_cons (pe_ix ix_list (pv 1) (pv 4) (fun _ _ => rfl)) pa_nil)) (nomark _))) (fun _ _ _ _ _ => pe_tup (pa_cons (pv 3) (pa_cons (pv 4) pa_nil))))))))
      (pss_cons (ps_if (pt_cmpR op_eq (pv 0) pe_int (nomark _)) (pss_one (ps_ret (pv 2))) pss_nil)
      (pss_one (ps_ret (pe_sortK (T := [(pt, lamQ)]) (i := 0) (pa_cons (pv 2) pa_nil) B.sorted hr (by decide) rfl rfl TB rfl (List.mem_singleton.mpr (by rfl)) (fun p hp _ => by rw [List.mem_singleton.mp hp]; rfl))))))), ?_⟩
    refine ⟨Nat.zero_le _, fun l hl => ?_⟩
    have s0 : Same H (upd H l (.lst [])) := Same.upd hl
    have hl0 : upd H l (.lst []) l = some (.lst (([] : List Addr).map V.ref)) := upd_same
    generalize upd H l (.lst []) = H1 at s0 hl0
    refine ⟨16, rfl, by decide, by decide, ?_⟩
    refine for_range (n := 16) (fun k σ H' => ∃ (l : Addr) (v3 : Option V), σ = [some (.int way), some (.ref e), some (.ref l), v3, none] ∧ Same H H' ∧ TurnsAt K H' l (rows0 (ss.map List.length) k)) ⟨l, none, rfl, s0, [], hl0, .nil⟩ ?_ ?_
    · rintro k σ H2 hk ⟨l2, v3, rfl, s2, hts⟩
      obtain ⟨xs, hx, lx⟩ := (hss.sm s2).len
      refine ⟨_, rfl, _, rfl, e, xs, rfl, .inl (SqL.of hx), _, rfl, by omega, by omega, fun Dd hD => ?_⟩
      have hD0 : Same H2 (upd H2 Dd (.lst [])) := Same.upd hD
      refine lc_it walk_range (fun i H' => Same H2 H' ∧ TurnsAt K H' Dd (prow (ss.map List.length) k i)) ⟨hD0, [], upd_same, .nil⟩ (fun _ _ _ _ => trivial) ?_ ?_
      · rintro i x H3 H4 hi ⟨s3, as, hd3, hp3⟩ ⟨rfl, rfl⟩
        have hi' : i < ss.length := by omega
        obtain ⟨ys, b, hy, hyb, hb⟩ := (hss.sm (Same.trans s2 s3)).get (List.getElem?_eq_getElem hi')
        obtain ⟨zs, hz, lz⟩ := hb.seq
        have e0 : (0 : Int) + (i : Nat) = ((i : Nat) : Int) := by omega
        have ek : (0 : Int) + (k : Nat) = ((k : Nat) : Int) := by omega
        have eg : (ss.map List.length).getD i 0 = ss[i].length := by
          rw [List.getD_eq_getElem?_getD, List.getElem?_map, List.getElem?_eq_getElem hi']
          rfl
        refine ⟨rfl, _, rfl, _, rfl, _, rfl, e, ys, _, _, rfl, rfl, SqL.of hy, at_of (j := i) (by omega) hyb, b, zs, rfl, .inr hz, _, _, rfl, rfl, _, rfl, ?_⟩
        rw [lz, ek]
        refine ite2 (fun hh => ?_) (fun hh => ?_)
        · have h1 : k < (ss.map List.length).getD i 0 := by
            have := of_decide_eq_true hh
            rw [eg]
            omega
          refine ⟨_, rfl, _, rfl, by show 2 ≤ sizeLine; exact line1000 (by decide), fun t ht => ?_⟩
          have ndt : Dd ≠ t := ne_of_none hd3 ht
          refine ⟨_, by rw [upd_ne ndt]; exact hd3, ?_, ?_, as ++ [t], ?_, ?_⟩
          · have := Paired.length hp3
            have := prow_len (ss.map List.length) k i
            rw [List.length_map]
            exact small1000 (by omega)
          · intro c o ec
            rw [upd_ne (ne_of_none ec hD)]
            exact Same.upd ht _ _ (s3 _ _ ec)
          · rw [upd_same, List.map_append]
            rfl
          · rw [prow_yes h1]
            refine Paired.snoc (Paired.mono (fun a u r => ?_) hp3) ?_
            · exact But.upd.tup (u := .lst (as.map V.ref)) (by rw [upd_ne ndt]; exact hd3) (fun _ z => nomatch z) (fun _ _ z => nomatch z) (same_tup (Same.upd ht) r)
            · refine SqT.of ?_
              rw [upd_ne (Ne.symm ndt), upd_same]
              show some (HO.tup [V.int (k : Nat), V.int (0 + (i : Nat))]) = _
              rw [e0]
        · have h1 : ¬ k < (ss.map List.length).getD i 0 := by
            have h2 : ss[i].length ≤ k := by simpa using hh
            rw [eg]
            omega
          rw [prow_no h1]
          exact ⟨s3, as, hd3, hp3⟩
      · rintro H3 ⟨s3, h3⟩
        rw [show (xs.length : Int).toNat = (ss.map List.length).length by rw [Int.toNat_natCast, lx, List.length_map], prow_all] at h3
        obtain ⟨as, ha, hpa⟩ := hts.sm s3
        obtain ⟨bs, hb, hpb⟩ := h3
        have la := Paired.length hpa
        have lb := Paired.length hpb
        have l1 := rows0_len (ss.map List.length) k
        have l2' := row0_len (ss.map List.length) k
        rw [List.length_map] at l1 l2'
        have l3 : k * ss.length ≤ 15 * 20 := Nat.mul_le_mul (by omega) hsl
        refine ⟨l2, Dd, as.map V.ref, bs.map V.ref, rfl, rfl, ha, hb, line1000 (by rw [List.length_map, List.length_map]; omega), fun g hg => ?_⟩
        have sg : Same H3 (upd H3 g (.lst (as.map V.ref ++ bs.map V.ref))) := Same.upd hg
        refine ⟨g, _, rfl, Same.trans s2 (Same.trans s3 sg), as ++ bs, ?_, ?_⟩
        · rw [upd_same, List.map_append]
        · rw [rows0_succ]
          exact Paired.mono (fun a t r => same_tup sg r) (pr_app hpa hpb)
    · rintro σ H2 ⟨l2, v3, rfl, s2, hts⟩
      have hc : Cols (ss.map List.length) (rows0 (ss.map List.length) 16) := rows0_cols fun n hn => by
        obtain ⟨z, hz, rfl⟩ := List.mem_map.mp hn
        exact (hgs z hz).2
      have hl := rows0_len (ss.map List.length) 16
      rw [List.length_map] at hl
      have hn : (rows0 (ss.map List.length) 16).length ≤ 320 := by omega
      refine ⟨_, rfl, rfl, _, rfl, ?_⟩
      refine ite2 (fun hh => ?_) (fun hh => ?_)
      · exact ⟨_, rfl, q l2 _ H2 (LamX.ExtN.of s2) hts hc hn⟩
      · have hw : way ≠ 0 := by
          intro z
          subst z
          exact hh rfl
        have hw' : way = 1 ∨ way = 2 := by omega
        have eN := LamX.ExtN.of s2
        refine ⟨_, rfl, way, l2, _, rfl, hw', rfl, hts, by omega, fun t ht => ?_, ?_, fun l3 H3 e3 h3 => ?_⟩
        · have hb := hc.bound ht
          refine Nat.le_of_lt (Nat.lt_of_lt_of_le (m := 20) ?_ (by decide))
          refine Nat.lt_of_lt_of_le (Nat.lt_of_not_le fun z => ?_) hsl
          rw [List.getD_eq_getElem?_getD, List.getElem?_eq_none (by rw [List.length_map]; exact z)] at hb
          exact absurd hb (Nat.not_lt_zero _)
        · intro p hp
          rw [List.mem_singleton.mp hp]
          exact hT.ext s2
        · exact q l3 _ H3 (LamX.ExtN.trans eN e3) h3 (cols_sort hc hw') (by rw [List.length_mergeSort]; exact hn)
end
end Wr

namespace Wr
open PySem L2
section
variable {X : Cx} {st : Stmt} {rest : List Stmt} {t u : TS}
/-- a statement, what is kept behind it, the others -/
def tCut (t u : TS) : TS := fun D σ H => ∃ M : L2.St → Hp → Prop, t { D with nx := M } σ H ∧ ∀ σ' H', M σ' H' → u D σ' H'
theorem pss_cut (h1 : PS X st t) (h2 : PSs X rest u) : PSs X (st :: rest) (tCut t u) := by
  refine ⟨fun pins s σ H D I ⟨M, a, b⟩ => ?_⟩
  refine wpAny_execs_cons (thn (h1.run pins s σ H { D with nx := M } I a) fun f s1 q => ?_)
  cases f with
  | ret v => exact q
  | brk => exact q
  | cont => exact q
  | next =>
    obtain ⟨σ1, H1, I1, q⟩ := q
    exact h2.run pins s1 σ1 H1 D I1 (b σ1 H1 q)
end

/-! ### a list beside something new -/
theorem fresh_seq {K : PySem.W.Frag} {H H1 H2 : Hp} {p a : Addr} {xs : List V} (h : SqL K H a xs) (hp : H p = none) (e : Same H H1) (b : But p H1 H2) : SqL K H2 a xs := by
  rcases h with (h | ⟨o, h⟩) | h
  · exact .inl (.inl (b _ _ (ne_of_none h hp) (e _ _ h)))
  · exact .inl (.inr ⟨o, b _ _ (ne_of_none h hp) (e _ _ h)⟩)
  · exact .inr h
theorem same_seq {K : PySem.W.Frag} {H H1 : Hp} {a : Addr} {xs : List V} (h : SqL K H a xs) (e : Same H H1) : SqL K H1 a xs := by
  rcases h with (h | ⟨o, h⟩) | h
  · exact .inl (.inl (e _ _ h))
  · exact .inl (.inr ⟨o, e _ _ h⟩)
  · exact .inr h
theorem ext_seq {K : PySem.W.Frag} {H H1 : Hp} {a : Addr} {xs : List V} (h : SqL K H a xs) (e : LamX.ExtN H H1) : SqL K H1 a xs := by
  rcases h with (h | ⟨o, h⟩) | h
  · exact .inl (.inl (e _ _ h fun _ z => nomatch z))
  · exact .inl (.inr ⟨o, e _ _ h fun _ z => nomatch z⟩)
  · exact .inr h
theorem Purse.same {H H' : Hp} {p : Addr} (h : Purse H p) (e : Same H H') : Purse H' p := by
  obtain ⟨a, b, c, h⟩ := h
  exact ⟨a, b, c, e _ _ h⟩
theorem Same.but {p : Addr} {H H1 H2 : Hp} (hp : H p = none) (e : Same H H1) (b : But p H1 H2) : Same H H2 := fun c o h => b c o (ne_of_none h hp) (e c o h)

/-! ### the dict is written -/
section
variable {P : Program} {w : World} {K : PySem.W.Frag} {H : Hp} {d : Addr} {es es' : List En}
theorem nd_tup {a : Addr} {xs : List V} (hd : H d = some (ND P w d es)) (h : SqT K H a xs) : SqT K (upd H d (ND P w d es')) a xs :=
  But.upd.tup hd (fun _ z => nomatch z) (fun _ _ z => nomatch z) h
theorem nd_lst {a : Addr} {xs : List V} (hd : H d = some (ND P w d es)) (h : H a = some (.lst xs)) : upd H d (ND P w d es') a = some (.lst xs) := by
  rw [upd_ne (ne_of h hd (fun z => nomatch z))]
  exact h
theorem nd_stories {e : Addr} {ss : List Story} (hd : H d = some (ND P w d es)) (h : StoriesAt K H e ss) : StoriesAt K (upd H d (ND P w d es')) e ss := by
  obtain ⟨as, h1, h2⟩ := h
  exact ⟨as, nd_lst hd h1, Paired.mono (fun a s q => q.mono fun _ _ r => nd_tup hd r) h2⟩
theorem nd_turns {l : Addr} {ts : List Tn} (hd : H d = some (ND P w d es)) (h : TurnsAt K H l ts) : TurnsAt K (upd H d (ND P w d es')) l ts := by
  obtain ⟨as, h1, h2⟩ := h
  exact ⟨as, nd_lst hd h1, Paired.mono (fun a s q => nd_tup hd q) h2⟩
end
/-- the lock is taken off again -/
theorem unlock_tup {P : Program} {w : World} {K : PySem.W.Frag} {H : Hp} {d : Addr} {es : List En} {od : Obj} {u : HO} {a : Addr} {xs : List V} (hd : H d = some (.frz od (ND P w d es))) (h : SqT K H a xs) : SqT K (upd H d u) a xs := by
  rcases h with (h | ⟨o, h⟩) | h
  · exact .inl (.inl (by rw [upd_ne (ne_of h hd fun z => nomatch z)]; exact h))
  · refine .inl (.inr ⟨o, ?_⟩)
    rw [upd_ne (ne_of h hd fun z => ?_)]
    · exact h
    · injection z with z1 z2
      cases z2
  · exact .inr h
theorem lock_tup {P : Program} {w : World} {K : PySem.W.Frag} {H : Hp} {d : Addr} {es : List En} {u : HO} {a : Addr} {xs : List V} (hd : H d = some (ND P w d es)) (h : SqT K H a xs) : SqT K (upd H d u) a xs :=
  But.upd.tup hd (fun _ z => nomatch z) (fun _ _ z => nomatch z) h
theorem atI_end {xs : List V} {v : V} (h : xs[xs.length - 1]? = some v) : atI xs (-1) = some v := by
  have h0 : xs ≠ [] := by
    rintro rfl
    simp at h
  have e := List.dropLast_concat_getLast h0
  have e2 : xs.getLast h0 = v := by
    rw [List.getLast_eq_getElem]
    rw [List.getElem?_eq_getElem (by have := List.length_pos_iff.mpr h0; omega)] at h
    exact Option.some.inj h
  rw [e2] at e
  rw [← e]
  exact atI_last _ _
theorem put_same {L : List Story} {es : List En} (n : Nums L es) (t : Tree L) {x : Story} (hx : x ∈ L) (b : Addr) : putN es x b (.int (L.idxOf x : Nat)) = es := by
  unfold putN
  rw [n.keys, if_pos hx]
  refine Eq.trans (List.map_congr_left fun e he => ?_) (List.map_id es)
  by_cases h : e.1 = x
  · rw [if_pos h]
    obtain ⟨i, hi, e2⟩ := List.getElem_of_mem he
    have e3 : es[i]? = some e := by rw [List.getElem?_eq_getElem hi, e2]
    have e4 := n.vals i e e3
    have e5 : L[i]? = some x := by
      have h1 : (es.map (·.1))[i]? = some x := by rw [List.getElem?_map, e3]; exact congrArg some h
      rw [n.keys] at h1
      exact h1
    rw [ix_of t.nodup e5, ← e4]
    rfl
  · rw [if_neg h]
    rfl
theorem put_new {L : List Story} {es : List En} (n : Nums L es) {x : Story} (hx : x ∉ L) (b : Addr) : putN es x b (.int (L.length : Nat)) = es ++ [(x, b, .int (L.length : Nat))] := by
  unfold putN
  rw [n.keys, if_neg hx]
theorem nums_new {L : List Story} {es : List En} (n : Nums L es) (x : Story) (b : Addr) : Nums (L ++ [x]) (es ++ [(x, b, .int (L.length : Nat))]) := by
  have hl : es.length = L.length := by
    have := congrArg List.length n.keys
    rwa [List.length_map] at this
  refine ⟨by rw [List.map_append, n.keys]; rfl, fun i e he => ?_⟩
  by_cases h : i < es.length
  · rw [List.getElem?_append_left h] at he
    exact n.vals i e he
  · rw [List.getElem?_append_right (by omega)] at he
    have h2 : i - es.length = 0 := by
      refine Nat.eq_zero_of_not_pos fun q => ?_
      rw [List.getElem?_eq_none (by rw [List.length_singleton]; omega)] at he
      cases he
    rw [h2] at he
    have e3 : (x, b, V.int (L.length : Nat)) = e := Option.some.inj he
    rw [← e3]
    show V.int _ = V.int _
    rw [show i = L.length by omega]
theorem Nums.len {L : List Story} {es : List En} (n : Nums L es) : es.length = L.length := by
  have := congrArg List.length n.keys
  rwa [List.length_map] at this

/-! ### stories as data -/
def pD (p : Dd) : PyData := .tuple [.str p.1, .str p.2]
def sD (s : Story) : PyData := .tuple (s.map pD)
section
variable {K : PySem.W.Frag} {H : Hp}
theorem dp_deeds : ∀ {as : List Addr} {s : Story}, Paired (fun (a : Addr) (p : Dd) => SqT K H a [.str p.1, .str p.2]) as s → DpAll K H (as.map V.ref) (s.map pD)
  | _, _, .nil => .nil
  | _, _, .cons r t => .cons (.tup r (.cons (.str _) (.cons (.str _) .nil))) (dp_deeds t)
theorem StoryAt.dp {b : Addr} {s : Story} (h : StoryAt K H b s) : Dp K H (.ref b) (sD s) := by
  obtain ⟨as, h1, h2⟩ := h
  exact .tup h1 (dp_deeds h2)
end
theorem deeds_ok : ∀ {s : Story}, (∀ p ∈ s, PyData.strOk p.1 = true ∧ PyData.strOk p.2 = true) → PyData.canLayAll0 (s.map pD) = true ∧ PyData.depthAll (s.map pD) ≤ 1
  | [], _ => ⟨by simp [PyData.canLayAll0], by simp [PyData.depthAll]⟩
  | p :: s, h => by
    obtain ⟨h1, h2⟩ := h p (List.mem_cons_self ..)
    obtain ⟨h3, h4⟩ := deeds_ok (s := s) fun x hx => h x (List.mem_cons_of_mem _ hx)
    refine ⟨by simp [pD, PyData.canLayAll0, PyData.canLay0, h1, h2, h3], ?_⟩
    simp only [List.map_cons, PyData.depthAll, pD, PyData.depth]
    omega
theorem okay_strs {s : Story} (h : Okay s) : ∀ p ∈ s, PyData.strOk p.1 = true ∧ PyData.strOk p.2 = true := fun p hp => by
  have g := h.good p hp
  refine ⟨?_, g.2⟩
  rcases g.1 with q | q
  · rw [q]; decide +kernel
  · rw [q]; decide +kernel
theorem sD_shaped {s : Story} (h : Okay s) : SeqAt.shaped (sD s) = true := by
  obtain ⟨h1, h2⟩ := deeds_ok (okay_strs h)
  have h3 : PyData.depth (sD s) ≤ 64 := by
    unfold sD
    simp only [PyData.depth]
    omega
  show (PyData.canLay0 (sD s) && decide (PyData.depth (sD s) ≤ 64)) = true
  rw [Bool.and_eq_true]
  exact ⟨by unfold sD; simp only [PyData.canLay0]; exact h1, decide_eq_true h3⟩
theorem sD_self {s : Story} (h : Okay s) : PyData.eqv (sD s) (sD s) = true := SeqAt.eqv_refl _ (SeqAt.canLay_of_shaped (sD_shaped h))
theorem sD_nil {s : Story} (h : s ≠ []) : PyData.eqv (sD s) (.tuple []) = false := by
  cases s with
  | nil => exact absurd rfl h
  | cons p s => simp [sD, PyData.eqv, PyData.eqvAll]
theorem unit_eqv : PyData.eqv (.tuple []) (.tuple []) = true := by simp [PyData.eqv, PyData.eqvAll]
theorem unit_shaped : SeqAt.shaped (.tuple []) = true := by
  show (PyData.canLay0 (.tuple []) && decide (PyData.depth (.tuple []) ≤ 64)) = true
  simp [PyData.canLay0, PyData.canLayAll0, PyData.depth, PyData.depthAll]
end Wr

namespace Wr
open PySem L2
section
variable {P : Program} {w : World} {K : PySem.W.Frag} {mg : Str → Option Value} {base : Heap}
/-- the defs that the law calls -/
structure Lib (P : Program) (w : World) (K : PySem.W.Frag) (mg : Str → Option Value) (base : Heap) (pt : Addr) : Prop where
  ce : Has P w K mg base 1 "_law_cell" ["_law_script", "_law_k"] (spCell K)
  pu : Has P w K mg base 1 "_law_purse" ["_law_cell_here"] spPurse
  ta : Has P w K mg base 1 "_law_take" ["_law_purse_here", "_law_many"] spTake
  wo : Has P w K mg base 3 "_law_words" ["_law_purse_here", "_law_many", "_law_used"] (spWords K)
  st : Has P w K mg base 2 "_law_story" ["_law_purse_here", "_law_names", "_law_elders"] (spStory K)
  tu : Has P w K mg base 5 "_law_turns" ["_law_way", "_law_stories"] (spTurns K pt)
  sb : Has P w K mg base 3 "shape_by" ["shapes", "number", "deed", "field"] (spSb K)
  nu : Has P w K mg base 2 "_law_number" ["_law_told", "_law_shapes", "_law_known"] (spNum K)
  ag : Has P w K mg base 4 "_law_again" ["_law_shapes", "_law_story_here", "_law_numbers"] (spAgain P w K)
  sa : Has P w K mg base 2 "_law_same" ["_law_one", "_law_other"] (spSame K)
  wk : Has P w K mg base 1 "_law_walked" ["_law_shapes", "_law_number_here"] (spWalk K)
  fa : Has P w K mg base 2 "fields_at" ["shapes", "number"] (spFa K)
  fd : Has P w K mg base 1 "_law_fields" ["_law_story_here"] (spFld K)
abbrev nLaw : List Str := ["_law_script", "_law_head", "_law_way", "_law_many", "_law_names", "_law_k", "_law_stories", "_law_shapes", "_law_numbers", "_law_j", "_law_story_here", "_law_told", "_law_at"]
theorem scLaw : FnScope nLaw ["_law_script"] (defScope sLaw) := ⟨rfl, rfl, rfl, by decide +kernel, rfl, by decide +kernel, by decide +kernel⟩
def spLaw (K : PySem.W.Frag) (pt : Addr) : Sp := fun vs H Q _ => ∃ (a : Addr) (ns : List Int), vs = [.ref a] ∧ SqL K H a (ns.map V.int) ∧ H pt = some (.tbl #[]) ∧ ∀ H' : Hp, Q (.bl true) H'
abbrev tNameIf (K : PySem.W.Frag) : TT := tTest (tOp (rIn K true) (tOp (rIxL K) (tVar 4) (tVar 5)) (tSl (rSlL K) (tVar 4) tNoPart (tPart (tVar 5))))
abbrev pdL (u : List Str) : List Str := "put" :: "drop" :: u
theorem law_ok {f : Addr} {fd : FuncData} {pt : Addr} (B : Bl mg) (S : Lib P w K mg base pt) (F : Fun K "law" "law" sLaw f fd) : FnOk P w K mg base CX0 6 f fd ["_law_script"] (spLaw K pt) := by
  have CE := S.ce
  have PU := S.pu
  have TA := S.ta
  have WO := S.wo
  have ST := S.st
  have TU := S.tu
  have SB := S.sb
  have NU := S.nu
  have AG := S.ag
  have SA := S.sa
  have WK := S.wk
  have FA := S.fa
  have FD := S.fd
  refine F.ok scLaw (fun vs H Q E h => ?_) (fun cdv A outer s H vs Q E hr h => ?_)
  · obtain ⟨a, ns, rfl, _⟩ := h
    rfl
  · obtain ⟨a, ns, rfl, hS, hT, q⟩ := h
    have hu := hr.units
    have hr4 : Room 4 _ := hr.mono (by decide)
    have hr3 : Room 3 _ := hr.mono (by decide)
    have hr2 : Room 2 _ := hr.mono (by decide)
    have hr1 : Room 1 _ := hr.mono (by decide)
    refine ⟨_, (pss_cons (ps_set (i := 1) scLaw.nd rfl (.inl rfl) (pe_has PU hr1 (pa_cons (pe_has CE hr1 (pa_cons (pv 0) (pa_cons pe_int pa_nil))) pa_nil)))
      (pss_cons (ps_set (i := 2) scLaw.nd rfl (.inl rfl) (pe_has TA hr1 (pa_cons (pv 1) (pa_cons pe_int pa_nil))))
      (pss_cons (ps_set (i := 3) scLaw.nd rfl (.inl rfl) (pe_op op_add pe_int (pe_has TA hr1 (pa_cons (pv 1) (pa_cons pe_int pa_nil)))))
      (pss_cons (ps_set (i := 4) scLaw.nd rfl (.inr rfl) (pe_has WO hr3 (pa_cons (pv 1) (pa_cons (pe_op op_add pe_int (pe_has TA hr1 (pa_cons (pv 1) (pa_cons pe_int pa_nil)))) (pa_cons (pe_lst pa_nil) pa_nil)))))
      (pss_cut (ps_if (pt_cmpR op_eq (pe_has TA hr1 (pa_cons (pv 1) (pa_cons pe_int pa_nil))) pe_int (nomark _)) (pss_cons (ps_set (i := 4) scLaw.nd rfl (.inr rfl) (pe_op op_cat (pe_lst (pa_cons pe_str (pa_cons pe_str pa_nil))) (pe_slice sl_list (pv 4) po_none (po_some pe_int))))
      (pss_one (ps_set (i := 4) scLaw.nd rfl (.inr rfl) (pe_lc (own := [("_law_k", 5)]) (g := gName 5) (tt := tNameIf K) (te := tOp (rIxL K) (tVar 4) (tVar 5)) (by rfl) scLaw.nd (pi_range1 rfl B.range (pa_cons (pe_callB call_len_seq (by rfl) B.len boot_len (pa_cons (pv 4) pa_nil)) pa_nil)) (blkOk_by (N := nLaw) (sc := defScope sLaw) (by decide +kernel)) (fun _ _ _ _ _ => pg_name (i := 5) scLaw.nd rfl (Or.inl rfl)) (fun _ _ _ _ _ => pts_one (pt_cmpR op_notIn_seq (pe_ix ix_list (pv 4) (pv 5) (fun _ _ => rfl)) (pe_slice sl_list (pv 4) po_none (po_some (pv 5))) (by rfl))) (fun _ _ _ _ _ => (pe_ix ix_list (pv 4) (pv 5) (fun _ _ => rfl))))))) pss_nil)
      (pss_cons (ps_set (i := 6) scLaw.nd rfl (.inl rfl) (pe_lst pa_nil))
      (pss_cut (ps_for PassesOwn.never rfl (pi_range1 rfl B.range (pa_cons (pv 3) pa_nil)) (pg_name (i := 5) scLaw.nd rfl (.inl rfl))
      (pss_one (ps_expr (pe_bm PySem.F.plainAttrs_list PySem.F.slot_list_append PySem.F.type_list_append mt_append (pv 6) (pa_cons (pe_has ST hr2 (pa_cons (pe_has PU hr1 (pa_cons (pe_has CE hr1 (pa_cons (pv 0) (pa_cons (pe_op op_add pe_int (pv 5)) pa_nil))) pa_nil)) (pa_cons (pv 4) (pa_cons (pv 6) pa_nil)))) pa_nil)))))
      (pss_cut (ps_asg (pe_tup (pa_cons (pe_tup (pa_cons (pe_tup pa_nil) pa_nil)) (pa_cons (pe_disp1 hu (pe_tup pa_nil) pe_int) pa_nil))) (pg_tup rfl (pgs_cons (pg_name (i := 7) scLaw.nd rfl (.inr rfl)) (pgs_cons (pg_name (i := 8) scLaw.nd rfl (.inr rfl)) pgs_nil))))
      (pss_cut (ps_for PassesOwn.never rfl (pi_list (pe_has TU hr (pa_cons (pv 2) (pa_cons (pv 6) pa_nil)))) (pg_tup rfl (pgs_cons (pg_name (i := 5) scLaw.nd rfl (.inl rfl)) (pgs_cons (pg_name (i := 9) scLaw.nd rfl (.inl rfl)) pgs_nil)))
      (pss_cons (ps_set (i := 10) scLaw.nd rfl (.inl rfl) (pe_slice sl_tupA (pe_ix ix_list (pv 6) (pv 9) (fun _ _ => rfl)) po_none (po_some (pe_op op_add (pv 5) pe_int))))
      (pss_cons (ps_set (i := 11) scLaw.nd rfl (.inl rfl) (pe_has SB hr3 (pa_cons (pv 7) (pa_cons (pe_ix (ix_nd hu) (pv 8) (pe_slice sl_tupA (pv 10) po_none (po_some (pe_un un_neg pe_int))) (fun _ _ => rfl)) (pa_cons (pe_ix ix_tup (pe_ix ix_tup (pv 10) (pv 5) (fun _ _ => rfl)) pe_int (fun _ _ => rfl)) (pa_cons (pe_ix ix_tup (pe_ix ix_tup (pv 10) (pv 5) (fun _ _ => rfl)) pe_int (fun _ _ => rfl)) pa_nil))))))
      (pss_cons (ps_if (pt_not (pt_val (pe_has NU hr2 (pa_cons (pv 11) (pa_cons (pv 7) (pa_cons (pe_cmpR (op_inN hu) (pv 10) (pv 8) (by rfl)) pa_nil)))))) pss_never pss_nil)
      (pss_cons (ps_if (PW.pt (pw_and (pt_cmpR (op_inN hu) (pv 10) (pv 8) (by rfl)) (pw_and1 (pt_cmpR op_ne (pe_ix (ix_nd hu) (pv 8) (pv 10) (fun _ _ => rfl)) (pe_ix ix_tup (pv 11) pe_int (fun _ _ => rfl)) (nomark _))))) pss_never pss_nil)
      (pss_cons (ps_asg (pe_ix ix_tup (pv 11) pe_int (fun _ _ => rfl)) (pg_sub (pv 8) (pv 10) (set_nd hu)))
      (pss_one (ps_set (i := 7) scLaw.nd rfl (.inr rfl) (pe_ix ix_tup (pv 11) pe_int (fun _ _ => rfl))))))))))
      (pss_cut (ps_if (PW.pt (pw_or (pt_cmpR op_ne (pe_callB call_len_seq (by rfl) B.len boot_len (pa_cons (pv 7) pa_nil)) (pe_callB call_lenN (by rfl) B.len boot_len (pa_cons (pv 8) pa_nil)) (nomark _)) (pw_or1 (pt_cmpR (op_neD hu) (pe_ix ix_tup (pv 7) pe_int (fun _ _ => rfl)) (pe_tup pa_nil) (nomark _))))) pss_never pss_nil)
      (pss_cut (ps_lock (ps_for PassesOwn.never rfl (pi_nd (pv 8)) (pg_name (i := 10) scLaw.nd rfl (.inl rfl))
      (pss_cons (ps_set (i := 12) scLaw.nd rfl (.inl rfl) (pe_ix (ix_nd hu) (pv 8) (pv 10) (fun _ _ => rfl)))
      (pss_cons (ps_if (PW.pt (pw_and (pt_cmpR (op_neD hu) (pv 10) (pe_tup pa_nil) (nomark _)) (pw_and1 (pt_not (pt_val (pe_has SA hr2 (pa_cons (pe_ix ix_tup (pv 7) (pv 12) (fun _ _ => rfl)) (pa_cons (pe_op op_catA (pe_tup (pa_cons (pe_ix (ix_nd hu) (pv 8) (pe_slice sl_tupA (pv 10) po_none (po_some (pe_un un_neg pe_int))) (fun _ _ => rfl)) pa_nil)) (pe_ix ix_tup (pv 10) (pe_un un_neg pe_int) (fun _ _ => rfl))) pa_nil)))))))) pss_never pss_nil)
      (pss_one (ps_if (PW.pt (pw_or (pt_cmpR (op_neD hu) (pe_has WK hr1 (pa_cons (pv 7) (pa_cons (pv 12) pa_nil))) (pv 10) (nomark _)) (pw_or1 (pt_not (pt_val (pe_has SA hr2 (pa_cons (pe_has FA hr2 (pa_cons (pv 7) (pa_cons (pv 12) pa_nil))) (pa_cons (pe_has FD hr1 (pa_cons (pv 10) pa_nil)) pa_nil)))))))) pss_never pss_nil))))))
      (pss_one (ps_ret (pe_callB (cr_all rfl) (by rfl) B.all PyProof.Rows.boot_all (pa_cons (pe_lc (own := [("_law_story_here", 10)]) (g := gName 10) (te := tCall (spAgain P w K) [] E0 (tCons (tVar 7) (tCons (tVar 10) (tCons (tVar 8) tNil)))) (by rfl) scLaw.nd (pi_list (pv 6)) (blkOk_by (N := nLaw) (sc := defScope sLaw) (by decide +kernel)) (fun _ _ _ _ _ => pg_name (i := 10) scLaw.nd rfl (Or.inl rfl)) (fun _ _ _ _ _ => pts_nil) (fun _ _ _ _ _ => (pe_has AG hr4 (pa_cons (pv 7) (pa_cons (pv 10) (pa_cons (pv 8) pa_nil)))))) pa_nil))))))))))))))), ?_⟩
    -- the purse of the head
    refine ⟨_, rfl, a, ns, 0, rfl, hS, by decide, by decide, fun z H1 s1 => ?_⟩
    refine ⟨z, rfl, fun p H2 s2 hp P2 => ?_⟩
    have hpH : H p = none := s1.free hp
    have hT2 : H2 pt = some (.tbl #[]) := s2 _ _ (s1 _ _ hT)
    have sH2 : Same H H2 := Same.trans s1 s2
    -- the way
    refine ⟨_, rfl, p, 3, rfl, P2, by decide, by decide, fun way H3 w0 w1 b3 P3 => ?_⟩
    -- how many
    refine ⟨_, rfl, p, 9, rfl, P3, by decide, by decide, fun m H4 m0 m1 b4 P4 => ⟨2, m, rfl, rfl, ?_⟩⟩
    -- the names
    refine ⟨_, rfl, _, rfl, p, 4, rfl, P4, by decide, by decide, fun n H5 n0 n1 b5 P5 => ⟨1, n, rfl, rfl, ⟨Nat.zero_le _, fun u hu5 => ?_⟩⟩⟩
    have s5 : Same H5 (upd H5 u (.lst [])) := Same.upd hu5
    refine ⟨p, u, 1 + n, rfl, P5.same s5, upd_same, by omega, by omega, fun l us H6 hl6 hnm b6 P6 npl hl _ => ?_⟩
    have bp : But p H H6 := (But.of sH2).trans (b3.trans (b4.trans (b5.trans ((But.of s5).trans b6))))
    have s6 : Same H H6 := Same.but hpH (Same.refl H) bp
    -- the names once more
    refine ⟨fun σ' H' => ∃ (l : Addr) (us : List Str), σ' = [some (.ref a), some (.ref p), some (.int way), some (.int (2 + m)), some (.ref l), none, none, none, none, none, none, none, none] ∧ Same H H' ∧ H' l = some (.lst (us.map V.str)) ∧ 0 < us.length ∧ us.length ≤ 20 ∧ ∀ z ∈ us, Nm z, ?_, ?_⟩
    · refine ⟨_, rfl, p, 4, rfl, P6, by decide, by decide, fun r H7 r0 r1 b7 P7 => ?_⟩
      have s7 : Same H H7 := Same.but hpH s6 b7
      have hl7 : H7 l = some (.lst (us.map V.str)) := b7 _ _ npl hl
      refine ⟨rfl, _, rfl, ite2 (fun _ => ?_) (fun _ => ?_)⟩
      · refine ⟨(show 2 ≤ sizeLine from line1000 (by decide)), fun g hg => ?_⟩
        have sg : Same H7 (upd H7 g (.lst [.str "put", .str "drop"])) := Same.upd hg
        refine ⟨_, rfl, 2, rfl, l, _, rfl, SqL.of (sg _ _ hl7), fun c hc => ?_⟩
        rw [cut_to V.str us (n := 2) (by decide)] at *
        have sc : Same (upd H7 g (.lst [.str "put", .str "drop"])) (upd (upd H7 g (.lst [.str "put", .str "drop"])) c (.lst ((us.take (2 : Int).toNat).map V.str))) := Same.upd hc
        have l2 : (us.take (2 : Int).toNat).length ≤ 2 := by rw [List.length_take]; exact Nat.min_le_left _ _
        have hm2 : ∀ z ∈ us.take (2 : Int).toNat, Nm z := fun z hz => hnm z (List.mem_of_mem_take hz)
        generalize us.take (2 : Int).toNat = u2 at sc l2 hm2 ⊢
        refine ⟨g, c, _, _, rfl, rfl, sc _ _ upd_same, upd_same, line1000 (by rw [List.length_map]; show 2 + u2.length ≤ 1000; omega), fun d hd => ?_⟩
        have sd := Same.upd (o := .lst ([.str "put", .str "drop"] ++ u2.map V.str)) hd
        have hd2 : upd (upd (upd H7 g (.lst [.str "put", .str "drop"])) c (.lst (u2.map V.str))) d (.lst ([.str "put", .str "drop"] ++ u2.map V.str)) d = some (.lst ((pdL u2).map V.str)) := upd_same
        have s10 : Same H (upd (upd (upd H7 g (.lst [.str "put", .str "drop"])) c (.lst (u2.map V.str))) d (.lst ([.str "put", .str "drop"] ++ u2.map V.str))) := Same.trans s7 (Same.trans sg (Same.trans sc sd))
        have hvm : ∀ z ∈ pdL u2, Nm z := fun z hz => by
          rcases List.mem_cons.mp hz with rfl | h1
          · exact ⟨by decide +kernel, by decide +kernel⟩
          · rcases List.mem_cons.mp h1 with rfl | h1
            · exact ⟨by decide +kernel, by decide +kernel⟩
            · exact hm2 z h1
        have hvl : (pdL u2).length ≤ 4 := by show u2.length + 1 + 1 ≤ 4; omega
        have hv0 : 0 < (pdL u2).length := by show 0 < u2.length + 1 + 1; omega
        generalize pdL u2 = vs at hd2 hvm hvl hv0
        generalize upd (upd (upd H7 g (.lst [.str "put", .str "drop"])) c (.lst (u2.map V.str))) d (.lst ([.str "put", .str "drop"] ++ u2.map V.str)) = H10 at hd2 s10 ⊢
        refine ⟨_, rfl, d, _, rfl, .inl (SqL.of hd2), _, rfl, by rw [List.length_map]; omega, by rw [List.length_map]; omega, fun Dd hD => ?_⟩
        rw [List.length_map, Int.toNat_natCast]
        refine lc_it walk_range (fun i H' => ∃ acc : List Str, Same H10 H' ∧ H' Dd = some (.lst (acc.map V.str)) ∧ acc.length ≤ i ∧ (0 < i → acc ≠ []) ∧ ∀ z ∈ acc, Nm z)
          ⟨[], Same.upd hD, upd_same, Nat.le_refl _, fun z => absurd z (Nat.lt_irrefl _), fun z hz => nomatch hz⟩ (fun _ _ _ _ => trivial) ?_ ?_
        · rintro i x H11 H12 hi ⟨acc, s11, hacc, ha, h0, hmem⟩ ⟨rfl, rfl⟩
          have e0 : (0 : Int) + (i : Nat) = ((i : Nat) : Int) := by omega
          have hd12 : H12 d = some (.lst (vs.map V.str)) := s11 _ _ hd2
          have hat : atI (vs.map V.str) (0 + (i : Nat)) = some (.str vs[i]) := at_of (j := i) (by omega) (by rw [List.getElem?_map, List.getElem?_eq_getElem hi]; rfl)
          refine ⟨rfl, _, rfl, _, rfl, d, _, _, _, rfl, rfl, SqL.of hd12, hat, _, rfl, _, rfl, _, rfl, d, _, rfl, SqL.of hd12, fun c hc => ?_⟩
          rw [cut_to V.str vs (by omega), e0, Int.toNat_natCast]
          have sc : Same H12 (upd H12 c (.lst ((vs.take i).map V.str))) := Same.upd hc
          have ndc : Dd ≠ c := ne_of_none hacc hc
          refine ⟨c, _, rfl, .inl (SqL.of upd_same), rfl, flat_strs _, _, rfl, ?_⟩
          show (if (!inV (V.str vs[i]) ((vs.take i).map V.str)) = true then _ else _)
          rw [inV_str]
          refine ite2 (fun _ => ?_) (fun hh => ?_)
          · refine ⟨_, rfl, _, rfl, d, _, _, _, rfl, rfl, SqL.of (sc _ _ hd12), hat, acc.map V.str, sc _ _ hacc, ?_, acc ++ [vs[i]], ?_, ?_, ?_, fun _ => snoc_ne _ _, ?_⟩
            · rw [List.length_map]
              exact small1000 (by omega)
            · intro b o eb
              rw [upd_ne (ne_of_none eb hD)]
              exact sc _ _ (s11 _ _ eb)
            · rw [upd_same, List.map_append]
              rfl
            · rw [List.length_append, List.length_singleton]
              omega
            · intro z hz
              rcases List.mem_append.mp hz with h1 | h1
              · exact hmem z h1
              · rw [List.mem_singleton.mp h1]
                exact hvm _ (List.getElem_mem hi)
          · refine ⟨acc, Same.trans s11 sc, sc _ _ hacc, by omega, fun _ => ?_, hmem⟩
            refine h0 (Nat.pos_of_ne_zero fun z => ?_)
            subst z
            simp at hh
        · rintro H11 ⟨acc, s11, hacc, ha, h0, hmem⟩
          refine ⟨Dd, acc, rfl, Same.trans s10 s11, hacc, List.length_pos_iff.mpr (h0 hv0), by omega, hmem⟩
      · exact ⟨l, us, rfl, s7, hl7, by omega, by omega, hnm⟩
    clear hl hnm b6 P6 npl bp s6 hl6 s5 hu5 b5 P5 b4 P4 b3 P3 hT2 sH2 P2 s2 s1
    rintro σ' H7 ⟨l, us, rfl, s7, hl7, u0, u1, hnm⟩
    -- the stories
    refine ⟨Nat.zero_le _, fun e he => ?_⟩
    have heH : H e = none := s7.free he
    have nle : l ≠ e := ne_of_none hl7 he
    have se : Same H7 (upd H7 e (.lst [])) := Same.upd he
    have he0 : upd H7 e (.lst []) e = some (.lst (([] : List Addr).map V.ref)) := upd_same
    generalize upd H7 e (.lst []) = H8 at se he0 ⊢
    refine ⟨fun σ' H' => ∃ (ss : List Story) (v5 : Option V), σ' = [some (.ref a), some (.ref p), some (.int way), some (.int (2 + m)), some (.ref l), v5, some (.ref e), none, none, none, none, none, none] ∧ Same H H' ∧ StoriesAt K H' e ss ∧ ss.length ≤ 20 ∧ ∀ s ∈ ss, GS s, ?_, ?_⟩
    · refine ⟨_, rfl, 2 + m, rfl, by omega, by omega, ?_⟩
      refine for_range (n := (2 + m).toNat) (fun i σ' H' => ∃ (ss : List Story) (v5 : Option V), σ' = [some (.ref a), some (.ref p), some (.int way), some (.int (2 + m)), some (.ref l), v5, some (.ref e), none, none, none, none, none, none] ∧ Same H H' ∧ H' l = some (.lst (us.map V.str)) ∧ StoriesAt K H' e ss ∧ ss.length = i ∧ ∀ s ∈ ss, GS s)
        ⟨[], none, rfl, Same.trans s7 se, se _ _ hl7, ⟨[], he0, .nil⟩, rfl, fun s hs => nomatch hs⟩ ?_ ?_
      · rintro i σ' H9 hi ⟨ss, v5, rfl, s9, hl9, ⟨as, hea, hpa⟩, hsl, hgs⟩
        have i10 : ss.length ≤ 10 := by omega
        refine ⟨_, rfl, .inl ⟨rfl, _, SqL.of hea⟩, _, rfl, _, rfl, 1, _, rfl, rfl, a, ns, _, rfl, same_seq hS s9, by omega, by omega, fun z H10 s10 => ⟨z, rfl, fun g H11 s11 hg Pg => ?_⟩⟩
        have hgH : H9 g = none := s10.free hg
        have ngl : l ≠ g := ne_of_none hl9 hgH
        have nge : e ≠ g := ne_of_none hea hgH
        have s911 : Same H9 H11 := Same.trans s10 s11
        refine ⟨_, rfl, _, rfl, g, l, e, us, ss, rfl, Pg, ngl, nge, SqL.of (s911 _ _ hl9), u0, u1, hnm, StoriesAt.sm ⟨as, hea, hpa⟩ s911, by omega, hgs, fun b s H12 hs hb b12 P12 => ?_⟩
        have s12 : Same H9 H12 := Same.but hgH s911 b12
        have he12 : H12 e = some (.lst (as.map V.ref)) := s12 _ _ hea
        have la := Paired.length hpa
        refine ⟨e, _, .ref b, rfl, rfl, he12, ?_, ss ++ [s], _, rfl, ?_, ?_, ⟨as ++ [b], ?_, ?_⟩, by rw [List.length_append, List.length_singleton, hsl], ?_⟩
        · rw [List.length_map]
          exact small1000 (by omega)
        · intro c o ec
          rw [upd_ne (ne_of_none ec heH)]
          exact s12 _ _ (s9 _ _ ec)
        · rw [upd_ne nle]
          exact s12 _ _ hl9
        · rw [upd_same, List.map_append]
          rfl
        · have he' : But e H12 (upd H12 e (.lst (as.map V.ref ++ [.ref b]))) := But.upd
          exact Paired.snoc (Paired.mono (fun c z r => (r.same s12).but he' he12) hpa) (hb.but he' he12)
        · intro z hz
          rcases List.mem_append.mp hz with h1 | h1
          · exact hgs z h1
          · rw [List.mem_singleton.mp h1]
            exact hs
      · rintro σ' H9 ⟨ss, v5, rfl, s9, hl9, hss, hsl, hgs⟩
        exact ⟨ss, v5, rfl, s9, hss, by omega, hgs⟩
    clear he0 se heH nle he hl7 s7 u0 u1 hnm us
    rintro σ' H8 ⟨ss, v5, rfl, s8, hss, hsl, hgs⟩
    -- the shapes and the numbers
    refine ⟨fun σ' H' => ∃ b d b0 : Addr, σ' = [some (.ref a), some (.ref p), some (.int way), some (.int (2 + m)), some (.ref l), v5, some (.ref e), some (.ref b), some (.ref d), none, none, none, none] ∧ Same H8 H' ∧ ShapesAt K H' b [[]] ∧ H' d = some (ND P w d [([], b0, .int 0)]) ∧ KeysAt K H' [([], b0, .int 0)], ?_, ?_⟩
    · refine ⟨Nat.zero_le _, fun t0 ht0 => ⟨line1000 (show 1 ≤ 1000 by decide), fun t1 ht1 => fun d hd => ⟨Nat.zero_le _, fun t2 ht2 => ?_⟩⟩⟩
      have a1 : Same H8 (upd H8 t0 (.tup [])) := Same.upd ht0
      have a2 := Same.upd (o := .tup [V.ref t0]) ht1
      have a3 := Same.upd (o := ND P w d []) hd
      have a4 := Same.upd (o := .tup []) ht2
      have f0 : SqT K (upd (upd (upd (upd H8 t0 (.tup [])) t1 (.tup [V.ref t0])) d (ND P w d [])) t2 (.tup [])) t0 [] := SqT.of (a4 _ _ (a3 _ _ (a2 _ _ upd_same)))
      have f1 : SqT K (upd (upd (upd (upd H8 t0 (.tup [])) t1 (.tup [V.ref t0])) d (ND P w d [])) t2 (.tup [])) t1 [V.ref t0] := SqT.of (a4 _ _ (a3 _ _ upd_same))
      have f2 : upd (upd (upd (upd H8 t0 (.tup [])) t1 (.tup [V.ref t0])) d (ND P w d [])) t2 (.tup []) d = some (ND P w d []) := a4 _ _ upd_same
      have f3 : upd (upd (upd (upd H8 t0 (.tup [])) t1 (.tup [V.ref t0])) d (ND P w d [])) t2 (.tup []) t2 = some (.tup []) := upd_same
      have a14 : Same H8 (upd (upd (upd (upd H8 t0 (.tup [])) t1 (.tup [V.ref t0])) d (ND P w d [])) t2 (.tup [])) := Same.trans a1 (Same.trans a2 (Same.trans a3 a4))
      have hd8 : H8 d = none := (Same.trans a1 a2).free hd
      have fin : ∀ (H9 : Hp) (t3 : Addr), SqT K H9 t0 [] → SqT K H9 t1 [V.ref t0] → H9 d = some (ND P w d []) → H9 t2 = some (.tup []) → Same H8 H9 → upd H9 d (ND P w d [([], t2, V.int 0)]) t3 = none →
          Same H8 (upd (upd H9 d (ND P w d [([], t2, V.int 0)])) t3 (.tup [V.ref t1, V.ref d])) ∧ ShapesAt K (upd (upd H9 d (ND P w d [([], t2, V.int 0)])) t3 (.tup [V.ref t1, V.ref d])) t1 [[]] ∧
          upd (upd H9 d (ND P w d [([], t2, V.int 0)])) t3 (.tup [V.ref t1, V.ref d]) d = some (ND P w d [([], t2, V.int 0)]) ∧ KeysAt K (upd (upd H9 d (ND P w d [([], t2, V.int 0)])) t3 (.tup [V.ref t1, V.ref d])) [([], t2, V.int 0)] := by
        intro H9 t3 f0 f1 f2 f3 a14 ht3
        have a6 := Same.upd (o := .tup [V.ref t1, V.ref d]) ht3
        refine ⟨?_, ⟨[t0], same_tup a6 (nd_tup f2 f1), .cons (same_tup a6 (nd_tup f2 f0)) .nil⟩, a6 _ _ upd_same, ?_⟩
        · intro c o ec
          refine a6 _ _ ?_
          rw [upd_ne (ne_of_none ec hd8)]
          exact a14 _ _ ec
        · intro x hx
          rw [List.mem_singleton.mp hx]
          exact StoryAt.same ⟨[], nd_tup f2 (SqT.of f3), .nil⟩ a6
      refine ⟨t2, [], rfl, f2, .nil f3, line1000 (show 2 ≤ 1000 by decide), fun t3 ht3 => ⟨t3, _, rfl, SqT.of upd_same, rfl, _, _, rfl, _, _, rfl, rfl, t1, d, t2, rfl, fin _ t3 f0 f1 f2 f3 a14 ht3⟩⟩
    rintro σ' H9 ⟨b, d, b0, rfl, s9, hb0, hd0, hk0⟩
    have n0' : Nums [[]] [(([] : Story), b0, V.int 0)] := ⟨rfl, fun i e he => by
      cases i with
      | zero =>
        have e1 : (([] : Story), b0, V.int 0) = e := Option.some.inj he
        rw [← e1]
        rfl
      | succ i => exact absurd he (by simp)⟩
    have hT9 : H9 pt = some (.tbl #[]) := s9 _ _ (s8 _ _ hT)
    have hss9 := hss.sm s9
    -- the turns
    refine ⟨fun σ' H' => ∃ (L : List Story) (b : Addr) (es : List En) (v5 v9 v10 v11 : Option V), σ' = [some (.ref a), some (.ref p), some (.int way), some (.int (2 + m)), some (.ref l), v5, some (.ref e), some (.ref b), some (.ref d), v9, v10, v11, none] ∧
      ShapesAt K H' b L ∧ Tree L ∧ H' d = some (ND P w d es) ∧ KeysAt K H' es ∧ Nums L es ∧ L.length ≤ 400 ∧ (∀ s ∈ ss, s ∈ L) ∧ StoriesAt K H' e ss, ?_, ?_⟩
    · refine ⟨_, rfl, _, rfl, way, e, ss, rfl, w0, w1, hss9, hsl, hgs, LamX.TabS.nil hT9, fun tl ts H10 eN hts hcols htl => ?_⟩
      obtain ⟨as, htl10, hpt⟩ := hts
      have lts := Paired.length hpt
      refine ⟨tl, rfl, ⟨_, SqL.of htl10⟩, ?_⟩
      refine for_it (walk_list (xs := as.map V.ref)) (fun i σ' H' => ∃ (L : List Story) (b : Addr) (es : List En) (v5 v9 v10 v11 : Option V), σ' = [some (.ref a), some (.ref p), some (.int way), some (.int (2 + m)), some (.ref l), v5, some (.ref e), some (.ref b), some (.ref d), v9, v10, v11, none] ∧
        ShapesAt K H' b L ∧ Tree L ∧ H' d = some (ND P w d es) ∧ KeysAt K H' es ∧ Nums L es ∧ L.length ≤ i + 1 ∧ (∀ t ∈ ts.take i, ∀ s, ss[t.2]? = some s → s.take (t.1 + 1) ∈ L) ∧ StoriesAt K H' e ss ∧ H' tl = some (.lst (as.map V.ref)) ∧ Paired (fun (a : Addr) (t : Tn) => SqT K H' a [.int t.1, .int t.2]) as ts)
        ⟨[[]], b, _, v5, none, none, none, rfl, hb0.mono fun _ _ r => ext_tup eN r, Tree.base, eN _ _ hd0 (fun _ z => nomatch z), hk0.mono fun _ _ r => ext_tup eN r, n0', Nat.le_refl _, fun t ht => absurd ht (by simp), hss9.ext eN, htl10, hpt⟩ (fun i σ' H' _ ⟨_, _, _, _, _, _, _, _, _, _, _, _, _, _, _, _, h, _⟩ => SqL.of h) ?_ ?_
      · rintro i x σ' H1 H2 hi ⟨L, b, es, v5, v9, v10, v11, rfl, hb, hL, hd, hk, hn, hll, hdone, hst, hl1, hp⟩ ⟨rfl, hx⟩
        rw [List.length_map] at hi
        have hti : i < ts.length := by omega
        have hxr : x = .ref as[i] := by
          rw [List.getElem?_map, List.getElem?_eq_getElem hi] at hx
          exact (Option.some.inj hx).symm
        subst hxr
        obtain ⟨tn, etn, htp⟩ := pr_at2 hp (List.getElem?_eq_getElem hi)
        have esplit : ts = ts.take i ++ tn :: ts.drop (i + 1) := by
          have h1 : ts[i] = tn := Option.some.inj ((List.getElem?_eq_getElem hti).symm.trans etn)
          rw [← h1, ← List.drop_eq_getElem_cons hti, List.take_append_drop]
        obtain ⟨k, j⟩ := tn
        have hkj := hcols.bound (List.mem_of_getElem? etn)
        have hkj' : k < (ss.map List.length).getD j 0 := hkj
        obtain ⟨s, hsj⟩ : ∃ s, ss[j]? = some s := by
          cases e1 : ss[j]? with
          | some s => exact ⟨s, rfl⟩
          | none =>
            rw [List.getD_eq_getElem?_getD, List.getElem?_map, e1] at hkj'
            exact absurd hkj' (Nat.not_lt_zero _)
        have hks : k < s.length := by
          rw [List.getD_eq_getElem?_getD, List.getElem?_map, hsj] at hkj'
          exact hkj'
        have hgss := hgs s (List.mem_of_getElem? hsj)
        have hy : s.take k ∈ L := by
          cases k with
          | zero =>
            rw [List.take_zero]
            exact hL.nil_mem
          | succ k =>
            rw [esplit] at hcols
            exact hdone _ hcols.ahead s hsj
        have hex : s.take (k + 1) = s.take k ++ [s[k]] := by
          rw [List.take_add_one, List.getElem?_eq_getElem hks]
          rfl
        have hyk : (s.take k).length = k := by rw [List.length_take]; omega
        have hok : Okay (s.take k ++ [s[k]]) := by
          rw [← hex]
          exact hgss.1.take _
        have hl16 : (s.take k ++ [s[k]]).length ≤ 16 := by
          rw [← hex, List.length_take]
          have := hgss.2
          omega
        -- what is done behind this turn
        have hdone' : ∀ L' : List Story, (∀ z ∈ L, z ∈ L') → s.take (k + 1) ∈ L' → ∀ t ∈ ts.take (i + 1), ∀ z, ss[t.2]? = some z → z.take (t.1 + 1) ∈ L' := by
          intro L' hsub hnew t ht z hz
          rw [List.take_add_one, etn] at ht
          rcases List.mem_append.mp ht with h1 | h1
          · exact hsub _ (hdone t h1 z hz)
          · have h2 : t = (k, j) := by simpa using h1
            subst h2
            have h3 : z = s := Option.some.inj (hz.symm.trans hsj)
            rw [h3]
            exact hnew
        generalize s.take k = y at hy hex hyk hok hl16
        generalize s[k] = pd at hex hok hl16
        have hlts : ts.length ≤ 320 := htl
        obtain ⟨ys, c, hys, hyc, hc⟩ := hst.get hsj
        refine ⟨as[i], _, rfl, htp, rfl, _, _, rfl, _, _, rfl, rfl, ?_⟩
        -- the story so far
        refine ⟨_, rfl, _, rfl, e, ys, _, _, rfl, rfl, SqL.of hys, at_of (j := j) rfl hyc, _, rfl, _, _, rfl, rfl, _, rfl, hc.cut (by omega) fun c2 H3 s3 hc2 => ?_⟩
        rw [show ((k : Int) + 1).toNat = k + 1 by omega, hex] at hc2
        obtain ⟨a2, ha2⟩ := hn.mem hy
        have hxi : (y ++ [pd])[k]? = some pd := by rw [← hyk]; simp
        -- what shape_by tells
        refine ⟨_, rfl, _, rfl, _, rfl, 1, rfl, _, rfl, hc2.cutLast fun c3 H4 s4 hc3 => ?_⟩
        rw [List.dropLast_concat] at hc3
        have s14 : Same _ H4 := Same.trans s3 s4
        have hc24 := hc2.same s4
        obtain ⟨zs, pa, hzs, hza, hpa⟩ := hc24.item hxi
        refine ⟨d, c3, es, y, a2, _, rfl, rfl, .inl (s14 _ _ hd), hk.same s14, hn.nodup hL, hc3, ha2, ?_⟩
        refine ⟨_, rfl, _, rfl, c2, zs, _, _, rfl, rfl, hzs, at_of (j := k) rfl hza, pa, _, 0, _, rfl, rfl, hpa, rfl, ?_⟩
        refine ⟨_, rfl, _, rfl, c2, zs, _, _, rfl, rfl, hzs, at_of (j := k) rfl hza, pa, _, 1, _, rfl, rfl, hpa, rfl, ?_⟩
        refine ⟨b, L, y, pd, rfl, hb.same s14, hL, hy, hok, by omega, fun t g H5 s5 ht hg => ?_⟩
        have s15 := Same.trans s14 s5
        have hc25 := hc24.same s5
        have fin : ∀ (L' : List Story) (es' : List En) (H6 : Hp), Same H5 H6 → ShapesAt K H6 g L' → Tree L' → Nums L' es' → KeysAt K H6 es' → L'.length ≤ i + 1 + 1 → (∀ z ∈ L, z ∈ L') → y ++ [pd] ∈ L' →
            ShapesAt K (upd H6 d (ND P w d es')) g L' ∧ Tree L' ∧ upd H6 d (ND P w d es') d = some (ND P w d es') ∧ KeysAt K (upd H6 d (ND P w d es')) es' ∧ Nums L' es' ∧ L'.length ≤ i + 1 + 1 ∧ (∀ t ∈ ts.take (i + 1), ∀ s, ss[t.2]? = some s → s.take (t.1 + 1) ∈ L') ∧
            StoriesAt K (upd H6 d (ND P w d es')) e ss ∧ upd H6 d (ND P w d es') tl = some (.lst (as.map V.ref)) ∧ Paired (fun (a : Addr) (t : Tn) => SqT K (upd H6 d (ND P w d es')) a [.int t.1, .int t.2]) as ts := by
          intro L' es' H6 s6 h1 h2 h3 h4 h5 h6 h7
          have s16 := Same.trans s15 s6
          have hd6 := s16 _ _ hd
          exact ⟨h1.mono fun _ _ r => nd_tup hd6 r, h2, upd_same, h4.mono fun _ _ r => nd_tup hd6 r, h3, h5, hdone' L' h6 (by rw [hex]; exact h7), nd_stories hd6 (hst.sm s16), nd_lst hd6 (s16 _ _ hl1), Paired.mono (fun a t r => nd_tup hd6 (same_tup s16 r)) hp⟩
        -- known, or not?
        refine ⟨_, rfl, _, rfl, _, rfl, _, rfl, d, c2, es, y ++ [pd], rfl, rfl, .inl (s15 _ _ hd), hk.same s15, hc25, ?_⟩
        by_cases hxL : y ++ [pd] ∈ L
        · have ea : after L (y ++ [pd]) = L := if_pos hxL
          rw [ea] at ht hg
          have edk : decide (y ++ [pd] ∈ es.map (·.1)) = true := by
            rw [hn.keys]
            exact decide_eq_true hxL
          refine ⟨t, b, g, L, L, _, _, rfl, ht, hb.same s15, hg, hL, hL, .inl ⟨edk, rfl⟩, fun H6 s6 => ⟨_, rfl, iteF ?_⟩⟩
          have s16 := Same.trans s15 s6
          have ht6 := same_tup s6 ht
          refine ⟨_, rfl, _, rfl, d, c2, es, y ++ [pd], rfl, rfl, .inl (s16 _ _ hd), hk.same s16, hc25.same s6, _, rfl, ?_⟩
          rw [edk]
          refine iteT ?_
          obtain ⟨a3, ha3⟩ := hn.mem hxL
          refine ⟨_, rfl, _, rfl, d, c2, es, y ++ [pd], a3, _, rfl, rfl, .inl (s16 _ _ hd), hk.same s16, hn.nodup hL, hc25.same s6, ha3, _, rfl, t, _, 1, _, rfl, rfl, ht6, rfl, rfl, _, rfl, ?_⟩
          show (if (!decide (V.int ((L.idxOf (y ++ [pd]) : Nat) : Int) = V.int ((L.idxOf (y ++ [pd]) : Nat) : Int))) = true then _ else _)
          rw [decide_eq_true rfl]
          refine iteF ?_
          refine ⟨_, rfl, t, _, 1, _, rfl, rfl, ht6, rfl, _, rfl, _, rfl, d, c2, es, y ++ [pd], rfl, rfl, s16 _ _ hd, hk.same s16, hc25.same s6, by rw [hn.len]; exact small1000 (by omega), ?_⟩
          rw [put_same hn hL hxL]
          refine ⟨_, rfl, t, _, 0, _, rfl, rfl, nd_tup (s16 _ _ hd) ht6, rfl, L, g, es, _, _, _, _, rfl, fin L es H6 s6 (hg.same s6) hL hn (hk.same s16) (by omega) (fun _ h => h) hxL⟩
        · have ea : after L (y ++ [pd]) = L ++ [y ++ [pd]] := if_neg hxL
          rw [ea] at ht hg
          rw [ix_new hxL] at ht
          have edk : decide (y ++ [pd] ∈ es.map (·.1)) = false := by
            rw [hn.keys]
            exact decide_eq_false hxL
          have hL' := hL.grow hy hok hl16 hxL
          refine ⟨t, b, g, L, _, _, _, rfl, ht, hb.same s15, hg, hL, hL', .inr ⟨edk, _, rfl, rfl⟩, fun H6 s6 => ⟨_, rfl, iteF ?_⟩⟩
          have s16 := Same.trans s15 s6
          have ht6 := same_tup s6 ht
          refine ⟨_, rfl, _, rfl, d, c2, es, y ++ [pd], rfl, rfl, .inl (s16 _ _ hd), hk.same s16, hc25.same s6, _, rfl, ?_⟩
          rw [edk]
          refine iteF (iteF ?_)
          refine ⟨_, rfl, t, _, 1, _, rfl, rfl, ht6, rfl, _, rfl, _, rfl, d, c2, es, y ++ [pd], rfl, rfl, s16 _ _ hd, hk.same s16, hc25.same s6, by rw [hn.len]; exact small1000 (by omega), ?_⟩
          rw [put_new hn hxL]
          refine ⟨_, rfl, t, _, 0, _, rfl, rfl, nd_tup (s16 _ _ hd) ht6, rfl, _, g, _, _, _, _, _, rfl, fin _ _ H6 s6 (hg.same s6) hL' (nums_new hn (y ++ [pd]) c2) ?_ (by rw [List.length_append, List.length_singleton]; omega) (fun _ h => List.mem_append_left _ h) (List.mem_append_right _ (List.mem_singleton.mpr rfl))⟩
          intro x hx
          rcases List.mem_append.mp hx with h1 | h1
          · exact (hk.same s16) x h1
          · rw [List.mem_singleton.mp h1]
            exact hc25.same s6
      · rintro σ' H1 ⟨L, b, es, v5, v9, v10, v11, rfl, hb, hL, hd, hk, hn, hll, hdone, hst, hl1, hp⟩
        rw [List.length_map] at hll hdone
        refine ⟨L, b, es, v5, v9, v10, v11, rfl, hb, hL, hd, hk, hn, by omega, fun s hs => ?_, hst⟩
        by_cases h0 : s = []
        · rw [h0]
          exact hL.nil_mem
        · obtain ⟨j, hj, ej⟩ := List.getElem_of_mem hs
          have ej2 : ss[j]? = some s := by rw [List.getElem?_eq_getElem hj, ej]
          have h1 : 0 < s.length := List.length_pos_iff.mpr h0
          have h2 : (s.length - 1, j) ∈ ts := hcols.all (by rw [List.getD_eq_getElem?_getD, List.getElem?_map, ej2]; show s.length - 1 < s.length; omega)
          have h3 := hdone _ (by rw [List.take_of_length_le (by omega)]; exact h2) s ej2
          rw [show s.length - 1 + 1 = s.length by omega, List.take_length] at h3
          exact h3
    clear hss9 hT9 n0' hk0 hd0 hb0 s9 hss s8 b0 b
    rintro σ' H9 ⟨L, b, es, v5, v9, v10, v11, rfl, hb, hL, hd, hk, hn, hln, hall, hst⟩
    -- as many shapes as numbers, and the first is the empty one
    refine ⟨fun σ' H' => σ' = [some (.ref a), some (.ref p), some (.int way), some (.int (2 + m)), some (.ref l), v5, some (.ref e), some (.ref b), some (.ref d), v9, v10, v11, none] ∧ Same H9 H', ?_, ?_⟩
    · obtain ⟨xs, hx, lx⟩ := hb.seq
      refine ⟨_, rfl, b, xs, rfl, .inr hx, _, rfl, d, es, rfl, .inl hd, hk, rfl, _, rfl, ?_⟩
      show (if (!decide (V.int ((xs.length : Nat) : Int) = V.int ((es.length : Nat) : Int))) = true then _ else _)
      rw [lx, hn.len, decide_eq_true rfl]
      refine iteF ?_
      obtain ⟨ys, r0, hys, hy0, hr0⟩ := hb.item hL.zero
      refine ⟨_, rfl, b, ys, _, _, rfl, rfl, hys, at_of (j := 0) rfl hy0, Nat.zero_le _, fun t0 ht0 => ?_⟩
      refine ⟨.tuple [], .tuple [], .tup (same_tup (Same.upd ht0) hr0) .nil, .tup (SqT.of upd_same) .nil, unit_shaped, unit_shaped, _, rfl, ?_⟩
      rw [unit_eqv]
      exact iteF ⟨rfl, Same.upd ht0⟩
    rintro σ' H10 ⟨rfl, s10⟩
    replace hb := hb.same s10
    replace hd := s10 _ _ hd
    replace hk := hk.same s10
    replace hst := hst.sm s10
    clear s10
    -- every story in the numbers
    refine ⟨fun σ' H' => ∃ v10 v12 : Option V, σ' = [some (.ref a), some (.ref p), some (.int way), some (.int (2 + m)), some (.ref l), v5, some (.ref e), some (.ref b), some (.ref d), v9, v10, v11, v12] ∧
      ShapesAt K H' b L ∧ H' d = some (ND P w d es) ∧ KeysAt K H' es ∧ StoriesAt K H' e ss, ?_, ?_⟩
    · refine ⟨d, ND P w d es, hd, trivial, fun od => ?_⟩
      have lk : ∀ c vs, SqT K H10 c vs → SqT K (upd H10 d (.frz od (ND P w d es))) c vs := fun c vs r => lock_tup hd r
      have hbl := hb.mono lk
      have hkl := hk.mono lk
      obtain ⟨ae, hae, hpe⟩ := hst
      have hael : upd H10 d (.frz od (ND P w d es)) e = some (.lst (ae.map V.ref)) := by
        rw [upd_ne (ne_of hae hd fun z => nomatch z)]
        exact hae
      have hpel : Paired (StoryAt K (upd H10 d (.frz od (ND P w d es)))) ae ss := Paired.mono (fun c z r => r.mono lk) hpe
      have hdl : upd H10 d (.frz od (ND P w d es)) d = some (.frz od (ND P w d es)) := upd_same
      refine ⟨_, rfl, d, od, es, rfl, hdl, ?_⟩
      clear lk hae hpe hk hb hd
      generalize upd H10 d (.frz od (ND P w d es)) = H11 at *
      refine for_it walk_nd (fun i σ' H' => ∃ v10 v12 : Option V, σ' = [some (.ref a), some (.ref p), some (.int way), some (.int (2 + m)), some (.ref l), v5, some (.ref e), some (.ref b), some (.ref d), v9, v10, v11, v12] ∧ Same H11 H')
        ⟨v10, none, rfl, Same.refl _⟩ (fun i σ' H' _ ⟨_, _, _, s1⟩ => s1 _ _ hdl) ?_ ?_
      · rintro i x σ' H1 H2 hi ⟨v10, v12, rfl, s1⟩ ⟨rfl, en, hen, rfl⟩
        have hz1 : (es.map (·.1))[i]? = some en.1 := by rw [List.getElem?_map, hen]; rfl
        rw [hn.keys] at hz1
        have hzL : en.1 ∈ L := List.mem_of_getElem? hz1
        have hv := hn.vals i en hen
        rw [← ix_of hL.nodup hz1] at hv
        have hmem : en ∈ es := List.mem_of_getElem? hen
        obtain ⟨z, az, vz⟩ := en
        have hv' : vz = .int (L.idxOf z : Nat) := hv
        subst hv'
        have hzL' : z ∈ L := hzL
        have hokz := hL.ok z hzL'
        have hz16 := hL.len z hzL'
        have hd1 := s1 _ _ hdl
        have hb1 := hbl.same s1
        have hk1 := hkl.same s1
        have hz : StoryAt K H2 az z := hk1 _ hmem
        have hnd := hn.nodup hL
        refine ⟨_, rfl, _, rfl, d, az, es, z, az, _, rfl, rfl, .inr ⟨od, hd1⟩, hk1, hnd, hz, hmem, ?_⟩
        refine ⟨_, rfl, Nat.zero_le _, fun t0 ht0 => ?_⟩
        have s0 : Same H2 (upd H2 t0 (.tup [])) := Same.upd ht0
        refine ⟨sD z, .tuple [], (hz.same s0).dp, .tup (SqT.of upd_same) .nil, sD_shaped hokz, unit_shaped, _, rfl, ?_⟩
        by_cases hz0 : z = []
        · have e0 : PyData.eqv (sD z) (.tuple []) = true := by
            rw [hz0]
            exact unit_eqv
          rw [e0]
          refine iteF (iteF ?_)
          refine ⟨_, rfl, _, rfl, b, L, z, rfl, hb1.same (s0), hL, hzL', fun c4 H4 s4 hc4 => ⟨_, rfl, sD z, sD z, hc4.dp, (hz.same (Same.trans (s0) s4)).dp, sD_shaped hokz, sD_shaped hokz, _, rfl, ?_⟩⟩
          rw [sD_self hokz]
          refine iteF ?_
          refine ⟨_, rfl, _, rfl, b, L, z, rfl, hb1.same (Same.trans (s0) s4), hL, hzL', fun p5 H5 s5 _ hp5 => ⟨_, rfl, az, z, rfl, hz.same (Same.trans (s0) (Same.trans s4 s5)), by omega, fun p6 H6 s6 _ hp6 => ?_⟩⟩
          refine ⟨p5, p6, _, rfl, SqT.of (s6 _ _ hp5), SqT.of hp6, fun x hx => ?_, by rw [List.length_map]; have := lf_len z; omega, fun H7 s7 => ⟨_, rfl, iteF ?_⟩⟩
          · obtain ⟨q, _, rfl⟩ := List.mem_map.mp hx
            exact .inr ⟨q, rfl⟩
          · exact ⟨_, _, rfl, Same.trans s1 (Same.trans (s0) (Same.trans s4 (Same.trans s5 (Same.trans s6 s7))))⟩
        · rw [sD_nil hz0]
          refine iteT ?_
          obtain ⟨y, pd, ez, ey⟩ := snoc_of hz0
          have hyL : y ∈ L := by
            rw [← ey]
            exact hL.par_mem hzL'
          obtain ⟨ys, r0, hys, hyr, hr0⟩ := (hb1.same s0).item (ix_get hzL')
          refine ⟨_, rfl, _, rfl, b, ys, _, _, rfl, rfl, hys, at_of (j := L.idxOf z) rfl hyr, ?_⟩
          obtain ⟨ay, hay⟩ := hn.mem hyL
          refine ⟨_, rfl, _, rfl, 1, rfl, _, rfl, (hz.same s0).cutLast fun c3 H3 s3 hc3 => ?_⟩
          rw [ey] at hc3
          have s03 := Same.trans s0 s3
          refine ⟨d, c3, es, y, ay, _, rfl, rfl, .inr ⟨od, s03 _ _ hd1⟩, hk1.same s03, hnd, hc3, hay, line1000 (show 1 ≤ 1000 by decide), fun tp htp => ?_⟩
          have s4 := Same.upd (o := .tup [V.int (L.idxOf y : Nat)]) htp
          have s04 := Same.trans s03 s4
          have hzl : z[z.length - 1]? = some pd := by
            rw [ez]
            simp
          obtain ⟨ap, hap, hpp⟩ := hz.same s04
          obtain ⟨pa, epa, hpa⟩ := pr_at hpp hzl
          have lap := Paired.length hpp
          have hend : atI (ap.map V.ref) (-1) = some (.ref pa) := atI_end (by rw [List.length_map, lap, List.getElem?_map, epa]; rfl)
          refine ⟨_, rfl, 1, rfl, az, _, -1, _, rfl, rfl, hap, hend, ?_⟩
          refine ⟨tp, pa, _, _, rfl, rfl, SqT.of upd_same, hpa, line1000 (show 3 ≤ 1000 by decide), fun z => (nomatch z), fun _ z => (nomatch z), fun _ _ g hg => ?_⟩
          have s5 := Same.upd (o := .tup ([V.int (L.idxOf y : Nat)] ++ [.str pd.1, .str pd.2])) hg
          have s05 := Same.trans s04 s5
          rw [ez, rowV_snoc] at hr0
          refine ⟨r0, g, _, rfl, same_tup (Same.trans s3 (Same.trans s4 s5)) hr0, SqT.of upd_same, ?_, show 3 ≤ 100 by decide, fun H6 s6 => ⟨_, rfl, iteF ?_⟩⟩
          · intro x hx
            rcases List.mem_cons.mp hx with rfl | hx
            · exact .inl ⟨_, rfl⟩
            · rcases List.mem_cons.mp hx with rfl | hx
              · exact .inr ⟨_, rfl⟩
              · rw [List.mem_singleton.mp hx]
                exact .inr ⟨_, rfl⟩
          have s06 := Same.trans s05 s6
          refine ⟨_, rfl, _, rfl, b, L, z, rfl, hb1.same s06, hL, hzL', fun c4 H4 s4 hc4 => ⟨_, rfl, sD z, sD z, hc4.dp, (hz.same (Same.trans s06 s4)).dp, sD_shaped hokz, sD_shaped hokz, _, rfl, ?_⟩⟩
          rw [sD_self hokz]
          refine iteF ?_
          refine ⟨_, rfl, _, rfl, b, L, z, rfl, hb1.same (Same.trans s06 s4), hL, hzL', fun p5 H5 s5 _ hp5 => ⟨_, rfl, az, z, rfl, hz.same (Same.trans s06 (Same.trans s4 s5)), by omega, fun p6 H6 s6 _ hp6 => ?_⟩⟩
          refine ⟨p5, p6, _, rfl, SqT.of (s6 _ _ hp5), SqT.of hp6, fun x hx => ?_, by rw [List.length_map]; have := lf_len z; omega, fun H7 s7 => ⟨_, rfl, iteF ?_⟩⟩
          · obtain ⟨q, _, rfl⟩ := List.mem_map.mp hx
            exact .inr ⟨q, rfl⟩
          · exact ⟨_, _, rfl, Same.trans s1 (Same.trans s06 (Same.trans s4 (Same.trans s5 (Same.trans s6 s7))))⟩
      · rintro σ' H1 ⟨v10, v12, rfl, s1⟩
        have hd1 := s1 _ _ hdl
        have un : ∀ c vs, SqT K H11 c vs → SqT K (upd H1 d (ND P w d es)) c vs := fun c vs r => unlock_tup hd1 (same_tup s1 r)
        refine ⟨hd1, v10, v12, rfl, hbl.mono un, upd_same, hkl.mono un, ae, ?_, Paired.mono (fun c z r => r.mono un) hpel⟩
        rw [upd_ne (ne_of (s1 _ _ hael) hd1 fun z => nomatch z)]
        exact s1 _ _ hael
    clear hst hk hd hb
    rintro σ' H11 ⟨v10, v12, rfl, hb, hd, hk, hst⟩
    -- every story once more
    obtain ⟨as, hes, hps⟩ := hst
    have las := Paired.length hps
    refine ⟨_, rfl, e, rfl, ⟨_, SqL.of hes⟩, fun Dd hD => ?_⟩
    refine lc_it (walk_list (xs := as.map V.ref)) (fun i H' => Same H11 H' ∧ H' Dd = some (.lst ((List.replicate i true).map V.bl))) ⟨Same.upd hD, upd_same⟩ (fun i H' _ q => SqL.of (q.1 _ _ hes)) ?_ ?_
    · rintro i x H1 H2 hi ⟨s1, hd1⟩ ⟨rfl, hx⟩
      rw [List.length_map] at hi
      have his : i < ss.length := by omega
      obtain ⟨s, es1, hsa⟩ := pr_at2 hps (List.getElem?_eq_getElem hi)
      have hxr : x = .ref as[i] := by
        rw [List.getElem?_map, List.getElem?_eq_getElem hi] at hx
        exact (Option.some.inj hx).symm
      subst hxr
      refine ⟨rfl, _, rfl, _, rfl, _, rfl, b, as[i], d, L, s, es, rfl, hb.same s1, hL, hsa.same s1, hall _ (List.mem_of_getElem? es1), .inl (s1 _ _ hd), hk.same s1, hn, by omega, fun H3 s3 => ?_⟩
      refine ⟨_, s3 _ _ hd1, ?_, ?_, ?_⟩
      · rw [List.length_map, List.length_replicate]
        exact small1000 (by omega)
      · intro c o ec
        rw [upd_ne (ne_of_none ec hD)]
        exact s3 _ _ (s1 _ _ ec)
      · rw [upd_same, List.replicate_succ', List.map_append]
        rfl
    · rintro H1 ⟨s1, hd1⟩
      refine ⟨Dd, _, rfl, SqL.of hd1, ?_⟩
      have ea : (List.replicate (as.map V.ref).length true).all id = true := by
        rw [List.all_eq_true]
        intro x hx
        rw [List.eq_of_mem_replicate hx]
        rfl
      rw [ea]
      exact q H1

end
end Wr

namespace Wr
open PySem L2
theorem def_mk {K : PySem.W.Frag} {h : Heap} {mg : Str → Option Value} {x : Str} {st : Stmt} {ps : List Str} {f : Addr} {od an : Option Addr} {sl : Array (Option Value)} {oc kV dc pm cd ct : Value} (X : K.In h) (G : h.Ns mainGlobals mg)
    (a : PySem.W.nsIn K mainGlobals x = some (some (.ref f))) (l : K.lookup f = some ⟨oc, od, .func (PySem.W.fnOf x x (defArgs st) (defBody st) (defScope st) .none kV dc pm an cd ct), sl⟩) (c : PySem.W.codeIn K cd x = true) (k : PySem.W.keepIn K (.ref f) = true)
    (b : ∀ (kV doc pm : Value) (an : Option Addr) (cdv ct : Value) (us : List Value), us.length = ps.length → bindArgs (PySem.W.fnOf x x (defArgs st) (defBody st) (defScope st) .none kV doc pm an cdv ct) ⟨us, []⟩ = pure (ps.zip us)) : DefAt K mg x st ps :=
  ⟨f, _, fun_mk l c k, PySem.W.mg_of X G a, (fun_mk l c k).binds b⟩
theorem def_mkC {K : PySem.W.Frag} {h : Heap} {mg : Str → Option Value} {x : Str} {st : Stmt} {ps : List Str} {f c0 : Addr} {od an : Option Addr} {sl : Array (Option Value)} {oc kV dc pm ct : Value} (X : K.In h) (G : h.Ns mainGlobals mg)
    (a : PySem.W.nsIn K mainGlobals x = some (some (.ref f))) (l : K.lookup f = some ⟨oc, od, .func (PySem.W.fnOf x x (defArgs st) (defBody st) (defScope st) .none kV dc pm an (.ref c0) ct), sl⟩) (c : PySem.W.codeIn K (.ref c0) x = true) (k : PySem.W.keepIn K (.ref f) = true)
    (b : ∀ (kV doc pm : Value) (an : Option Addr) (cdv ct : Value) (us : List Value), us.length = ps.length → bindArgs (PySem.W.fnOf x x (defArgs st) (defBody st) (defScope st) .none kV doc pm an cdv ct) ⟨us, []⟩ = pure (ps.zip us)) : DefAtC K mg x st ps c0 :=
  ⟨f, _, ⟨oc, od, kV, dc, pm, an, ct, sl, rfl, l, c⟩, k, PySem.W.mg_of X G a, (fun_mk l c k).binds b⟩

theorem all_mk {l : PySem.W.OpenLaw} {w : World} {K : PySem.W.Frag} {h : Heap} {mg : Str → Option Value} {fa pt c0 f1 f2 f3 f4 f5 f6 f7 f8 f9 f10 f11 f12 f13 f14 f15 f16 f17 f18 : Addr} (X : K.In h) (G : h.Ns mainGlobals mg) (hfa : mg "law" = some (.ref fa))
    {od1 an1 od2 an2 od3 an3 od4 an4 od5 an5 od6 an6 od7 an7 od8 an8 od9 an9 od10 an10 od11 an11 od12 an12 od13 an13 od14 an14 od15 an15 od16 an16 od17 an17 od18 an18 : Option Addr} {sl1 sl2 sl3 sl4 sl5 sl6 sl7 sl8 sl9 sl10 sl11 sl12 sl13 sl14 sl15 sl16 sl17 sl18 : Array (Option Value)} {oc1 kV1 dc1 pm1 cd1 ct1 oc2 kV2 dc2 pm2 cd2 ct2 oc3 kV3 dc3 pm3 cd3 ct3 oc4 kV4 dc4 pm4 cd4 ct4 oc5 kV5 dc5 pm5 cd5 ct5 oc6 kV6 dc6 pm6 cd6 ct6 oc7 kV7 dc7 pm7 cd7 ct7 oc8 kV8 dc8 pm8 cd8 ct8 oc9 kV9 dc9 pm9 cd9 ct9 oc10 kV10 dc10 pm10 cd10 ct10 oc11 kV11 dc11 pm11 cd11 ct11 oc12 kV12 dc12 pm12 cd12 ct12 oc13 kV13 dc13 pm13 cd13 ct13 oc14 kV14 dc14 pm14 ct14 oc15 kV15 dc15 pm15 cd15 ct15 oc16 kV16 dc16 pm16 cd16 ct16 oc17 kV17 dc17 pm17 cd17 ct17 oc18 kV18 dc18 pm18 cd18 ct18 : Value}
    (a1 : PySem.W.nsIn K mainGlobals "is_shape" = some (some (.ref f1))) (l1 : K.lookup f1 = some ⟨oc1, od1, .func (PySem.W.fnOf "is_shape" "is_shape" (defArgs sIs) (defBody sIs) (defScope sIs) .none kV1 dc1 pm1 an1 cd1 ct1), sl1⟩) (c1 : PySem.W.codeIn K cd1 "is_shape" = true) (k1 : PySem.W.keepIn K (.ref f1) = true)
    (a2 : PySem.W.nsIn K mainGlobals "fields_at" = some (some (.ref f2))) (l2 : K.lookup f2 = some ⟨oc2, od2, .func (PySem.W.fnOf "fields_at" "fields_at" (defArgs sFa) (defBody sFa) (defScope sFa) .none kV2 dc2 pm2 an2 cd2 ct2), sl2⟩) (c2 : PySem.W.codeIn K cd2 "fields_at" = true) (k2 : PySem.W.keepIn K (.ref f2) = true)
    (a3 : PySem.W.nsIn K mainGlobals "child_of" = some (some (.ref f3))) (l3 : K.lookup f3 = some ⟨oc3, od3, .func (PySem.W.fnOf "child_of" "child_of" (defArgs sCh) (defBody sCh) (defScope sCh) .none kV3 dc3 pm3 an3 cd3 ct3), sl3⟩) (c3 : PySem.W.codeIn K cd3 "child_of" = true) (k3 : PySem.W.keepIn K (.ref f3) = true)
    (a4 : PySem.W.nsIn K mainGlobals "shape_by" = some (some (.ref f4))) (l4 : K.lookup f4 = some ⟨oc4, od4, .func (PySem.W.fnOf "shape_by" "shape_by" (defArgs sSb) (defBody sSb) (defScope sSb) .none kV4 dc4 pm4 an4 cd4 ct4), sl4⟩) (c4 : PySem.W.codeIn K cd4 "shape_by" = true) (k4 : PySem.W.keepIn K (.ref f4) = true)
    (a5 : PySem.W.nsIn K mainGlobals "_law_cell" = some (some (.ref f5))) (l5 : K.lookup f5 = some ⟨oc5, od5, .func (PySem.W.fnOf "_law_cell" "_law_cell" (defArgs sCell) (defBody sCell) (defScope sCell) .none kV5 dc5 pm5 an5 cd5 ct5), sl5⟩) (c5 : PySem.W.codeIn K cd5 "_law_cell" = true) (k5 : PySem.W.keepIn K (.ref f5) = true)
    (a6 : PySem.W.nsIn K mainGlobals "_law_purse" = some (some (.ref f6))) (l6 : K.lookup f6 = some ⟨oc6, od6, .func (PySem.W.fnOf "_law_purse" "_law_purse" (defArgs sPurse) (defBody sPurse) (defScope sPurse) .none kV6 dc6 pm6 an6 cd6 ct6), sl6⟩) (c6 : PySem.W.codeIn K cd6 "_law_purse" = true) (k6 : PySem.W.keepIn K (.ref f6) = true)
    (a7 : PySem.W.nsIn K mainGlobals "_law_take" = some (some (.ref f7))) (l7 : K.lookup f7 = some ⟨oc7, od7, .func (PySem.W.fnOf "_law_take" "_law_take" (defArgs sTake) (defBody sTake) (defScope sTake) .none kV7 dc7 pm7 an7 cd7 ct7), sl7⟩) (c7 : PySem.W.codeIn K cd7 "_law_take" = true) (k7 : PySem.W.keepIn K (.ref f7) = true)
    (a8 : PySem.W.nsIn K mainGlobals "_law_word" = some (some (.ref f8))) (l8 : K.lookup f8 = some ⟨oc8, od8, .func (PySem.W.fnOf "_law_word" "_law_word" (defArgs sWord) (defBody sWord) (defScope sWord) .none kV8 dc8 pm8 an8 cd8 ct8), sl8⟩) (c8 : PySem.W.codeIn K cd8 "_law_word" = true) (k8 : PySem.W.keepIn K (.ref f8) = true)
    (a9 : PySem.W.nsIn K mainGlobals "_law_words" = some (some (.ref f9))) (l9 : K.lookup f9 = some ⟨oc9, od9, .func (PySem.W.fnOf "_law_words" "_law_words" (defArgs sWords) (defBody sWords) (defScope sWords) .none kV9 dc9 pm9 an9 cd9 ct9), sl9⟩) (c9 : PySem.W.codeIn K cd9 "_law_words" = true) (k9 : PySem.W.keepIn K (.ref f9) = true)
    (a10 : PySem.W.nsIn K mainGlobals "_law_is_whole" = some (some (.ref f10))) (l10 : K.lookup f10 = some ⟨oc10, od10, .func (PySem.W.fnOf "_law_is_whole" "_law_is_whole" (defArgs sWhole) (defBody sWhole) (defScope sWhole) .none kV10 dc10 pm10 an10 cd10 ct10), sl10⟩) (c10 : PySem.W.codeIn K cd10 "_law_is_whole" = true) (k10 : PySem.W.keepIn K (.ref f10) = true)
    (a11 : PySem.W.nsIn K mainGlobals "_law_same" = some (some (.ref f11))) (l11 : K.lookup f11 = some ⟨oc11, od11, .func (PySem.W.fnOf "_law_same" "_law_same" (defArgs sSame) (defBody sSame) (defScope sSame) .none kV11 dc11 pm11 an11 cd11 ct11), sl11⟩) (c11 : PySem.W.codeIn K cd11 "_law_same" = true) (k11 : PySem.W.keepIn K (.ref f11) = true)
    (a12 : PySem.W.nsIn K mainGlobals "_law_fields" = some (some (.ref f12))) (l12 : K.lookup f12 = some ⟨oc12, od12, .func (PySem.W.fnOf "_law_fields" "_law_fields" (defArgs sFld) (defBody sFld) (defScope sFld) .none kV12 dc12 pm12 an12 cd12 ct12), sl12⟩) (c12 : PySem.W.codeIn K cd12 "_law_fields" = true) (k12 : PySem.W.keepIn K (.ref f12) = true)
    (a13 : PySem.W.nsIn K mainGlobals "_law_story" = some (some (.ref f13))) (l13 : K.lookup f13 = some ⟨oc13, od13, .func (PySem.W.fnOf "_law_story" "_law_story" (defArgs sStory) (defBody sStory) (defScope sStory) .none kV13 dc13 pm13 an13 cd13 ct13), sl13⟩) (c13 : PySem.W.codeIn K cd13 "_law_story" = true) (k13 : PySem.W.keepIn K (.ref f13) = true)
    (a14 : PySem.W.nsIn K mainGlobals "_law_turns" = some (some (.ref f14))) (l14 : K.lookup f14 = some ⟨oc14, od14, .func (PySem.W.fnOf "_law_turns" "_law_turns" (defArgs sTurns) (defBody sTurns) (defScope sTurns) .none kV14 dc14 pm14 an14 (.ref c0) ct14), sl14⟩) (c14 : PySem.W.codeIn K (.ref c0) "_law_turns" = true) (k14 : PySem.W.keepIn K (.ref f14) = true)
    (a15 : PySem.W.nsIn K mainGlobals "_law_number" = some (some (.ref f15))) (l15 : K.lookup f15 = some ⟨oc15, od15, .func (PySem.W.fnOf "_law_number" "_law_number" (defArgs sNum) (defBody sNum) (defScope sNum) .none kV15 dc15 pm15 an15 cd15 ct15), sl15⟩) (c15 : PySem.W.codeIn K cd15 "_law_number" = true) (k15 : PySem.W.keepIn K (.ref f15) = true)
    (a16 : PySem.W.nsIn K mainGlobals "_law_walked" = some (some (.ref f16))) (l16 : K.lookup f16 = some ⟨oc16, od16, .func (PySem.W.fnOf "_law_walked" "_law_walked" (defArgs sWalk) (defBody sWalk) (defScope sWalk) .none kV16 dc16 pm16 an16 cd16 ct16), sl16⟩) (c16 : PySem.W.codeIn K cd16 "_law_walked" = true) (k16 : PySem.W.keepIn K (.ref f16) = true)
    (a17 : PySem.W.nsIn K mainGlobals "_law_again" = some (some (.ref f17))) (l17 : K.lookup f17 = some ⟨oc17, od17, .func (PySem.W.fnOf "_law_again" "_law_again" (defArgs sAgain) (defBody sAgain) (defScope sAgain) .none kV17 dc17 pm17 an17 cd17 ct17), sl17⟩) (c17 : PySem.W.codeIn K cd17 "_law_again" = true) (k17 : PySem.W.keepIn K (.ref f17) = true)
    (a18 : PySem.W.nsIn K mainGlobals "law" = some (some (.ref f18))) (l18 : K.lookup f18 = some ⟨oc18, od18, .func (PySem.W.fnOf "law" "law" (defArgs sLaw) (defBody sLaw) (defScope sLaw) .none kV18 dc18 pm18 an18 cd18 ct18), sl18⟩) (c18 : PySem.W.codeIn K cd18 "law" = true) (k18 : PySem.W.keepIn K (.ref f18) = true)
    (z1 : PySem.W.nsIn K mainGlobals "len" = some none)
    (z2 : PySem.W.nsIn K mainGlobals "isinstance" = some none)
    (z3 : PySem.W.nsIn K mainGlobals "int" = some none)
    (z4 : PySem.W.nsIn K mainGlobals "bool" = some none)
    (z5 : PySem.W.nsIn K mainGlobals "tuple" = some none)
    (z6 : PySem.W.nsIn K mainGlobals "enumerate" = some none)
    (z7 : PySem.W.nsIn K mainGlobals "abs" = some none)
    (z8 : PySem.W.nsIn K mainGlobals "range" = some none)
    (z9 : PySem.W.nsIn K mainGlobals "zip" = some none)
    (z10 : PySem.W.nsIn K mainGlobals "all" = some none)
    (z11 : PySem.W.nsIn K mainGlobals "sorted" = some none)
    (hh : PySem.W.codeHdIn K c0 pt = true) (hn : K.lookup pt = none) (ht : h.get? pt = some { cls := .none, data := .fields #[] }) :
    LamX.LawAtS l w K CX0 6 63 "_law_script" mg fa h := by
  have e := hfa.symm.trans (PySem.W.mg_of X G a18)
  cases e
  have d1 := def_mk (ps := ["shapes", "number"]) X G a1 l1 c1 k1 (fun _ _ _ _ _ _ us hl => match us, hl with | [_, _], _ => rfl)
  have d2 := def_mk (ps := ["shapes", "number"]) X G a2 l2 c2 k2 (fun _ _ _ _ _ _ us hl => match us, hl with | [_, _], _ => rfl)
  have d3 := def_mk (ps := ["shapes", "number", "deed", "field"]) X G a3 l3 c3 k3 (fun _ _ _ _ _ _ us hl => match us, hl with | [_, _, _, _], _ => rfl)
  have d4 := def_mk (ps := ["shapes", "number", "deed", "field"]) X G a4 l4 c4 k4 (fun _ _ _ _ _ _ us hl => match us, hl with | [_, _, _, _], _ => rfl)
  have d5 := def_mk (ps := ["_law_script", "_law_k"]) X G a5 l5 c5 k5 (fun _ _ _ _ _ _ us hl => match us, hl with | [_, _], _ => rfl)
  have d6 := def_mk (ps := ["_law_cell_here"]) X G a6 l6 c6 k6 (fun _ _ _ _ _ _ us hl => match us, hl with | [_], _ => rfl)
  have d7 := def_mk (ps := ["_law_purse_here", "_law_many"]) X G a7 l7 c7 k7 (fun _ _ _ _ _ _ us hl => match us, hl with | [_, _], _ => rfl)
  have d8 := def_mk (ps := ["_law_purse_here", "_law_used"]) X G a8 l8 c8 k8 (fun _ _ _ _ _ _ us hl => match us, hl with | [_, _], _ => rfl)
  have d9 := def_mk (ps := ["_law_purse_here", "_law_many", "_law_used"]) X G a9 l9 c9 k9 (fun _ _ _ _ _ _ us hl => match us, hl with | [_, _, _], _ => rfl)
  have d10 := def_mk (ps := ["_law_thing"]) X G a10 l10 c10 k10 (fun _ _ _ _ _ _ us hl => match us, hl with | [_], _ => rfl)
  have d11 := def_mk (ps := ["_law_one", "_law_other"]) X G a11 l11 c11 k11 (fun _ _ _ _ _ _ us hl => match us, hl with | [_, _], _ => rfl)
  have d12 := def_mk (ps := ["_law_story_here"]) X G a12 l12 c12 k12 (fun _ _ _ _ _ _ us hl => match us, hl with | [_], _ => rfl)
  have d13 := def_mk (ps := ["_law_purse_here", "_law_names", "_law_elders"]) X G a13 l13 c13 k13 (fun _ _ _ _ _ _ us hl => match us, hl with | [_, _, _], _ => rfl)
  have d14 := def_mkC (ps := ["_law_way", "_law_stories"]) X G a14 l14 c14 k14 (fun _ _ _ _ _ _ us hl => match us, hl with | [_, _], _ => rfl)
  have d15 := def_mk (ps := ["_law_told", "_law_shapes", "_law_known"]) X G a15 l15 c15 k15 (fun _ _ _ _ _ _ us hl => match us, hl with | [_, _, _], _ => rfl)
  have d16 := def_mk (ps := ["_law_shapes", "_law_number_here"]) X G a16 l16 c16 k16 (fun _ _ _ _ _ _ us hl => match us, hl with | [_, _], _ => rfl)
  have d17 := def_mk (ps := ["_law_shapes", "_law_story_here", "_law_numbers"]) X G a17 l17 c17 k17 (fun _ _ _ _ _ _ us hl => match us, hl with | [_, _, _], _ => rfl)
  have F := fun_mk (st := sLaw) l18 c18 k18
  have B : Bl mg := ⟨PySem.W.mg_none_of X G z1, PySem.W.mg_none_of X G z2, PySem.W.mg_none_of X G z3, PySem.W.mg_none_of X G z4, PySem.W.mg_none_of X G z5, PySem.W.mg_none_of X G z6, PySem.W.mg_none_of X G z7, PySem.W.mg_none_of X G z8, PySem.W.mg_none_of X G z9, PySem.W.mg_none_of X G z10, PySem.W.mg_none_of X G z11⟩
  refine ⟨PySem.W.fnOf "law" "law" (defArgs sLaw) (defBody sLaw) (defScope sLaw) .none kV18 dc18 pm18 an18 cd18 ct18, [(c0, pt)], spLaw K pt, fun p hp => ?_, fun p hp => ?_, fun p hp => ?_, fun s u => .of_eq rfl, fun H a ns _ _ hH hS => ⟨a, ns, rfl, hS, hH (c0, pt) (List.mem_singleton.mpr rfl), fun _ => rfl⟩, fun base _ _ TB => ?_⟩
  · rw [List.mem_singleton.mp hp]
    exact ht
  · rw [List.mem_singleton.mp hp]
    exact hn
  · rw [List.mem_singleton.mp hp]
    exact PySem.W.codeHd_of_K X hh
  · have TB1 : LamX.TabB base mg c0 pt := TB (c0, pt) (List.mem_singleton.mpr rfl)
    have hIs := has_is (P := l.prog) (w := w) (base := base) B d1
    have hWhole := has_whole (P := l.prog) (w := w) (base := base) B d10
    have hTake := has_take (P := l.prog) (w := w) (base := base) d7
    have hCell := has_cell (P := l.prog) (w := w) (base := base) B d5
    have hPurse := has_purse (P := l.prog) (w := w) (base := base) B d6
    have hWord := has_word (P := l.prog) (w := w) (base := base) B hTake d8
    have hWords := has_words (P := l.prog) (w := w) (base := base) B hWord d9
    have hFld := has_fld (P := l.prog) (w := w) (base := base) B d12
    have hStory := has_story (P := l.prog) (w := w) (base := base) B hTake hFld d13
    have hSame0 := has_same0 (P := l.prog) (w := w) (base := base) B d11
    have hSame := has_same (P := l.prog) (w := w) (base := base) B hSame0 d11
    have hNum := has_num (P := l.prog) (w := w) (base := base) B hWhole d15
    have hWalk := has_walk (P := l.prog) (w := w) (base := base) B d16
    have hFa := has_fa (P := l.prog) (w := w) (base := base) B hIs d2
    have hCh := has_ch (P := l.prog) (w := w) (base := base) B d3
    have hSb := has_sb (P := l.prog) (w := w) (base := base) B hFa hCh d4
    have hAgain := has_again (P := l.prog) (w := w) (base := base) B hSb hNum d17
    have hTurns := has_turns (P := l.prog) (w := w) B TB1 d14
    exact law_ok B ⟨hCell, hPurse, hTake, hWords, hStory, hTurns, hSb, hNum, hAgain, hSame, hWalk, hFa, hFld⟩ F
theorem walk {l : PySem.W.OpenLaw} {q : Program} {loose : List Str} {XP : (Str → Option Value) → Heap → Prop} {YP : World → Heap → Prop} {d : DefRec} {K : Params → PySem.W.Frag} (hn : l.most = some 63) (hdf : d.params.defaults = []) (hY : ∀ (w : World) (h : Heap), YP w h → (K w.params).In h)
    (F : ∀ (w : World) (mg : Str → Option Value) (fa : Addr) (h : Heap), YP w h → (K w.params).In h → h.Ns mainGlobals mg → mg d.name = some (.ref fa) → LamX.LawAtS l w (K w.params) CX0 6 63 "_law_script" mg fa h) :
    PySem.W.WalkO q loose XP YP l.row.toRowW d [] (fun f vs => PySem.call f vs) :=
  LamX.walk_ofTs (n := 63) (k := 6) (x := "_law_script") (CX := fun _ => CX0) hn (by decide) hdf ⟨rfl, by decide, by decide⟩ hY F fun _ _ _ _ _ z => z
end Wr

open PySem PySem.W PyProof.Rows
set_option maxRecDepth 100000 in
set_option maxHeartbeats 0 in
theorem PySem.Challenge.cw_warmrows_k21_whole_stories_and_shapes_holds : PySem.Challenge.rw_warmrows_k21_whole_stories_and_shapes.Holds := by
  w_on; o_law; k_head; (case hw => w_witness2)
  k_fill
  refine Wr.walk (l := PySem.Challenge.rw_warmrows_k21_whole_stories_and_shapes) rfl rfl (fun w h Y => PySem.W.km_in_of Y) ?F
  case F =>
    intro w mg fa h Y KX G hmg
    refine' Wr.all_mk (pt := 138) KX G hmg ?a1 ?l1 ?c1 ?k1 ?a2 ?l2 ?c2 ?k2 ?a3 ?l3 ?c3 ?k3 ?a4 ?l4 ?c4 ?k4 ?a5 ?l5 ?c5 ?k5 ?a6 ?l6 ?c6 ?k6 ?a7 ?l7 ?c7 ?k7 ?a8 ?l8 ?c8 ?k8 ?a9 ?l9 ?c9 ?k9 ?a10 ?l10 ?c10 ?k10 ?a11 ?l11 ?c11 ?k11 ?a12 ?l12 ?c12 ?k12 ?a13 ?l13 ?c13 ?k13 ?a14 ?l14 ?c14 ?k14 ?a15 ?l15 ?c15 ?k15 ?a16 ?l16 ?c16 ?k16 ?a17 ?l17 ?c17 ?k17 ?a18 ?l18 ?c18 ?k18 ?z1 ?z2 ?z3 ?z4 ?z5 ?z6 ?z7 ?z8 ?z9 ?z10 ?z11 ?hh ?hn ?ht
    (case a1 => k_is); (case l1 => k_is); (case c1 => k_is); (case k1 => k_is)
    (case a2 => k_is); (case l2 => k_is); (case c2 => k_is); (case k2 => k_is)
    (case a3 => k_is); (case l3 => k_is); (case c3 => k_is); (case k3 => k_is)
    (case a4 => k_is); (case l4 => k_is); (case c4 => k_is); (case k4 => k_is)
    (case a5 => k_is); (case l5 => k_is); (case c5 => k_is); (case k5 => k_is)
    (case a6 => k_is); (case l6 => k_is); (case c6 => k_is); (case k6 => k_is)
    (case a7 => k_is); (case l7 => k_is); (case c7 => k_is); (case k7 => k_is)
    (case a8 => k_is); (case l8 => k_is); (case c8 => k_is); (case k8 => k_is)
    (case a9 => k_is); (case l9 => k_is); (case c9 => k_is); (case k9 => k_is)
    (case a10 => k_is); (case l10 => k_is); (case c10 => k_is); (case k10 => k_is)
    (case a11 => k_is); (case l11 => k_is); (case c11 => k_is); (case k11 => k_is)
    (case a12 => k_is); (case l12 => k_is); (case c12 => k_is); (case k12 => k_is)
    (case a13 => k_is); (case l13 => k_is); (case c13 => k_is); (case k13 => k_is)
    (case a14 => k_is); (case l14 => k_is); (case c14 => k_is); (case k14 => k_is)
    (case a15 => k_is); (case l15 => k_is); (case c15 => k_is); (case k15 => k_is)
    (case a16 => k_is); (case l16 => k_is); (case c16 => k_is); (case k16 => k_is)
    (case a17 => k_is); (case l17 => k_is); (case c17 => k_is); (case k17 => k_is)
    (case a18 => k_is); (case l18 => k_is); (case c18 => k_is); (case k18 => k_is)
    (case z1 => k_is); (case z2 => k_is); (case z3 => k_is); (case z4 => k_is); (case z5 => k_is); (case z6 => k_is); (case z7 => k_is); (case z8 => k_is); (case z9 => k_is); (case z10 => k_is); (case z11 => k_is)
    (case hh => kernel_rfl); (case hn => kernel_rfl)
    (case ht => exact PySem.W.km_tabs_of Y 138 (List.mem_singleton.mpr rfl))
