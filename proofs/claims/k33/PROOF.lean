import PyProof.Rows.All
import Wide.All
import OpenK.AllK
import Wide.FinOn
import HandS.ForMost
import KE.LtData
import KE.SortData
import KE.KeyNested
import PyProof.Lay0
import PyProof.P3Statements
import HandS.Walk
import KE.KDictKeyed
import HandS.DictComp
import HandS.SortOrd
import HandS.DictTup
import HandS.ListItems
import PyProof.Rows.SortKeyStr
import HandS.Set
import HandS.SetFor
import HandS.SetTxt0
import HandS.Conv
import HandS.Keys
import HandS.SortKw
import KE.SortKeyHeap
import KE.KDictSum
import KE.KSortKey
import KE.KDictPairs
import HandS.IsInst
import HandS.AnyAll
import HandS.TupAny
import HandS.Style
import HandS.Flow
import HandS.SetKeys
import KE.KRevSl
import PySem.Challenge.RW_variantnest_k33_whole_normal_does_the_sa
set_option Elab.async false
set_option linter.all false
set_option maxRecDepth 100000
set_option maxHeartbeats 4000000
/-! Variantnest k33, the plain law: trees, tables, what a table makes of a tree, what the normal table keeps. No program here. -/
namespace VN
open PySem

abbrev Path := List Str
inductive PVal where
  | int (i : Int)
  | nm (x : Str)
  | link (p : Path)
inductive Kids where
  | nil
  | cons (n : Str) (ps : List (Str × PVal)) (sub rest : Kids)
structure Tree where
  ps : List (Str × PVal)
  ks : Kids

def dPath (p : Path) : PyData := .tuple (p.map .str)
def dVal : PVal → PyData
  | .int i => .int i
  | .nm x => .str x
  | .link p => .tuple [.str "link", dPath p]
/-- a name and what stands under it -/
abbrev NP := Str × PyData
def dPair (x : NP) : PyData := .tuple [.str x.1, x.2]
def vPs (ps : List (Str × PVal)) : List NP := ps.map fun p => (p.1, dVal p.2)
def dNode (ps ks : List NP) : PyData := .tuple [.tuple (ps.map dPair), .tuple (ks.map dPair)]
def kNP : Kids → List NP
  | .nil => []
  | .cons n ps sub rest => (n, dNode (vPs ps) (kNP sub)) :: kNP rest
def dTree (t : Tree) : PyData := dNode (vPs t.ps) (kNP t.ks)

inductive Ent where
  | drop (p : Path) (n : Str)
  | hide (p : Path)
  | put (p : Path) (t : Tree)
  | set (p : Path) (n : Str) (v : PVal)
namespace Ent
def path : Ent → Path
  | .drop p _ => p
  | .hide p => p
  | .put p _ => p
  | .set p _ _ => p
def isProp : Ent → Bool
  | .drop _ _ => true
  | .set _ _ _ => true
  | _ => false
def name : Ent → Str
  | .drop _ n => n
  | .set _ n _ => n
  | _ => ⟨#[]⟩
def data : Ent → PyData
  | .drop p n => .tuple [.str "drop", dPath p, .str n]
  | .hide p => .tuple [.str "hide", dPath p]
  | .put p t => .tuple [.str "put", dPath p, dTree t]
  | .set p n v => .tuple [.str "set", dPath p, .str n, dVal v]
def key : Ent → NestedKey
  | .drop p n => .tup [.text "prop", .tup (p.map .text), .text n]
  | .hide p => .tup [.text "hide", .tup (p.map .text)]
  | .put p _ => .tup [.text "put", .tup (p.map .text)]
  | .set p n _ => .tup [.text "prop", .tup (p.map .text), .text n]
end Ent

/-! ### what a table makes of a tree -/
def hidesOf (es : List Ent) : List Path := es.filterMap fun e => match e with
  | .hide p => some p
  | _ => none
def putsOf (es : List Ent) : List (Path × Tree) := es.filterMap fun e => match e with
  | .put p t => some (p, t)
  | _ => none
def hid (es : List Ent) (p : Path) : Bool := decide (p ∈ hidesOf es)
def belowOf (es : List Ent) (p : Path) : List Str := (putsOf es).filterMap fun x => if x.1.dropLast = p then x.1.getLast? else none
def putTree (es : List Ent) (p : Path) : Option Tree := ((putsOf es).find? fun x => decide (x.1 = p)).map (·.2)
def propsOf (es : List Ent) (p : Path) : List Ent := es.filter fun e => e.isProp && decide (e.path = p)

def hasNP (ds : List NP) (n : Str) : Bool := ds.any fun x => decide (x.1 = n)
def setNP (ds : List NP) (n : Str) (d : PyData) : List NP := if hasNP ds n = true then ds.map fun x => if x.1 = n then (x.1, d) else x else ds ++ [(n, d)]
def delNP (ds : List NP) (n : Str) : List NP := ds.filter fun x => decide (x.1 ≠ n)
def addNP (ds : List NP) (n : Str) (d : PyData) : List NP := if hasNP ds n = true then ds else ds ++ [(n, d)]
def leNP (a b : NP) : Bool := !decide (b.1.cps.toList < a.1.cps.toList)
def sortNP (ds : List NP) : List NP := ds.mergeSort leNP
def stepE (ds : List NP) : Ent → List NP
  | .set _ n v => setNP ds n (dVal v)
  | .drop _ n => delNP ds n
  | _ => ds
def rawPs (es : List Ent) (ps : List (Str × PVal)) (p : Path) : List NP := (propsOf es p).foldl stepE (vPs ps)
def putStep (es : List Ent) (p : Path) (ds : List NP) (n : Str) : List NP := match putTree es (p ++ [n]) with
  | some t => addNP ds n (dTree t)
  | none => ds
def addPuts (es : List Ent) (p : Path) (ds : List NP) : List NP := (belowOf es p).foldl (putStep es p) ds
def madeN (es : List Ent) (ps : List (Str × PVal)) (p : Path) (ks : List NP) : PyData := dNode (sortNP (rawPs es ps p)) (sortNP (addPuts es p ks))
def madeKs (es : List Ent) : Path → Kids → List NP
  | _, .nil => []
  | p, .cons n ps sub rest => if hid es (p ++ [n]) = true then madeKs es p rest else (n, madeN es ps (p ++ [n]) (madeKs es (p ++ [n]) sub)) :: madeKs es p rest
def madeT (es : List Ent) (t : Tree) (p : Path) : PyData := madeN es t.ps p (madeKs es p t.ks)

def idle (hs : List Path) (e : Ent) : Bool := hs.any fun q => decide (e.path.take q.length = q) && (e.isProp || !decide (e.path = q))
def normal (es : List Ent) : List Ent := es.filter fun e => !idle (hidesOf es) e

/-! ### the normal table does the same -/
/-- no hide entry at p or above -/
def Live (es : List Ent) (p : Path) : Prop := ∀ q ∈ hidesOf es, p.take q.length ≠ q

theorem mem_hides {es : List Ent} {q : Path} : q ∈ hidesOf es ↔ Ent.hide q ∈ es := by
  unfold hidesOf
  rw [List.mem_filterMap]
  constructor
  · rintro ⟨e, he, h⟩
    cases e <;> simp at h
    subst h; exact he
  · intro h; exact ⟨_, h, rfl⟩
theorem mem_puts {es : List Ent} {q : Path} {t : Tree} : (q, t) ∈ putsOf es ↔ Ent.put q t ∈ es := by
  unfold putsOf
  rw [List.mem_filterMap]
  constructor
  · rintro ⟨e, he, h⟩
    cases e <;> simp at h
    obtain ⟨rfl, rfl⟩ := h; exact he
  · intro h; exact ⟨_, h, rfl⟩

theorem take_snoc {p q : Path} {n : Str} (h : (p ++ [n]).take q.length = q) (hne : p ++ [n] ≠ q) : p.take q.length = q := by
  have hl : q.length ≤ p.length + 1 := by
    have := congrArg List.length h
    rw [List.length_take, List.length_append, List.length_singleton] at this
    omega
  by_cases e : q.length ≤ p.length
  · rw [List.take_append_of_le_length e] at h; exact h
  · exfalso
    have e2 : q.length = (p ++ [n]).length := by rw [List.length_append, List.length_singleton]; omega
    rw [e2, List.take_length] at h
    exact hne h
theorem live_step {es : List Ent} {p : Path} {n : Str} (L : Live es p) (h : hid es (p ++ [n]) = false) : Live es (p ++ [n]) := by
  intro q hq e
  by_cases c : p ++ [n] = q
  · rw [← c] at hq
    have : hid es (p ++ [n]) = true := decide_eq_true hq
    rw [h] at this; cases this
  · exact L q hq (take_snoc e c)

theorem filter_filter_keep {α : Type} (f g : α → Bool) : ∀ (l : List α), (∀ x ∈ l, f x = true → g x = true) → (l.filter g).filter f = l.filter f
  | [], _ => rfl
  | x :: l, h => by
    have ih := filter_filter_keep f g l fun y hy => h y (List.mem_cons_of_mem _ hy)
    by_cases hf : f x = true
    · have hg := h x List.mem_cons_self hf
      rw [List.filter_cons_of_pos hg, List.filter_cons_of_pos hf, List.filter_cons_of_pos hf, ih]
    · rw [List.filter_cons_of_neg (p := f) (by simpa using hf)]
      by_cases hg : g x = true
      · rw [List.filter_cons_of_pos hg, List.filter_cons_of_neg (by simpa using hf), ih]
      · rw [List.filter_cons_of_neg (by simpa using hg), ih]
theorem filterMap_filter_keep {α β : Type} (f : α → Option β) (g : α → Bool) : ∀ (l : List α), (∀ x ∈ l, (f x).isSome = true → g x = true) → (l.filter g).filterMap f = l.filterMap f
  | [], _ => rfl
  | x :: l, h => by
    have ih := filterMap_filter_keep f g l fun y hy => h y (List.mem_cons_of_mem _ hy)
    cases hf : f x with
    | some y =>
      have hg := h x List.mem_cons_self (by rw [hf]; rfl)
      rw [List.filter_cons_of_pos hg, List.filterMap_cons_some hf, List.filterMap_cons_some hf, ih]
    | none =>
      rw [List.filterMap_cons_none hf]
      by_cases hg : g x = true
      · rw [List.filter_cons_of_pos hg, List.filterMap_cons_none hf, ih]
      · rw [List.filter_cons_of_neg (by simpa using hg), ih]

theorem idle_iff {hs : List Path} {e : Ent} : idle hs e = true ↔ ∃ q ∈ hs, e.path.take q.length = q ∧ (e.isProp = true ∨ e.path ≠ q) := by
  unfold idle
  rw [List.any_eq_true]
  constructor
  · rintro ⟨q, hq, h⟩
    rw [Bool.and_eq_true, Bool.or_eq_true] at h
    refine ⟨q, hq, of_decide_eq_true h.1, ?_⟩
    rcases h.2 with h | h
    · exact .inl h
    · exact .inr (by simpa using h)
  · rintro ⟨q, hq, h1, h2⟩
    refine ⟨q, hq, ?_⟩
    rw [Bool.and_eq_true, Bool.or_eq_true]
    refine ⟨decide_eq_true h1, ?_⟩
    rcases h2 with h | h
    · exact .inl h
    · exact .inr (by simpa using h)

theorem hid_normal {es : List Ent} {p : Path} {n : Str} (L : Live es p) : hid (normal es) (p ++ [n]) = hid es (p ++ [n]) := by
  unfold hid
  have : p ++ [n] ∈ hidesOf (normal es) ↔ p ++ [n] ∈ hidesOf es := by
    rw [mem_hides, mem_hides, normal, List.mem_filter]
    refine ⟨fun h => h.1, fun h => ⟨h, ?_⟩⟩
    cases hi : idle (hidesOf es) (.hide (p ++ [n])) with
    | false => rfl
    | true =>
      obtain ⟨q, hq, h1, h2⟩ := idle_iff.mp hi
      rcases h2 with h2 | h2
      · cases h2
      · exact absurd (take_snoc h1 h2) (L q hq)
  by_cases c : p ++ [n] ∈ hidesOf es
  · rw [decide_eq_true c, decide_eq_true (this.mpr c)]
  · rw [decide_eq_false c, decide_eq_false fun z => c (this.mp z)]
theorem props_normal {es : List Ent} {p : Path} (L : Live es p) : propsOf (normal es) p = propsOf es p := by
  refine filter_filter_keep _ _ _ fun e he h => ?_
  rw [Bool.and_eq_true] at h
  have hp : e.path = p := of_decide_eq_true h.2
  cases hi : idle (hidesOf es) e with
  | false => rfl
  | true =>
    obtain ⟨q, hq, h1, _⟩ := idle_iff.mp hi
    rw [hp] at h1
    exact absurd h1 (L q hq)
theorem snoc_of {p q : Path} (hq : q ≠ []) (h : q.dropLast = p) : ∃ n, q = p ++ [n] ∧ q.getLast? = some n := by
  refine ⟨q.getLast hq, ?_, List.getLast?_eq_some_getLast hq⟩
  rw [← h]
  exact (List.dropLast_concat_getLast hq).symm
/-- puts at p ++ [n] alone are asked -/
theorem puts_normal {es : List Ent} {p : Path} (L : Live es p) {β : Type} (f : Path × Tree → Option β) (hf : ∀ x, (f x).isSome = true → ∃ n, x.1 = p ++ [n]) :
    (putsOf (normal es)).filterMap f = (putsOf es).filterMap f := by
  unfold putsOf normal
  rw [List.filterMap_filterMap, List.filterMap_filterMap]
  refine filterMap_filter_keep _ _ _ fun e he h => ?_
  cases hi : idle (hidesOf es) e with
  | false => rfl
  | true =>
    exfalso
    obtain ⟨q, hq, h1, h2⟩ := idle_iff.mp hi
    cases e with
    | put r t =>
      obtain ⟨n, hn⟩ := hf (r, t) h
      have hn : r = p ++ [n] := hn
      rcases h2 with h2 | h2
      · cases h2
      · have h1 : r.take q.length = q := h1
        have h2 : r ≠ q := h2
        rw [hn] at h1 h2
        exact L q hq (take_snoc h1 h2)
    | _ => exact absurd h (by simp)
theorem below_normal {es : List Ent} {p : Path} (L : Live es p) : belowOf (normal es) p = belowOf es p := by
  refine puts_normal L _ fun x h => ?_
  split at h
  · rename_i c
    by_cases e : x.1 = []
    · rw [e] at h; cases h
    · obtain ⟨n, hn, _⟩ := snoc_of e c
      exact ⟨n, hn⟩
  · cases h
theorem putTree_eq (es : List Ent) (p : Path) : putTree es p = ((putsOf es).filterMap fun x => if x.1 = p then some x.2 else none).head? := by
  unfold putTree
  generalize putsOf es = l
  induction l with
  | nil => rfl
  | cons x l ih =>
    by_cases c : x.1 = p
    · simp [List.find?_cons, List.filterMap_cons, c]
    · simp only [List.find?_cons, List.filterMap_cons, c, decide_false, if_false]
      exact ih
theorem putTree_normal {es : List Ent} {p : Path} {n : Str} (L : Live es p) : putTree (normal es) (p ++ [n]) = putTree es (p ++ [n]) := by
  rw [putTree_eq, putTree_eq, puts_normal L]
  intro x h
  split at h
  · rename_i c; exact ⟨n, c⟩
  · cases h
theorem addPuts_normal {es : List Ent} {p : Path} (L : Live es p) (ds : List NP) : addPuts (normal es) p ds = addPuts es p ds := by
  unfold addPuts
  rw [below_normal L]
  congr 1
  funext ds n
  unfold putStep
  rw [putTree_normal L]
theorem madeN_normal {es : List Ent} {p : Path} (L : Live es p) (ps : List (Str × PVal)) (ks : List NP) : madeN (normal es) ps p ks = madeN es ps p ks := by
  unfold madeN rawPs
  rw [props_normal L, addPuts_normal L]
theorem madeKs_normal {es : List Ent} : ∀ (ks : Kids) {p : Path}, Live es p → madeKs (normal es) p ks = madeKs es p ks
  | .nil, _, _ => rfl
  | .cons n ps sub rest, p, L => by
    unfold madeKs
    rw [hid_normal L, madeKs_normal rest L]
    cases h : hid es (p ++ [n]) with
    | true => rfl
    | false =>
      have L2 := live_step L h
      rw [if_neg Bool.false_ne_true, if_neg Bool.false_ne_true, madeKs_normal sub L2, madeN_normal L2]
theorem live_root {es : List Ent} (h : ∀ q ∈ hidesOf es, q ≠ []) : Live es [] := fun q hq e => h q hq (by rw [List.take_nil] at e; exact e.symm)
/-- THE FIRST HALF: applied makes the same with the normal table -/
theorem made_normal {es : List Ent} (h : ∀ q ∈ hidesOf es, q ≠ []) (t : Tree) : madeT (normal es) t [] = madeT es t [] := by
  unfold madeT
  rw [madeKs_normal _ (live_root h), madeN_normal (live_root h)]

/-! ### names -/
def names (ds : List NP) : List Str := ds.map (·.1)
theorem mem_names {ds : List NP} {n : Str} : n ∈ names ds ↔ ∃ d, (n, d) ∈ ds := by
  unfold names
  rw [List.mem_map]
  constructor
  · rintro ⟨⟨m, d⟩, h, rfl⟩; exact ⟨d, h⟩
  · rintro ⟨d, h⟩; exact ⟨_, h, rfl⟩
theorem has_iff {ds : List NP} {n : Str} : hasNP ds n = true ↔ n ∈ names ds := by
  unfold hasNP
  rw [List.any_eq_true, mem_names]
  constructor
  · rintro ⟨⟨m, d⟩, h, e⟩
    have e : m = n := of_decide_eq_true e
    subst e; exact ⟨d, h⟩
  · rintro ⟨d, h⟩; exact ⟨_, h, decide_eq_true rfl⟩
theorem names_map {ds : List NP} {n : Str} {d : PyData} : names (ds.map fun x => if x.1 = n then (x.1, d) else x) = names ds := by
  unfold names
  rw [List.map_map]
  refine List.map_congr_left fun x _ => ?_
  show (if x.1 = n then (x.1, d) else x).1 = x.1
  split <;> rfl
theorem names_set {ds : List NP} {n m : Str} {d : PyData} : m ∈ names (setNP ds n d) ↔ m = n ∨ m ∈ names ds := by
  unfold setNP
  split
  · rename_i h
    rw [names_map]
    constructor
    · exact .inr
    · rintro (rfl | h2)
      · exact has_iff.mp h
      · exact h2
  · simp only [names, List.map_append, List.mem_append, List.map_cons, List.map_nil, List.mem_singleton]
    exact or_comm
theorem names_add {ds : List NP} {n m : Str} {d : PyData} : m ∈ names (addNP ds n d) ↔ m = n ∨ m ∈ names ds := by
  unfold addNP
  split
  · rename_i h
    constructor
    · exact .inr
    · rintro (rfl | h2)
      · exact has_iff.mp h
      · exact h2
  · simp only [names, List.map_append, List.mem_append, List.map_cons, List.map_nil, List.mem_singleton]
    exact or_comm
theorem names_del {ds : List NP} {n m : Str} : m ∈ names (delNP ds n) ↔ m ≠ n ∧ m ∈ names ds := by
  unfold delNP
  rw [mem_names, mem_names]
  constructor
  · rintro ⟨d, h⟩
    rw [List.mem_filter] at h
    exact ⟨of_decide_eq_true h.2, d, h.1⟩
  · rintro ⟨h1, d, h⟩
    exact ⟨d, List.mem_filter.mpr ⟨h, decide_eq_true h1⟩⟩
theorem names_snoc_nodup {ds : List NP} {n : Str} {d : PyData} (h : (names ds).Nodup) (hn : n ∉ names ds) : (names (ds ++ [(n, d)])).Nodup := by
  unfold names at *
  rw [List.map_append, List.nodup_append]
  refine ⟨h, by simp, fun a ha b hb e => ?_⟩
  have hb : b = n := by simpa using hb
  subst hb; subst e; exact hn ha
theorem nodup_add {ds : List NP} {n : Str} {d : PyData} (h : (names ds).Nodup) : (names (addNP ds n d)).Nodup := by
  unfold addNP
  split
  · exact h
  · rename_i c
    exact names_snoc_nodup h fun z => c (has_iff.mpr z)
theorem nodup_set {ds : List NP} {n : Str} {d : PyData} (h : (names ds).Nodup) : (names (setNP ds n d)).Nodup := by
  unfold setNP
  split
  · rw [names_map]; exact h
  · rename_i c
    exact names_snoc_nodup h fun z => c (has_iff.mpr z)
theorem nodup_del {ds : List NP} {n : Str} (h : (names ds).Nodup) : (names (delNP ds n)).Nodup := List.Nodup.sublist (List.Sublist.map _ List.filter_sublist) h
theorem nodup_step {ds : List NP} {e : Ent} (h : (names ds).Nodup) : (names (stepE ds e)).Nodup := by
  cases e with
  | set p n v => exact nodup_set h
  | drop p n => exact nodup_del h
  | _ => exact h
theorem nodup_steps : ∀ (l : List Ent) {ds : List NP}, (names ds).Nodup → (names (l.foldl stepE ds)).Nodup
  | [], _, h => h
  | _ :: l, _, h => nodup_steps l (nodup_step h)
theorem one_of {ds : List NP} (h : (names ds).Nodup) {n : Str} {a b : PyData} (ha : (n, a) ∈ ds) (hb : (n, b) ∈ ds) : a = b := by
  induction ds with
  | nil => cases ha
  | cons x ds ih =>
    unfold names at h
    rw [List.map_cons, List.nodup_cons] at h
    rcases List.mem_cons.mp ha with e | ha
    · rcases List.mem_cons.mp hb with e2 | hb
      · rw [← e] at e2; injection e2 with _ e2; exact e2.symm
      · exfalso; rw [← e] at h; exact h.1 (List.mem_map.mpr ⟨_, hb, rfl⟩)
    · rcases List.mem_cons.mp hb with e2 | hb
      · exfalso; rw [← e2] at h; exact h.1 (List.mem_map.mpr ⟨_, ha, rfl⟩)
      · exact ih h.2 ha hb
theorem mem_sort {ds : List NP} {x : NP} : x ∈ sortNP ds ↔ x ∈ ds := List.mem_mergeSort
theorem sort_names {a b : List NP} (h : sortNP a = sortNP b) {n : Str} : n ∈ names a ↔ n ∈ names b := by
  rw [mem_names, mem_names]
  constructor
  · rintro ⟨d, hd⟩; exact ⟨d, mem_sort.mp (h ▸ mem_sort.mpr hd)⟩
  · rintro ⟨d, hd⟩; exact ⟨d, mem_sort.mp (h ▸ mem_sort.mpr hd)⟩
theorem sort_nil : sortNP [] = [] := by unfold sortNP; simp

theorem dPair_inj {a b : NP} (h : dPair a = dPair b) : a = b := by
  obtain ⟨n, d⟩ := a
  obtain ⟨m, e⟩ := b
  simp only [dPair, PyData.tuple.injEq, List.cons.injEq, PyData.str.injEq, and_true] at h
  obtain ⟨rfl, rfl⟩ := h
  rfl
theorem map_dPair_inj : ∀ {a b : List NP}, a.map dPair = b.map dPair → a = b
  | [], [], _ => rfl
  | [], _ :: _, h => by simp at h
  | _ :: _, [], h => by simp at h
  | x :: a, y :: b, h => by
    rw [List.map_cons, List.map_cons] at h
    injection h with h1 h2
    rw [dPair_inj h1, map_dPair_inj h2]
theorem dNode_inj {a b c d : List NP} (h : dNode a b = dNode c d) : a = c ∧ b = d := by
  simp only [dNode, PyData.tuple.injEq, List.cons.injEq, and_true] at h
  exact ⟨map_dPair_inj h.1, map_dPair_inj h.2⟩

/-! ### puts -/
theorem mem_below {es : List Ent} {c : Path} {n : Str} : n ∈ belowOf es c ↔ ∃ t, Ent.put (c ++ [n]) t ∈ es := by
  unfold belowOf
  rw [List.mem_filterMap]
  constructor
  · rintro ⟨⟨q, t⟩, h, e⟩
    by_cases hc : q.dropLast = c
    · simp only [hc, if_true] at e
      have hq : q ≠ [] := by rintro rfl; cases e
      obtain ⟨m, h1, h2⟩ := snoc_of hq hc
      rw [h2] at e
      have e : m = n := Option.some.inj e
      subst e
      rw [h1] at h
      exact ⟨t, mem_puts.mp h⟩
    · simp only [hc, if_false] at e; cases e
  · rintro ⟨t, h⟩
    refine ⟨(c ++ [n], t), mem_puts.mpr h, ?_⟩
    simp
theorem putTree_some {es : List Ent} {q : Path} : (∃ t, putTree es q = some t) ↔ ∃ t, Ent.put q t ∈ es := by
  unfold putTree
  constructor
  · rintro ⟨t, h⟩
    obtain ⟨x, hx, rfl⟩ := Option.map_eq_some_iff.mp h
    have h1 := List.mem_of_find?_eq_some hx
    have h2 : x.1 = q := of_decide_eq_true (List.find?_some (p := fun x : Path × Tree => decide (x.1 = q)) hx)
    exact ⟨x.2, mem_puts.mp (by rw [← h2]; exact h1)⟩
  · rintro ⟨t, h⟩
    cases hf : (putsOf es).find? fun x => decide (x.1 = q) with
    | some x => exact ⟨x.2, rfl⟩
    | none =>
      have := List.find?_eq_none.mp hf (q, t) (mem_puts.mpr h)
      simp at this
theorem putStep_names {es : List Ent} {c : Path} {ds : List NP} {n m : Str} : m ∈ names (putStep es c ds n) ↔ m ∈ names ds ∨ (m = n ∧ ∃ t, Ent.put (c ++ [n]) t ∈ es) := by
  unfold putStep
  cases h : putTree es (c ++ [n]) with
  | some t =>
    have q := putTree_some.mp ⟨t, h⟩
    show m ∈ names (addNP ds n (dTree t)) ↔ _
    rw [names_add]
    constructor
    · rintro (e | e)
      · exact .inr ⟨e, q⟩
      · exact .inl e
    · rintro (e | ⟨e, _⟩)
      · exact .inr e
      · exact .inl e
  | none =>
    show m ∈ names ds ↔ _
    constructor
    · exact .inl
    · rintro (e | ⟨_, e⟩)
      · exact e
      · obtain ⟨t, ht⟩ := putTree_some.mpr e
        rw [h] at ht; cases ht
theorem putStep_keep {es : List Ent} {c : Path} {ds : List NP} {n : Str} {x : NP} (h : x ∈ ds) : x ∈ putStep es c ds n := by
  unfold putStep
  split
  · unfold addNP
    split
    · exact h
    · exact List.mem_append_left _ h
  · exact h
theorem putStep_nodup {es : List Ent} {c : Path} {ds : List NP} {n : Str} (h : (names ds).Nodup) : (names (putStep es c ds n)).Nodup := by
  unfold putStep
  split
  · exact nodup_add h
  · exact h
theorem putFold_keep {es : List Ent} {c : Path} : ∀ (l : List Str) {ds : List NP} {x : NP}, x ∈ ds → x ∈ l.foldl (putStep es c) ds
  | [], _, _, h => h
  | _ :: l, _, _, h => putFold_keep l (putStep_keep h)
theorem putFold_nodup {es : List Ent} {c : Path} : ∀ (l : List Str) {ds : List NP}, (names ds).Nodup → (names (l.foldl (putStep es c) ds)).Nodup
  | [], _, h => h
  | _ :: l, _, h => putFold_nodup l (putStep_nodup h)
theorem putFold_names {es : List Ent} {c : Path} : ∀ (l : List Str) {ds : List NP} {m : Str}, m ∈ names (l.foldl (putStep es c) ds) ↔ m ∈ names ds ∨ (m ∈ l ∧ ∃ t, Ent.put (c ++ [m]) t ∈ es)
  | [], ds, m => by simp
  | n :: l, ds, m => by
    rw [List.foldl_cons, putFold_names l, putStep_names]
    constructor
    · rintro ((h | ⟨rfl, h⟩) | ⟨h1, h2⟩)
      · exact .inl h
      · exact .inr ⟨List.mem_cons_self, h⟩
      · exact .inr ⟨List.mem_cons_of_mem _ h1, h2⟩
    · rintro (h | ⟨h1, h2⟩)
      · exact .inl (.inl h)
      · rcases List.mem_cons.mp h1 with rfl | h1
        · exact .inl (.inr ⟨rfl, h2⟩)
        · exact .inr ⟨h1, h2⟩
theorem addPuts_names {es : List Ent} {c : Path} {ds : List NP} {m : Str} : m ∈ names (addPuts es c ds) ↔ m ∈ names ds ∨ ∃ t, Ent.put (c ++ [m]) t ∈ es := by
  unfold addPuts
  rw [putFold_names]
  constructor
  · rintro (h | ⟨_, h⟩)
    · exact .inl h
    · exact .inr h
  · rintro (h | h)
    · exact .inl h
    · exact .inr ⟨mem_below.mpr h, h⟩
theorem addPuts_nil {es : List Ent} {c : Path} (h : ∀ n t, Ent.put (c ++ [n]) t ∉ es) : addPuts es c [] = [] := by
  cases q : addPuts es c [] with
  | nil => rfl
  | cons x r =>
    have : x.1 ∈ names (addPuts es c []) := by rw [q]; exact List.mem_map.mpr ⟨x, List.mem_cons_self, rfl⟩
    rcases addPuts_names.mp this with h1 | ⟨t, h1⟩
    · cases h1
    · exact absurd h1 (h _ _)

/-! ### down a chain -/
def chain : Path → Tree → Tree
  | [], T => T
  | x :: r, T => ⟨[], .cons x (chain r T).ps (chain r T).ks .nil⟩
theorem chain_snoc (x : Str) (T : Tree) : ∀ r : Path, chain (r ++ [x]) T = chain r ⟨[], .cons x T.ps T.ks .nil⟩
  | [] => rfl
  | y :: r => by
    show (⟨[], .cons y (chain (r ++ [x]) T).ps (chain (r ++ [x]) T).ks .nil⟩ : Tree) = _
    rw [chain_snoc x T r]; rfl
theorem madeT_step {es : List Ent} {c : Path} {x : Str} {T : Tree} (h : hid es (c ++ [x]) = false) :
    madeT es ⟨[], .cons x T.ps T.ks .nil⟩ c = dNode (sortNP (rawPs es [] c)) (sortNP (addPuts es c [(x, madeT es T (c ++ [x]))])) := by
  show madeN es [] c (madeKs es c (.cons x T.ps T.ks .nil)) = _
  have e : madeKs es c (.cons x T.ps T.ks .nil) = [(x, madeT es T (c ++ [x]))] := by
    unfold madeKs
    rw [h, if_neg Bool.false_ne_true]
    rfl
  rw [e]
  rfl
theorem nodup_single (x : NP) : (names [x]).Nodup := by simp [names]
theorem addPuts_one {es : List Ent} {c : Path} {x : Str} {D D' : PyData} (h : (x, D') ∈ addPuts es c [(x, D)]) : D' = D :=
  one_of (putFold_nodup _ (nodup_single _)) h (putFold_keep _ List.mem_cons_self)
theorem desc {e1 e2 : List Ent} {T : Tree} : ∀ (r c : Path), (∀ k, k < r.length → hid e1 (c ++ r.take (k + 1)) = false ∧ hid e2 (c ++ r.take (k + 1)) = false) →
    madeT e1 (chain r T) c = madeT e2 (chain r T) c → madeT e1 T (c ++ r) = madeT e2 T (c ++ r)
  | [], c, _, h => by rw [List.append_nil]; exact h
  | x :: r, c, hh, h => by
    have h0 := hh 0 (Nat.succ_pos _)
    have e1' : (x :: r).take (0 + 1) = [x] := by simp
    rw [e1'] at h0
    have h' : madeT e1 ⟨[], .cons x (chain r T).ps (chain r T).ks .nil⟩ c = madeT e2 ⟨[], .cons x (chain r T).ps (chain r T).ks .nil⟩ c := h
    rw [madeT_step h0.1, madeT_step h0.2] at h'
    have h2 := (dNode_inj h').2
    have m1 : (x, madeT e1 (chain r T) (c ++ [x])) ∈ addPuts e2 c [(x, madeT e2 (chain r T) (c ++ [x]))] :=
      mem_sort.mp (h2 ▸ mem_sort.mpr (putFold_keep _ List.mem_cons_self))
    have q := desc r (c ++ [x]) (fun k hk => by
      have := hh (k + 1) (Nat.succ_lt_succ hk)
      rw [List.take_succ_cons] at this
      rw [List.append_assoc]
      exact this) (addPuts_one m1)
    rw [List.append_assoc] at q
    exact q

/-! ### each entry does something -/
theorem step_names {e : Ent} {ds : List NP} {n : Str} (h : e.isProp = true → e.name ≠ n) : n ∈ names (stepE ds e) ↔ n ∈ names ds := by
  cases e with
  | set p m v =>
    have hm : m ≠ n := h rfl
    show n ∈ names (setNP ds m (dVal v)) ↔ _
    rw [names_set]
    constructor
    · rintro (e | e)
      · exact absurd e.symm hm
      · exact e
    · exact .inr
  | drop p m =>
    have hm : m ≠ n := h rfl
    show n ∈ names (delNP ds m) ↔ _
    rw [names_del]
    exact ⟨fun q => q.2, fun q => ⟨fun e => hm e.symm, q⟩⟩
  | hide p => exact Iff.rfl
  | put p t => exact Iff.rfl
theorem fold_names {n : Str} : ∀ (l : List Ent) {ds : List NP}, (∀ e ∈ l, e.isProp = true → e.name ≠ n) → (n ∈ names (l.foldl stepE ds) ↔ n ∈ names ds)
  | [], _, _ => Iff.rfl
  | e :: l, ds, h => by
    rw [List.foldl_cons, fold_names l fun o ho => h o (List.mem_cons_of_mem _ ho), step_names (h e List.mem_cons_self)]
theorem map_text_inj : ∀ {p q : Path}, p.map NestedKey.text = q.map NestedKey.text → p = q
  | [], [], _ => rfl
  | [], _ :: _, h => by simp at h
  | _ :: _, [], h => by simp at h
  | x :: p, y :: q, h => by
    rw [List.map_cons, List.map_cons] at h
    injection h with h1 h2
    injection h1 with h1
    rw [h1, map_text_inj h2]
theorem key_prop {e o : Ent} (he : e.isProp = true) (ho : o.isProp = true) : e.key = o.key ↔ e.path = o.path ∧ e.name = o.name := by
  cases e <;> cases o <;> simp_all [Ent.isProp, Ent.key, Ent.path, Ent.name] <;>
  exact fun _ => ⟨map_text_inj, fun h => by rw [h]⟩
theorem hide_key {p q : Path} (h : (Ent.hide p).key = (Ent.hide q).key) : p = q := by
  simp only [Ent.key, NestedKey.tup.injEq, List.cons.injEq, and_true, true_and] at h
  exact map_text_inj h
theorem put_key {p q : Path} {t u : Tree} (h : (Ent.put p t).key = (Ent.put q u).key) : p = q := by
  simp only [Ent.key, NestedKey.tup.injEq, List.cons.injEq, and_true, true_and] at h
  exact map_text_inj h
theorem same_key {es : List Ent} (nd : (es.map Ent.key).Nodup) {e o : Ent} (he : e ∈ es) (ho : o ∈ es) (h : e.key = o.key) : e = o := by
  induction es with
  | nil => cases he
  | cons x es ih =>
    rw [List.map_cons, List.nodup_cons] at nd
    rcases List.mem_cons.mp he with e1 | he1
    · rcases List.mem_cons.mp ho with e2 | ho1
      · rw [e1, e2]
      · exact absurd (List.mem_map.mpr ⟨o, ho1, by rw [← h, e1]⟩) nd.1
    · rcases List.mem_cons.mp ho with e2 | ho1
      · exact absurd (List.mem_map.mpr ⟨e, he1, by rw [h, e2]⟩) nd.1
      · exact ih nd.2 he1 ho1
theorem propsOf_mem {es : List Ent} {p : Path} {e : Ent} : e ∈ propsOf es p ↔ e ∈ es ∧ e.isProp = true ∧ e.path = p := by
  unfold propsOf
  rw [List.mem_filter, Bool.and_eq_true, decide_eq_true_eq]
/-- the names behind all entries, where one entry of them speaks of the name -/
theorem fold_split {es : List Ent} (nd : (es.map Ent.key).Nodup) {e : Ent} (he : e ∈ es) (hp : e.isProp = true) (ds : List NP) :
    ∃ ds', e.name ∈ names ((propsOf es e.path).foldl stepE ds) ↔ e.name ∈ names (stepE ds' e) := by
  have hm : e ∈ propsOf es e.path := propsOf_mem.mpr ⟨he, hp, rfl⟩
  obtain ⟨l1, l2, hl⟩ := List.append_of_mem hm
  refine ⟨l1.foldl stepE ds, ?_⟩
  rw [hl, List.foldl_append, List.foldl_cons]
  refine fold_names l2 fun o ho _ hn => ?_
  have ho2 : o ∈ propsOf es e.path := by rw [hl]; exact List.mem_append_right _ (List.mem_cons_of_mem _ ho)
  obtain ⟨h1, h2, h3⟩ := propsOf_mem.mp ho2
  have eo : e = o := same_key nd he h1 ((key_prop hp h2).mpr ⟨h3.symm, hn.symm⟩)
  have nd2 : (propsOf es e.path).Nodup := by
    have : ((propsOf es e.path).map Ent.key).Nodup := List.Nodup.sublist (List.Sublist.map _ List.filter_sublist) nd
    exact List.Pairwise.of_map _ (fun _ _ hne e => hne (congrArg _ e)) this
  rw [hl, List.nodup_append] at nd2
  have := (List.nodup_cons.mp nd2.2.1).1
  rw [eo] at this
  exact this ho
def nQQ : Str := "qq"
def someP (e : Ent) : List (List (Str × PVal)) := ([[], [(nQQ, PVal.int 1)]] : List (List (Str × PVal))) ++ (if e.isProp = true then [[(e.name, PVal.int 123456)]] else [])
def cpath : Ent → Path
  | .put p _ => p.dropLast
  | e => e.path
/-- what is known of a normal table -/
structure Norm (es : List Ent) : Prop where
  nd : (es.map Ent.key).Nodup
  nz : ∀ e ∈ es, e.isProp = false → e.path ≠ []
  ni : ∀ o ∈ es, ∀ q ∈ hidesOf es, o.path.take q.length = q → o.isProp = false ∧ o.path = q
theorem not_hid {es : List Ent} (N : Norm es) {e : Ent} (he : e ∈ es) {k : Nat} (hk : k ≤ e.path.length) (h : e.isProp = true ∨ k < e.path.length) : hid es (e.path.take k) = false := by
  refine decide_eq_false fun hm => ?_
  have hl : (e.path.take k).length = k := by rw [List.length_take]; omega
  obtain ⟨h1, h2⟩ := N.ni e he _ hm (by rw [hl])
  rcases h with h | h
  · rw [h] at h1; cases h1
  · have := congrArg List.length h2
    rw [hl] at this; omega
theorem not_hid_rest {es rs : List Ent} (hs : ∀ o ∈ rs, o ∈ es) {p : Path} (h : hid es p = false) : hid rs p = false := by
  refine decide_eq_false fun hm => ?_
  have := of_decide_eq_false h
  exact this (mem_hides.mpr (hs _ (mem_hides.mp hm)))
theorem take_take_snoc {p : Path} {k : Nat} (hk : k < p.length) : p.take (k + 1) = ([] : Path) ++ p.take (k + 1) := rfl
/-- THE SECOND HALF: without the entry another thing is made of one of the trees -/
theorem does {es rs : List Ent} (N : Norm es) {e : Ent} (he : e ∈ es) (hrs : ∀ o, o ∈ rs ↔ o ∈ es ∧ o.key ≠ e.key) :
    ∃ X ∈ someP e, madeT rs (chain (cpath e) ⟨X, .nil⟩) [] ≠ madeT es (chain (cpath e) ⟨X, .nil⟩) [] := by
  have sub : ∀ o ∈ rs, o ∈ es := fun o ho => ((hrs o).mp ho).1
  have prefix_ok : ∀ {p : Path}, (∀ k, k < p.length → hid es (p.take (k + 1)) = false) → ∀ k, k < p.length → hid rs ([] ++ p.take (k + 1)) = false ∧ hid es ([] ++ p.take (k + 1)) = false :=
    fun h k hk => ⟨not_hid_rest sub (h k hk), h k hk⟩
  cases hp : e.isProp with
  | true =>
    have hc : cpath e = e.path := by cases e <;> first | rfl | cases hp
    have go : ∀ {X : List (Str × PVal)}, madeT rs (chain (cpath e) ⟨X, .nil⟩) [] = madeT es (chain (cpath e) ⟨X, .nil⟩) [] → (e.name ∈ names (vPs X) ↔ e.name ∈ names ((propsOf es e.path).foldl stepE (vPs X))) := by
      intro X h
      rw [hc] at h
      have q := desc e.path [] (prefix_ok fun k hk => not_hid N he (by omega) (.inl hp)) h
      have q1 := (dNode_inj (show dNode _ _ = dNode _ _ from q)).1
      have q2 : e.name ∈ names ((propsOf rs e.path).foldl stepE (vPs X)) ↔ e.name ∈ names ((propsOf es e.path).foldl stepE (vPs X)) := sort_names (n := e.name) q1
      rw [← q2]
      refine (fold_names _ fun o ho hop hn => ?_).symm
      obtain ⟨h1, h2, h3⟩ := propsOf_mem.mp ho
      exact ((hrs o).mp h1).2 ((key_prop h2 hp).mpr ⟨h3, hn⟩)
    cases e with
    | set p n v =>
      refine ⟨[], by simp [someP], fun h => ?_⟩
      have q := go h
      obtain ⟨ds', hd⟩ := fold_split N.nd he rfl (vPs [])
      have : n ∈ names (vPs []) := q.mpr (hd.mpr (names_set.mpr (.inl rfl)))
      cases this
    | drop p n =>
      refine ⟨[(n, .int 123456)], by simp [someP, Ent.isProp, Ent.name], fun h => ?_⟩
      have q := go h
      obtain ⟨ds', hd⟩ := fold_split N.nd he rfl (vPs [(n, .int 123456)])
      have h2 : n ∈ names (delNP ds' n) := hd.mp (q.mp (by simp [names, vPs, Ent.name]))
      exact (names_del.mp h2).1 rfl
    | hide p => cases hp
    | put p t => cases hp
  | false =>
    have hz := N.nz e he hp
    cases e with
    | set p n v => cases hp
    | drop p n => cases hp
    | put p t =>
      have hz : p ≠ [] := hz
      obtain ⟨x, hx, _⟩ := snoc_of hz rfl
      refine ⟨[], by simp [someP], fun h => ?_⟩
      have q := desc p.dropLast [] (prefix_ok fun k hk => by
        have h1 : k + 1 < p.length := by rw [List.length_dropLast] at hk; omega
        have h2 : p.dropLast.take (k + 1) = p.take (k + 1) := by
          conv => rhs; rw [hx]
          rw [List.take_append_of_le_length hk]
        rw [h2]
        exact not_hid N he (k := k + 1) (show k + 1 ≤ p.length by omega) (.inr h1)) h
      have q1 := (dNode_inj (show dNode _ _ = dNode _ _ from q)).2
      have q2 := (sort_names (n := x) q1).mpr (addPuts_names.mpr (.inr ⟨t, by rw [List.nil_append, ← hx]; exact he⟩))
      rcases addPuts_names.mp q2 with h1 | ⟨u, h1⟩
      · cases h1
      · rw [List.nil_append, ← hx] at h1
        exact ((hrs _).mp h1).2 rfl
    | hide p =>
      have hz : p ≠ [] := hz
      obtain ⟨x, hx, _⟩ := snoc_of hz rfl
      have hr : hid rs p = false := decide_eq_false fun hm => ((hrs _).mp (mem_hides.mp hm)).2 rfl
      have he1 : hid es p = true := decide_eq_true (mem_hides.mpr he)
      have below : ∀ {X : List (Str × PVal)}, madeT rs ⟨X, .nil⟩ p = dNode (sortNP (vPs X)) [] := by
        intro X
        show dNode (sortNP (rawPs rs X p)) (sortNP (addPuts rs p [])) = _
        have a : addPuts rs p [] = [] := addPuts_nil fun n t hm => by
          have := (N.ni _ (sub _ hm) p (mem_hides.mpr he) (by show (p ++ [n]).take p.length = p; simp)).2
          have := congrArg List.length this
          simp [Ent.path] at this
        have b : propsOf rs p = [] := by
          cases hq : propsOf rs p with
          | nil => rfl
          | cons o r =>
            obtain ⟨h1, h2, h3⟩ := propsOf_mem.mp (show o ∈ propsOf rs p by rw [hq]; exact List.mem_cons_self)
            have := (N.ni _ (sub _ h1) p (mem_hides.mpr he) (by rw [h3]; exact List.take_length)).1
            rw [h2] at this; cases this
        rw [a, sort_nil]
        unfold rawPs
        rw [b]
        rfl
      have go : ∀ {X : List (Str × PVal)}, madeT rs (chain p ⟨X, .nil⟩) [] = madeT es (chain p ⟨X, .nil⟩) [] → (x, dNode (sortNP (vPs X)) []) ∈ addPuts es p.dropLast [] := by
        intro X h
        rw [hx, chain_snoc] at h
        have q := desc p.dropLast [] (prefix_ok fun k hk => by
          have h1 : k + 1 < p.length := by rw [List.length_dropLast] at hk; omega
          have h2 : p.dropLast.take (k + 1) = p.take (k + 1) := by
            conv => rhs; rw [hx]
            rw [List.take_append_of_le_length hk]
          rw [h2]
          exact not_hid N he (k := k + 1) (show k + 1 ≤ p.length by omega) (.inr h1)) h
        rw [List.nil_append] at q
        rw [madeT_step (T := ⟨X, .nil⟩) (by rw [← hx]; exact hr), ← hx, below] at q
        have eh : madeKs es p.dropLast (.cons x X .nil .nil) = [] := by
          unfold madeKs
          rw [← hx, he1, if_pos rfl]
          rfl
        have q' : dNode _ _ = dNode (sortNP (rawPs es [] p.dropLast)) (sortNP (addPuts es p.dropLast (madeKs es p.dropLast (.cons x X .nil .nil)))) := q
        rw [eh] at q'
        have q1 := (dNode_inj q').2
        exact mem_sort.mp (q1 ▸ mem_sort.mpr (putFold_keep _ List.mem_cons_self))
      by_cases c : madeT rs (chain p ⟨[], .nil⟩) [] = madeT es (chain p ⟨[], .nil⟩) []
      · refine ⟨[(nQQ, .int 1)], by simp [someP], fun h => ?_⟩
        have q := one_of (putFold_nodup _ (by simp [names])) (go c) (go h)
        have q1 := (dNode_inj q).1
        have l1 := congrArg List.length q1
        unfold sortNP at l1
        rw [List.length_mergeSort, List.length_mergeSort] at l1
        simp [vPs] at l1
      · exact ⟨[], by simp [someP], c⟩
end VN

/-! Rules of this proof's own for the hand layer: dicts whose keys are tuples of any depth (texts, ints, tuples of such). -/
namespace VN
open PySem PySem.Spec PyProof.Rows L2

/-! ### data and heaps -/
/-- what was a tuple is the same tuple -/
def TK (H H' : Hp) : Prop := ∀ b xs, Rd H b (.tup xs) → Rd H' b (.tup xs)
theorem TK.refl (H : Hp) : TK H H := fun _ _ h => h
theorem TK.trans {H H1 H2 : Hp} (a : TK H H1) (b : TK H1 H2) : TK H H2 := fun c xs h => b c xs (a c xs h)
theorem TK.of {H H' : Hp} (s : Same H H') : TK H H' := fun b xs h => by
  rcases h with h | ⟨o, h⟩
  · exact .inl (s _ _ h)
  · exact .inr ⟨o, s _ _ h⟩
/-- a thing that is no tuple is written -/
theorem TK.upd {H : Hp} {a : Addr} {o u : HO} (h : H a = some u) (n1 : ∀ xs, u ≠ .tup xs) (n2 : ∀ ob w, u ≠ .frz ob w) : TK H (L2.upd H a o) := fun b xs q => by
  have ne : b ≠ a := fun e => by
    subst e
    rcases q with q | ⟨ob, q⟩
    · rw [h] at q; exact n1 _ (Option.some.inj q)
    · rw [h] at q; exact n2 _ _ (Option.some.inj q)
  rcases q with q | ⟨ob, q⟩
  · exact .inl (by rw [upd_ne ne]; exact q)
  · exact .inr ⟨ob, by rw [upd_ne ne]; exact q⟩
theorem TK.new {H : Hp} {a : Addr} {o : HO} (h : H a = none) : TK H (L2.upd H a o) := TK.of fun b u q => by rw [upd_ne (ne_of_none q h)]; exact q
theorem Same.new {H : Hp} {a : Addr} (h : H a = none) (o : HO) : Same H (L2.upd H a o) := fun b u q => by rw [upd_ne (ne_of_none q h)]; exact q
theorem TK.sqT {K : PySem.W.Frag} {H H' : Hp} (t : TK H H') {a : Addr} {xs : List V} (h : SqT K H a xs) : SqT K H' a xs := by
  rcases h with h | h
  · exact .inl (t _ _ h)
  · exact .inr h

mutual
/-- whole numbers and texts, in tuples -/
def good : PyData → Bool
  | .int _ => true
  | .str x => PyData.strOk x
  | .tuple xs => goodAll xs
  | _ => false
def goodAll : List PyData → Bool
  | [] => true
  | x :: xs => good x && goodAll xs
end
mutual
theorem Dp.tk {K : PySem.W.Frag} {H H' : Hp} (t : TK H H') : ∀ (d : PyData) (v : V), good d = true → Dp K H v d → Dp K H' v d
  | .int i, _, _, h => by cases h; exact .int i
  | .str x, _, _, h => by cases h; exact .str x
  | .tuple ds, _, g, h => by
    cases h with
    | tup hs ha => exact .tup (t.sqT hs) (DpAll.tk t ds _ (by simpa [good] using g) ha)
  | .none, _, g, _ => by simp [good] at g
  | .bool _, _, g, _ => by simp [good] at g
  | .list _, _, g, _ => by simp [good] at g
  | .dict _, _, g, _ => by simp [good] at g
theorem DpAll.tk {K : PySem.W.Frag} {H H' : Hp} (t : TK H H') : ∀ (ds : List PyData) (vs : List V), goodAll ds = true → DpAll K H vs ds → DpAll K H' vs ds
  | [], _, _, h => by cases h; exact .nil
  | d :: ds, _, g, h => by
    rw [goodAll, Bool.and_eq_true] at g
    cases h with
    | cons h1 h2 => exact .cons (Dp.tk t d _ g.1 h1) (DpAll.tk t ds _ g.2 h2)
end
/-- the data stands at v, whatever comes: it is good -/
structure Da (K : PySem.W.Frag) (H : Hp) (v : V) (d : PyData) : Prop where
  dp : Dp K H v d
  gd : good d = true
theorem Da.tk {K : PySem.W.Frag} {H H' : Hp} (t : TK H H') {v : V} {d : PyData} (h : Da K H v d) : Da K H' v d := ⟨Dp.tk t d v h.gd h.dp, h.gd⟩

/-! ### keys -/
mutual
def okKey : NestedKey → Bool
  | .text x => PyData.strOk x
  | .num _ => true
  | .tup ks => okKeys ks
  | .none => false
def okKeys : List NestedKey → Bool
  | [] => true
  | k :: ks => okKey k && okKeys ks
end
mutual
theorem good_key : ∀ k : NestedKey, okKey k = true → good k.data = true
  | .text x, h => h
  | .num i, _ => rfl
  | .tup ks, h => by
    show goodAll (NestedKey.datas ks) = true
    exact good_keys ks (by simpa [okKey] using h)
  | .none, h => by simp [okKey] at h
theorem good_keys : ∀ ks : List NestedKey, okKeys ks = true → goodAll (NestedKey.datas ks) = true
  | [], _ => rfl
  | k :: ks, h => by
    rw [okKeys, Bool.and_eq_true] at h
    show (good k.data && goodAll (NestedKey.datas ks)) = true
    rw [good_key k h.1, good_keys ks h.2]; rfl
end
section
variable {X : Cx} {pins : List (Addr × Obj)} {σ : L2.St} {H : Hp} {s : Shared}
mutual
theorem nested_of (I : Inv X pins σ H s) : ∀ (k : NestedKey) (v : V) (u : Value), okKey k = true → Dp X.K H v k.data → RelV v u → NestedIs s.heap k u
  | .text x, _, _, _, h, r => by
    have h : Dp X.K H _ (.str x) := h
    cases h
    obtain ⟨t, rfl⟩ := r
    exact .text x t
  | .num i, _, _, _, h, r => by
    have h : Dp X.K H _ (.int i) := h
    cases h
    obtain ⟨t, rfl⟩ := r
    exact .int i t
  | .tup ks, _, _, g, h, r => by
    have h : Dp X.K H _ (.tuple (NestedKey.datas ks)) := h
    cases h with
    | tup hs ha =>
      cases r
      obtain ⟨its, rv, ⟨o, ho, hc, n, hd⟩, _⟩ := I.tuple hs
      exact .tup ho hc hd (nesteds_of I ks _ its (by simpa [okKey] using g) ha rv)
  | .none, _, _, g, _, _ => by simp [okKey] at g
theorem nesteds_of (I : Inv X pins σ H s) : ∀ (ks : List NestedKey) (vs : List V) (us : List Value), okKeys ks = true → DpAll X.K H vs (NestedKey.datas ks) → Vals vs us → NestedAll s.heap ks us
  | [], _, _, _, h, r => by
    have h : DpAll X.K H _ [] := h
    cases h
    cases r
    exact .nil
  | k :: ks, _, _, g, h, r => by
    rw [okKeys, Bool.and_eq_true] at g
    have h : DpAll X.K H _ (k.data :: NestedKey.datas ks) := h
    cases h with
    | cons h1 h2 =>
      cases r with
      | cons r1 r2 => exact .cons (nested_of I k _ _ g.1 h1 r1) (nesteds_of I ks _ _ g.2 h2 r2)
end
end
/-- the key k: fit for a dict, at most eight deep -/
structure KeyOk (k : NestedKey) : Prop where
  ok : okKey k = true
  dep : k.depth ≤ 8
/-- v is the key k -/
def Ky (K : PySem.W.Frag) (H : Hp) (v : V) (k : NestedKey) : Prop := KeyOk k ∧ (∃ b, v = .ref b) ∧ Dp K H v k.data
theorem Ky.tk {K : PySem.W.Frag} {H H' : Hp} (t : TK H H') {v : V} {k : NestedKey} (h : Ky K H v k) : Ky K H' v k := ⟨h.1, h.2.1, Dp.tk t _ v (good_key k h.1.ok) h.2.2⟩

/-! ### the dict -/
abbrev NRow := NestedKey × Addr × Value
def NDraw (P : Program) (w : World) (a : Addr) (xs : List NRow) (h : Heap) : Prop :=
  ∃ o es ep, h.get? a = some o ∧ o.ExactDict ∧ o.data = .dict es ep ∧ es.toList = xs.map (entryOfKey (nestedKind P w))
/-- the dict at a, its rows as they stand -/
def NDO (P : Program) (w : World) (a : Addr) (xs : List NRow) : HO := .ext (NDraw P w a xs)
abbrev NK (K : PySem.W.Frag) (H : Hp) : List (NestedKey × V) → List NRow → Prop := Paired fun p q => p.1 = q.1 ∧ Ky K H (.ref q.2.1) p.1 ∧ RelV p.2 q.2.2
/-- the dict at a: its keys and values, in order -/
def ND (P : Program) (w : World) (K : PySem.W.Frag) (H : Hp) (a : Addr) (kvs : List (NestedKey × V)) : Prop :=
  ∃ xs, H a = some (NDO P w a xs) ∧ NK K H kvs xs ∧ (a == sysModules) = false ∧ kvs.length ≤ sizeLine ∧ (kvs.map (·.1)).Nodup
theorem NK.tk {K : PySem.W.Frag} {H H' : Hp} (t : TK H H') {kvs : List (NestedKey × V)} {xs : List NRow} (h : NK K H kvs xs) : NK K H' kvs xs :=
  Paired.mapP h fun _ _ q => ⟨q.1, q.2.1.tk t, q.2.2⟩
theorem ND.keep {P : Program} {w : World} {K : PySem.W.Frag} {H H' : Hp} (t : TK H H') {a : Addr} (ha : H' a = H a) {kvs : List (NestedKey × V)} (h : ND P w K H a kvs) : ND P w K H' a kvs := by
  obtain ⟨xs, h1, h2, h3⟩ := h
  exact ⟨xs, by rw [ha]; exact h1, h2.tk t, h3⟩
theorem NK.keys {K : PySem.W.Frag} {H : Hp} {kvs : List (NestedKey × V)} {xs : List NRow} (h : NK K H kvs xs) : kvs.map (·.1) = xs.map (·.1) := by
  induction h with
  | nil => rfl
  | cons r t ih => rw [List.map_cons, List.map_cons, ih, r.1]
theorem NK.val {K : PySem.W.Frag} {H : Hp} {kvs : List (NestedKey × V)} {xs : List NRow} (r : NK K H kvs xs) (k : NestedKey) : RelO (valV kvs k) ((atKey xs k).map (·.2)) := by
  induction r with
  | nil => exact True.intro
  | @cons p q ps qs h t ih =>
    obtain ⟨h1, _, h2⟩ := h
    by_cases e : p.1 = k
    · have e' : q.1 = k := h1.symm.trans e
      have b : atKey (q :: qs) k = some q.2 := by simp [atKey, List.find?_cons, e']
      rw [valV_pos e, b]; exact h2
    · have e' : ¬ q.1 = k := fun z => e (h1.trans z)
      have b : atKey (q :: qs) k = atKey qs k := by simp [atKey, List.find?_cons, e']
      rw [valV_neg e, b]; exact ih
theorem NK.repl {K : PySem.W.Frag} {H : Hp} {kvs : List (NestedKey × V)} {xs : List NRow} (r : NK K H kvs xs) (k : NestedKey) {y : V} {u : Value} (ry : RelV y u) :
    NK K H (kvs.map fun kv => if kv.1 = k then (kv.1, y) else kv) (xs.map (putAt k u)) := by
  induction r with
  | nil => exact .nil
  | @cons p q ps qs h t ih =>
    rw [List.map_cons, List.map_cons]
    refine .cons ?_ ih
    obtain ⟨h1, h2, h3⟩ := h
    unfold putAt
    by_cases e : p.1 = k
    · rw [if_pos e, if_pos (h1.symm.trans e)]; exact ⟨h1, h2, ry⟩
    · rw [if_neg e, if_neg (fun z => e (h1.trans z))]; exact ⟨h1, h2, h3⟩
theorem NK.put {K : PySem.W.Frag} {H : Hp} {kvs : List (NestedKey × V)} {xs : List NRow} (r : NK K H kvs xs) (k : NestedKey) {b : Addr} {y : V} {u : Value} (hb : Ky K H (.ref b) k) (ry : RelV y u) :
    NK K H (putK kvs k y) (storedH xs k b u) := by
  have e : (kvs.any fun kv => decide (kv.1 = k)) = (atKey xs k).isSome := by
    rw [valV_any, (r.val k).isSome_eq, Option.isSome_map]
  unfold putK storedH
  rw [e]
  by_cases q : (atKey xs k).isSome = true
  · rw [if_pos q, if_pos q]; exact r.repl k ry
  · rw [if_neg q, if_neg q]; exact Paired.snoc r ⟨rfl, hb, ry⟩
theorem putK_keys {kvs : List (NestedKey × V)} {k : NestedKey} {y : V} (nd : (kvs.map (·.1)).Nodup) : ((putK kvs k y).map (·.1)).Nodup := by
  unfold putK
  split
  · rw [List.map_map]
    have e : (Prod.fst ∘ fun kv : NestedKey × V => if kv.1 = k then (kv.1, y) else kv) = Prod.fst := by
      funext kv
      show (if kv.1 = k then (kv.1, y) else kv).1 = kv.1
      split <;> rfl
    rw [e]; exact nd
  · rename_i c
    rw [List.map_append, List.nodup_append]
    refine ⟨nd, by simp, fun a ha b hb e => c ?_⟩
    have hb : b = k := by simpa using hb
    subst hb; subst e
    obtain ⟨p, hp, e⟩ := List.mem_map.mp ha
    exact List.any_eq_true.mpr ⟨p, hp, decide_eq_true e⟩

section
variable {X : Cx} {pins : List (Addr × Obj)} {σ : L2.St} {H : Hp} {s : Shared} {a : Addr} {kvs : List (NestedKey × V)} {A : Around} {E : Value → Shared → Prop}
theorem ndo_ok {P : Program} {w : World} {H : Hp} {h : Heap} {a : Addr} {xs : List NRow} (x : NDraw P w a xs h) : ObjOk P w H h a (NDO P w a xs) :=
  ⟨x, (let ⟨o, _, _, e, _⟩ := x; ⟨o, e⟩), fun _ _ y k => let ⟨o, es, ep, e, r⟩ := y; ⟨o, es, ep, k o e, r⟩⟩
theorem key_is (I : Inv X pins σ H s) {b : Addr} {k : NestedKey} (h : Ky X.K H (.ref b) k) : (nestedKind X.prog X.w).is s.heap k b := ⟨nested_of I k _ _ h.1.ok h.2.2 rfl, h.1.dep⟩
theorem nd_of (I : Inv X pins σ H s) {xs : List NRow} (e : H a = some (NDO X.prog X.w a xs)) (r : NK X.K H kvs xs) (nd : (kvs.map (·.1)).Nodup) : s.heap.DictOfH (nestedKind X.prog X.w) a xs := by
  obtain ⟨o, es, ep, h1, h2, h3, h4⟩ := (show ObjOk X.prog X.w H s.heap a (NDO X.prog X.w a xs) from I.hok a _ e).1
  refine ⟨o, es, ep, h1, h2, h3, h4, fun x hx => ?_, by rw [← r.keys]; exact nd⟩
  have all : ∀ {l : List (NestedKey × V)} {m : List NRow}, NK X.K H l m → ∀ x ∈ m, (nestedKind X.prog X.w).is s.heap x.1 x.2.1 := by
    intro l m q
    induction q with
    | nil => intro x hx; exact nomatch hx
    | @cons p q ps qs hq t ih =>
      intro x hx
      rcases List.mem_cons.mp hx with e | hx
      · subst e
        exact key_is I (by rw [← hq.1]; exact hq.2.1)
      · exact ih x hx
  exact all r x hx
theorem room8 {A : Around} (h : A.units + 64 < cLine) (hk : A.in1.units = A.units + 1) : (nestedKind X.prog X.w).room A.in1 := by
  show A.in1.units + 8 < cLine
  omega
end
section
variable {X : Cx}
theorem in1u (A : Around) : A.in1.units = A.units + 1 := by simp [Around.in1_units]
/-- y in d, y not in d -/
def rNIn (P : Program) (w : World) (K : PySem.W.Frag) (neg : Bool) : R2 := fun x y H Q => ∃ k a kvs, Ky K H x k ∧ y = .ref a ∧ ND P w K H a kvs ∧ Q (.bl (if neg = true then !(valV kvs k).isSome else (valV kvs k).isSome)) H
theorem op_nin (hu : X.A.units + 64 < cLine) : OpR X (compareOp .In) (rNIn X.prog X.w X.K false) := by
  intro pins s σ H x y v u Q I rx ry h
  obtain ⟨k, a, kvs, hk, rfl, ⟨xs, e, r, hd, hz, nd⟩, q⟩ := h
  obtain ⟨b, rfl⟩ := hk.2.1
  cases rx; cases ry
  refine wpAny_in_heap (room8 (X := X) hu (in1u _)) (key_is I hk) hd (nd_of I e r nd) ⟨.bl (atKey xs k).isSome, H, I.tok _, rfl, ?_⟩
  have e2 := (r.val k).isSome_eq
  rw [Option.isSome_map] at e2
  rw [← e2]; exact q
theorem op_nnotin (hu : X.A.units + 64 < cLine) : OpR X (compareOp .NotIn) (rNIn X.prog X.w X.K true) := by
  intro pins s σ H x y v u Q I rx ry h
  obtain ⟨k, a, kvs, hk, rfl, ⟨xs, e, r, hd, hz, nd⟩, q⟩ := h
  obtain ⟨b, rfl⟩ := hk.2.1
  cases rx; cases ry
  refine wpAny_notIn_heap (room8 (X := X) hu (in1u _)) (key_is I hk) hd (nd_of I e r nd) ⟨.bl (!(atKey xs k).isSome), H, I.tok _, rfl, ?_⟩
  have e2 := (r.val k).isSome_eq
  rw [Option.isSome_map] at e2
  rw [← e2]; exact q
/-- {} -/
def tNNew (P : Program) (w : World) (K : PySem.W.Frag) : TE := fun _ H Q => ∀ p H', H p = none → (∀ b, b ≠ p → H' b = H b) → ND P w K H' p [] → Q (.ref p) H'
theorem nd_empty {P : Program} {w : World} (h : Heap) : NDraw P w h.objs.size [] (h.push { cls := .type "dict", data := .dict #[] }) := ⟨_, #[], 0, Heap.get?_push_size _ rfl, ⟨rfl, rfl, rfl⟩, rfl, rfl⟩
theorem pe_nnew {pos : Pos} : PE X (.Dict [] [] pos) (tNNew X.prog X.w X.K) := ⟨fun pins s σ H Q I h => by
  have hn := I.hok.fresh (Nat.le_refl s.heap.objs.size)
  have hm : (s.heap.objs.size == sysModules) = false := beq_eq_false_iff_ne.mpr (Nat.ne_of_gt I.big)
  refine wpAny_Dict_empty ?_
  exact ⟨.ref _, _, I.laid (t' := s.toks) (o := NDO X.prog X.w s.heap.objs.size []) (fun b u e => Heap.get?_push_of_some _ e) (Nat.le_refl _) (ndo_ok (nd_empty _)), rfl,
    h _ _ hn (fun b hb => upd_ne hb) ⟨[], upd_same, .nil, hm, Nat.zero_le _, List.nodup_nil⟩⟩⟩
end
section
variable {X : Cx} {pins : List (Addr × Obj)} {σ : L2.St} {H : Hp} {s : Shared} {a b : Addr} {kvs : List (NestedKey × V)} {k : NestedKey} {v : V} {r : Value}
/-- behind a store -/
theorem nd_put {h' : Heap} {tk : Nat} {xs : List NRow} (I : Inv X pins σ H s) (hk : Ky X.K H (.ref b) k) (e : H a = some (NDO X.prog X.w a xs)) (rr : NK X.K H kvs xs) (hd : (a == sysModules) = false) (nd : (kvs.map (·.1)).Nodup)
    (hl : kvs.length < sizeLine) (rv : RelV v r) (hm : h'.DictOfH (nestedKind X.prog X.w) a (storedH xs k b r)) (hs : Heap.SameBut a s.heap h') :
    ∃ H4, Inv X pins σ H4 { s with heap := h', toks := tk } ∧ (∀ c, c ≠ a → H4 c = H c) ∧ TK H H4 ∧ ND X.prog X.w X.K H4 a (putK kvs k v) := by
  obtain ⟨o, es, ep, h1, h2, h3, h4, _, _⟩ := hm
  have tk1 : TK H (L2.upd H a (NDO X.prog X.w a (storedH xs k b r))) := TK.upd e (fun _ z => nomatch z) (fun _ _ z => nomatch z)
  refine ⟨L2.upd H a (NDO X.prog X.w a (storedH xs k b r)), d_write I (by rw [e]; exact True.intro) hs ⟨o, h1⟩ (ndo_ok ⟨o, es, ep, h1, h2, h3, h4⟩), fun c hc => upd_ne hc, tk1, ?_⟩
  refine ⟨_, upd_same, (rr.put k hk rv).tk tk1, hd, ?_, putK_keys nd⟩
  have := length_putK kvs k v
  omega
/-- what follows a store: the dict has got it -/
def NPut (P : Program) (w : World) (K : PySem.W.Frag) (H : Hp) (a : Addr) (kvs : List (NestedKey × V)) (k : NestedKey) (v : V) (R : Hp → Prop) : Prop :=
  kvs.length < sizeLine ∧ ∀ H4, (∀ c, c ≠ a → H4 c = H c) → TK H H4 → ND P w K H4 a (putK kvs k v) → R H4
theorem n_setItem {A : Around} {E : Value → Shared → Prop} {Q : Unit → Shared → Prop} {R : Hp → Prop} (hu : A.units + 64 < cLine) (I : Inv X pins σ H s) (hk : Ky X.K H (.ref b) k) (n : ND X.prog X.w X.K H a kvs) (rv : RelV v r) (q : NPut X.prog X.w X.K H a kvs k v R)
    (h : ∀ H4 s', Inv X pins σ H4 s' → R H4 → Q () s') : wpAny (model X.prog X.w) A (setItem (.ref a) (.ref b) r) Q E s := by
  obtain ⟨xs, e, rr, hd, hz, nd⟩ := n
  have hz2 : xs.length ≤ sizeLine := by rw [← Paired.length rr]; exact hz
  refine wpAny_setItem_heap (hsz := hz2) (room8 (X := X) hu (in1u _)) (key_is I hk) (nd_of I e rr nd) fun h' hm hs => ?_
  obtain ⟨H4, I4, g1, g2, g3⟩ := nd_put (tk := s.toks + (nestedKind X.prog X.w).draws k) I hk e rr hd nd q.1 rv hm hs
  exact h H4 _ I4 (q.2 H4 g1 g2 g3)
theorem n_dictSet {A : Around} {E : Value → Shared → Prop} {Q : Unit → Shared → Prop} {R : Hp → Prop} (hu : A.units + 64 < cLine) (I : Inv X pins σ H s) (hk : Ky X.K H (.ref b) k) (n : ND X.prog X.w X.K H a kvs) (rv : RelV v r) (q : NPut X.prog X.w X.K H a kvs k v R)
    (h : ∀ H4 s', Inv X pins σ H4 s' → R H4 → Q () s') : wpAny (model X.prog X.w) A (dictSet a (.ref b) r) Q E s := by
  obtain ⟨xs, e, rr, hd, hz, nd⟩ := n
  have hz2 : xs.length ≤ sizeLine := by rw [← Paired.length rr]; exact hz
  refine wpAny_dictSet_heap (hsz := hz2) (show (nestedKind X.prog X.w).room A from by show A.units + 8 < cLine; omega) (key_is I hk) (nd_of I e rr nd) fun h' hm hs => ?_
  obtain ⟨H4, I4, g1, g2, g3⟩ := nd_put (tk := s.toks + (nestedKind X.prog X.w).draws k) I hk e rr hd nd q.1 rv hm hs
  exact h H4 _ I4 (q.2 H4 g1 g2 g3)
theorem nd_typeIs (I : Inv X pins σ H s) (n : ND X.prog X.w X.K H a kvs) : s.TypeIs (.ref a) "dict" ∧ ∀ c, Value.ref a = .ref c → ∃ ob, s.heap.get? c = some ob ∧ ob.dict = none := by
  obtain ⟨xs, e, rr, hd, hz, nd⟩ := n
  obtain ⟨o, es, ep, h1, h2, _⟩ := nd_of I e rr nd
  exact ⟨⟨o, h1, h2.1⟩, fun c q => by cases q; exact ⟨o, h1, h2.2.1⟩⟩
end
section
variable {X : Cx} {o i e f value : Expr} {pos pos' tpos apos cpos : Pos} {td ty tx tv : TE}
/-- d[y] -/
def tNGet (P : Program) (w : World) (K : PySem.W.Frag) (td ty : TE) : TE := fun σ H Q => td σ H fun x H1 => ty σ H1 fun y H2 => ∃ a k kvs v, x = .ref a ∧ Ky K H2 y k ∧ ND P w K H2 a kvs ∧ valV kvs k = some v ∧ Q v H2
theorem pe_nget (hu : X.A.units + 64 < cLine) (ho : PE X o td) (hi : PE X i ty) (hs : NoSl i) : PE X (.Subscript o i pos) (tNGet X.prog X.w X.K td ty) := by
  refine ⟨fun pins s σ H Q I h => ?_⟩
  refine subD_of PySem.F.slot_dict_getitem.lookup hs (thn (ho.run pins s σ H _ I h) fun u s1 ⟨x, H1, I1, rx, q1⟩ => thn (hi.run pins s1 σ H1 _ I1 q1) fun iv s2 ⟨y, H2, I2, ry, a, k, kvs, v, ex, hk, n, hv, q2⟩ => ?_)
  subst ex
  obtain rfl : u = Value.ref a := rx
  obtain ⟨b, rfl⟩ := hk.2.1
  cases ry
  refine ⟨(nd_typeIs I2 n).1, ?_⟩
  obtain ⟨xs, e, rr, hd, hz, nd⟩ := n
  have q := rr.val k
  rw [hv] at q
  obtain ⟨w', hw, rw'⟩ : ∃ w', (atKey xs k).map (·.2) = some w' ∧ RelV v w' := by
    cases q0 : (atKey xs k).map (·.2) with
    | none => rw [q0] at q; exact (show False from q).elim
    | some w' => rw [q0] at q; exact ⟨w', rfl, q⟩
  obtain ⟨p, hp, hp2⟩ := Option.map_eq_some_iff.mp hw
  refine wpAny_getItem_heap (room8 (X := X) hu (in1u _)) (key_is I2 hk) (nd_of I2 e rr nd) hp ?_
  rw [hp2]
  exact ⟨v, H2, I2.tok _, rw', q2⟩
/-- d.get(y, z) -/
def tNGet2 (P : Program) (w : World) (K : PySem.W.Frag) (td ty tx : TE) : TE := fun σ H Q => td σ H fun x H1 => ∃ a, x = .ref a ∧ (∃ kvs, ND P w K H1 a kvs) ∧ ty σ H1 fun y H2 => tx σ H2 fun z H3 =>
  ∃ k kvs, Ky K H3 y k ∧ ND P w K H3 a kvs ∧ Q ((valV kvs k).getD z) H3
theorem pe_nget2 (hu : X.A.units + 64 < cLine) (ho : PE X o td) (he : PE X e ty) (hf : PE X f tx) (m : M2 X o "get" apos e f cpos) : PE X (.Call (.Attribute o "get" apos) [e, f] [] cpos) (tNGet2 X.prog X.w X.K td ty tx) := by
  refine ⟨fun pins s σ H Q I h => ?_⟩
  refine wpAny_Call_method m.base m.few m.line PySem.F.plainAttrs_dict PySem.F.slot_dict_get PySem.F.type_dict_get (thn (ho.run pins s σ H _ I h) fun u s1 ⟨x, H1, I1, rx, a, ex, ⟨kv1, n1⟩, q1⟩ => ?_)
  subst ex
  obtain rfl : u = Value.ref a := rx
  obtain ⟨t1, t2⟩ := nd_typeIs I1 n1
  refine ⟨t1, t2, ?_⟩
  rw [m.trees]
  refine Calls.callWith_builtin rfl (Calls.evalArgs_plain (Calls.spliced_cons (thn (he.run pins s1 σ H1 _ I1 q1) fun iv s2 ⟨y, H2, I2, ry, q2⟩ =>
    Calls.spliced_cons (thn (hf.run pins s2 σ H2 _ I2 q2) fun fv s3 ⟨z, H3, I3, rz, k, kvs, hk, n, q3⟩ => Calls.spliced_nil ?_))))
  obtain ⟨b, rfl⟩ := hk.2.1
  cases ry
  obtain ⟨xs, e, rr, hd, hz, nd⟩ := n
  have dd := nd_of I3 e rr nd
  refine call_meetsIn PySem.F.slot_dict_get dd.typeIs PySem.F.entry_dict_get (PySem.F.args_dict_get_3 _ _ _) (meetsH_dict_get_default (nestedKind X.prog X.w) a b hd fv) ⟨room8 (X := X) hu (in1u _), k, xs, key_is I3 hk, dd, ?_⟩
  exact ⟨(valV kvs k).getD z, H3, I3.tok _, (rr.val k).getD rz, q3⟩
/-- d.setdefault(y, z) -/
def tNSetd (P : Program) (w : World) (K : PySem.W.Frag) (td ty tx : TE) : TE := fun σ H Q => td σ H fun x H1 => ∃ a, x = .ref a ∧ (∃ kvs, ND P w K H1 a kvs) ∧ ty σ H1 fun y H2 => tx σ H2 fun z H3 =>
  ∃ k kvs, Ky K H3 y k ∧ ND P w K H3 a kvs ∧ (∀ v, valV kvs k = some v → Q v H3) ∧ (valV kvs k = none → NPut P w K H3 a kvs k z (Q z))
theorem pe_nsetd (hu : X.A.units + 64 < cLine) (ho : PE X o td) (he : PE X e ty) (hf : PE X f tx) (m : M2 X o "setdefault" apos e f cpos) : PE X (.Call (.Attribute o "setdefault" apos) [e, f] [] cpos) (tNSetd X.prog X.w X.K td ty tx) := by
  refine ⟨fun pins s σ H Q I h => ?_⟩
  refine wpAny_Call_method m.base m.few m.line PySem.F.plainAttrs_dict PySem.F.slot_dict_setdefault PySem.F.type_dict_setdefault (thn (ho.run pins s σ H _ I h) fun u s1 ⟨x, H1, I1, rx, a, ex, ⟨kv1, n1⟩, q1⟩ => ?_)
  subst ex
  obtain rfl : u = Value.ref a := rx
  obtain ⟨t1, t2⟩ := nd_typeIs I1 n1
  refine ⟨t1, t2, ?_⟩
  rw [m.trees]
  refine Calls.callWith_builtin rfl (Calls.evalArgs_plain (Calls.spliced_cons (thn (he.run pins s1 σ H1 _ I1 q1) fun iv s2 ⟨y, H2, I2, ry, q2⟩ =>
    Calls.spliced_cons (thn (hf.run pins s2 σ H2 _ I2 q2) fun fv s3 ⟨z, H3, I3, rz, k, kvs, hk, n, q3, q4⟩ => Calls.spliced_nil ?_))))
  obtain ⟨b, rfl⟩ := hk.2.1
  cases ry
  obtain ⟨xs, e, rr, hd, hz, nd⟩ := n
  have hz2 : xs.length ≤ sizeLine := by rw [← Paired.length rr]; exact hz
  refine call_setdefault_heap (hsz := hz2) (room8 (X := X) hu (in1u _)) (key_is I3 hk) hd (nd_of I3 e rr nd) (fun p hp => ?_) fun hn h' hm hs => ?_
  · have q := rr.val k
    rw [hp] at q
    cases q0 : valV kvs k with
    | none => rw [q0] at q; exact (show False from q).elim
    | some v0 =>
      rw [q0] at q
      exact ⟨v0, H3, I3.tok _, q, q3 v0 q0⟩
  · have q := rr.val k
    rw [hn] at q
    have q0 : valV kvs k = none := by
      cases q0 : valV kvs k with
      | none => rfl
      | some v0 => rw [q0] at q; exact (show False from q).elim
    obtain ⟨hl, q5⟩ := q4 q0
    obtain ⟨H4, I4, g1, g2, g3⟩ := nd_put (tk := s3.toks + (nestedKind X.prog X.w).draws k) I3 hk e rr hd nd hl rz hm hs
    exact ⟨z, H4, I4, rz, q5 H4 g1 g2 g3⟩
/-- d[y] = v -/
def sNPut (P : Program) (w : World) (K : PySem.W.Frag) (td ty tv : TE) : TS := fun D σ H => tv σ H fun v H1 => td σ H1 fun x H2 => ty σ H2 fun y H3 => ∃ a k kvs, x = .ref a ∧ Ky K H3 y k ∧ ND P w K H3 a kvs ∧ NPut P w K H3 a kvs k v (D.nx σ)
theorem ps_nput (hu : X.A.units + 64 < cLine) (ho : PE X o td) (hi : PE X i ty) (hv : PE X value tv) (hs : swapsWith value (some (.Subscript o i pos')) pos.line X.env = pure false) :
    PS X (.Assign [.Subscript o i pos'] value pos) (sNPut X.prog X.w X.K td ty tv) := by
  refine ⟨fun pins s σ H D I h => ?_⟩
  refine wpAny_Assign_Subscript (thn (hv.run pins s σ H _ I h) fun r s1 ⟨v, H1, I1, rv, q1⟩ => thn (ho.run pins s1 σ H1 _ I1 q1) fun u s2 ⟨x, H2, I2, rx, q2⟩ => thn (hi.run pins s2 σ H2 _ I2 q2) fun iv s3 ⟨y, H3, I3, ry, a, k, kvs, ex, hk, n, q3⟩ => ?_) hs
  subst ex
  obtain rfl : u = Value.ref a := rx
  obtain ⟨b, rfl⟩ := hk.2.1
  cases ry
  exact n_setItem hu I3 hk n rv q3 fun H4 s4 I4 q4 => ⟨σ, H4, I4, q4⟩
end

/-! ### the keys walked -/
/-- the locked dict's rows, their keys' own tuples -/
def ItN (P : Program) (w : World) (d : Addr) (o : Obj) (xs : List NRow) : It :=
  ⟨fun i H => H d = some (.frz o (NDO P w d xs)) ∧ i < xs.length, fun i H x H' => H' = H ∧ ∃ r, xs[i]? = some r ∧ x = .ref r.2.1, fun i H => H d = some (.frz o (NDO P w d xs)) ∧ xs.length ≤ i⟩
section
variable {P : Program} {w : World} {K : PySem.W.Frag} {tg : Expr} {d : Addr} {o : Obj} {es : Array DictEntry} {ep : Nat} {xs : List NRow}
theorem frzN {X : Cx} {pins : List (Addr × Obj)} {σ : L2.St} {H : Hp} {s : Shared} (I : Inv X pins σ H s) (h : H d = some (.frz o (NDO X.prog X.w d xs))) :
    s.heap.get? d = some o ∧ o.ExactDict ∧ ∃ (es : Array DictEntry) (ep : Nat), o.data = .dict es ep ∧ es.toList = xs.map (entryOfKey (nestedKind X.prog X.w)) := by
  obtain ⟨hd, ⟨o', es, ep, ho, hx, hdt, he⟩, _⟩ := I.hok d _ h
  rw [hd] at ho
  cases ho
  exact ⟨hd, hx, es, ep, hdt, he⟩
theorem turn_nkeys (it : Addr) (hod : o.data = .dict es ep) : Turn P w K tg (ItN P w d o xs) [it] it (fun i h => h.IsKeyIter it d i xs.length ep) where
  mem := by simp
  obj := fun i h st b hb => by
    have e : b = it := by simpa using hb
    subst e
    obtain ⟨oi, e, c, dd⟩ := st
    exact ⟨oi, e, fun v z => by rw [dd] at z; cases z⟩
  keep := fun i h h' st k => st.at fun oi e => k it (by simp) oi e
  item := by
    intro X hP hw hK hc i pins s σ H E I hf st hg
    subst hP hw hK
    obtain ⟨hd, hi⟩ := hg
    obtain ⟨f0, f1, f2, f3, f4, f5⟩ := hf it (by simp)
    obtain ⟨hgd, hx, es', ep', hdt, he⟩ := frzN I hd
    obtain ⟨rfl, rfl⟩ := dict_ep hod hdt
    have hr : xs[i]? = some xs[i] := List.getElem?_eq_getElem hi
    have hen := entry_at he i
    rw [hr] at hen
    refine next_key_item st hgd hdt (size_of_entries he) hen fun h' st' sb => ?_
    have I1 : Inv X pins σ H { s with heap := h' } := I.turned (t' := s.toks) (fun b ob hb e => (sb.2 b hb).trans e) f0 f1 f3 f4 f5
    obtain ⟨oi, e, c, dd⟩ := id st'
    exact ⟨_, rfl, go_of (s := { s with heap := h' }) e c dd (by decide) ⟨.ref xs[i].2.1, H, I1, rfl, ⟨rfl, _, hr, rfl⟩, st', fun b hb => (hf b hb).1⟩⟩
  done := by
    intro X hP hw hK hc i pins s σ H E I hf st hg
    subst hP hw hK
    obtain ⟨hd, hi⟩ := hg
    obtain ⟨f0, f1, f2, f3, f4, f5⟩ := hf it (by simp)
    obtain ⟨hgd, hx, es', ep', hdt, he⟩ := frzN I hd
    obtain ⟨rfl, rfl⟩ := dict_ep hod hdt
    exact next_key_end (I.ok.hd hc) st hgd hdt (size_of_entries he) hi fun h' eb => ⟨rfl, I.turned (t' := s.toks) (fun b ob hb e => eb b ob hb e) f0 f1 f3 f4 f5⟩
  self := fun A i s Q E st h => wpAny_pyIter_keyiter st h
end
/-- for y in d, the dict locked -/
def iNKeys (P : Program) (w : World) (td : TE) : TI := fun σ H R => td σ H fun x H1 => ∃ d o xs, x = .ref d ∧ (d == sysModules) = false ∧ H1 d = some (.frz o (NDO P w d xs)) ∧ R (ItN P w d o xs) H1
theorem pi_nkeys {X : Cx} {tg e : Expr} {td : TE} (he : PE X e td) : PI X tg e (iNKeys X.prog X.w td) := by
  refine ⟨fun pins s σ H R I h => ?_⟩
  refine thn (he.run pins s σ H _ I h) fun u s1 ⟨x, H1, I1, rx, d, o, xs, ex, hsy, hd, q⟩ => ?_
  subst ex
  obtain rfl : u = Value.ref d := rx
  obtain ⟨hgd, hx, es, ep, hdt, hes⟩ := frzN I1 hd
  refine iter_keys hsy hgd hx hdt (pi_one (tk := s1.toks) I1 _ (turn_nkeys _ hdt) ⟨_, Heap.get?_push_size _ rfl, rfl, ?_⟩ q)
  rw [size_of_entries hes] <;> rfl
theorem walk_nkeys {P : Program} {w : World} {d : Addr} {o : Obj} {xs : List NRow} : Walk (ItN P w d o xs) xs.length (fun H => H d = some (.frz o (NDO P w d xs))) (YAt (xs.map fun r => V.ref r.2.1)) := by
  refine ⟨fun _ _ hi q => ⟨q, hi⟩, fun _ q => ⟨q, Nat.le_refl _⟩, fun i H x H' _ _ y => ?_⟩
  obtain ⟨e, r, hr, rfl⟩ := y
  exact ⟨e, by rw [List.getElem?_map, hr]; rfl⟩
end VN

/-! A rule of this proof's own: {k: v for x in .. if ..} with tuple keys of any depth. -/
namespace VN
open PySem PySem.Spec PyProof.Rows L2
section
variable {X : Cx}
/-- D the new dict; W by the turn and a measure -/
def tNc (P : Program) (w : World) (K : PySem.W.Frag) (wi : TI) (g : TG) (tt : TT) (tk tv : TE) (vs : List Nat) : TE := fun σ H Q => wi σ H fun J H1 => ∀ D H0, H1 D = none → (∀ b, b ≠ D → H0 b = H1 b) → ND P w K H0 D [] →
  ∃ W : Nat → Nat → Hp → Prop, (∃ m, W 0 m H0) ∧ ∀ i m H, W i m H →
  (J.stop i H ∧ Q (.ref D) H) ∨ (J.go i H ∧ ∃ Nx : Hp → Prop, (∀ H', Nx H' → ∃ m', m' < m ∧ W (i + 1) m' H') ∧ ∀ x H', J.yld i H x H' → g x (wipe σ vs) H' fun σ2 H2 => wipe σ2 vs = wipe σ vs ∧ tt σ2 H2 fun b H3 =>
    if b = true then tk σ2 H3 fun y H4 => tv σ2 H4 fun z H5 => ∃ kvs k, Ky K H5 y k ∧ ND P w K H5 D kvs ∧ NPut P w K H5 D kvs k z Nx else Nx H3)
theorem nc_core {pins : List (Addr × Obj)} {s : Shared} {σ : L2.St} {H : Hp} {Q : VK} {kx vx tg iter : Expr} {ifs : List Expr} {scope : Scope} {own : List (Str × Nat)} {pos pos' : Pos} {wi : TI} {g : TG} {tt : TT} {tk tv : TE} {use : Option (Value → Sem Unit)} {Qf : Value → Shared → Prop}
    (hu : X.A.units + 64 < cLine) (hc : X.calm = true) (hN : X.N.Nodup) (I : Inv X pins σ H s) (hi : PI X tg iter wi) (ok : BlkOk X.N X.env.scope scope own)
    (hg : ∀ (s : Shared) (H : Hp) (C : Addr) (cl : List (Str × Addr)) (fp : List Addr), PG (X.blk s H scope (compEnvC scope cl C X.env) fp) tg g)
    (ht : ∀ (s : Shared) (H : Hp) (C : Addr) (cl : List (Str × Addr)) (fp : List Addr), PTs (X.blk s H scope (compEnvC scope cl C X.env) fp) ifs tt)
    (hk : ∀ (s : Shared) (H : Hp) (C : Addr) (cl : List (Str × Addr)) (fp : List Addr), PE (X.blk s H scope (compEnvC scope cl C X.env) fp) kx tk)
    (he : ∀ (s : Shared) (H : Hp) (C : Addr) (cl : List (Str × Addr)) (fp : List Addr), PE (X.blk s H scope (compEnvC scope cl C X.env) fp) vx tv)
    (hs : ∀ x, foldedSetIterable iter X.env x = pure x) (h : tNc X.prog X.w X.K wi g tt tk tv (own.map (·.2)) σ H Q)
    (fin : ∀ D C s' m H', Inv X pins σ H' s' → Q (.ref D) H' → s'.heap.Ns C m → FpOk X pins H' C → compPost (model X.prog X.w) X.A X.xe use Qf (.ref D) C (.ok .next) s') :
    wpAny (model X.prog X.w) X.A (comprehension (.DictComp kx vx [⟨tg, iter, ifs, 0⟩] scope pos) scope X.env pos' newDict false (eval iter X.env) use) Qf X.xe s := by
  -- names that the block takes from around have their cells
  have frees : ∀ y ∈ scope.names, y.2 = .free → ∃ c, X.env.cells.lookup y.1 = some c := fun y hy e =>
    (ok.free y hy e).elim (fun k => I.ok.has _ (.inl k)) (fun k => I.ok.has _ (.inr k))
  refine wpAny_comprehension_free (use := use) rfl hs (closure_ok frees) ok.kind (fun y hy e => by rw [ok.uniq y hy, e]) ?_
  refine thn (hi.run pins s σ H _ I h) fun xv s1 hx => thn hx fun itv sI got => ?_
  obtain ⟨it, fp, tn, J, HI, ev, II, T, stI, fI, q⟩ := got
  subst ev
  refine wpAny_newObj_type (newEnv_comp ?_)
  -- the new dict
  obtain ⟨D, hD⟩ : ∃ D, sI.heap.objs.size = D := ⟨_, rfl⟩
  have noD : HI D = none := II.hok.fresh (Nat.le_of_eq hD)
  obtain ⟨HD, hHD⟩ : ∃ HD, L2.upd HI D (NDO X.prog X.w D []) = HD := ⟨_, rfl⟩
  have ndD : ND X.prog X.w X.K HD D [] := ⟨[], by rw [← hHD]; exact upd_same, .nil, beq_eq_false_iff_ne.mpr (by rw [← hD]; exact Nat.ne_of_gt II.big), Nat.zero_le _, List.nodup_nil⟩
  obtain ⟨W, ⟨m0, w0⟩, turn⟩ := q D HD noD (fun b hb => by rw [← hHD]; exact upd_ne hb) ndD
  obtain ⟨sD, hsD⟩ : ∃ sD : Shared, ({ sI with heap := sI.heap.push { cls := .type "dict", data := .dict #[] } } : Shared) = sD := ⟨_, rfl⟩
  have hp : sD.heap = sI.heap.push { cls := .type "dict", data := .dict #[] } := by rw [← hsD]
  have ID : Inv X pins σ HD sD := by
    rw [← hsD, ← hHD]
    refine II.laid (t' := sI.toks) (fun b o e => Heap.get?_push_of_some _ e) (Nat.le_of_eq hD) ?_
    rw [← hD]
    exact ndo_ok (nd_empty _)
  rw [hsD]
  have fD : ∀ b ∈ fp, FpOk X pins HD b ∧ b < sD.heap.objs.size := fun b hb => by
    obtain ⟨o, e, _⟩ := T.obj _ _ stI b hb
    have lt := Heap.lt_size e
    refine ⟨⟨?_, (fI b hb).2⟩, by rw [hp, Heap.size_push]; exact Nat.lt_succ_of_lt lt⟩
    rw [← hHD, upd_ne (by rw [← hD]; exact Nat.ne_of_lt lt)]
    exact (fI b hb).1
  have stD : tn 0 sD.heap := T.keep _ _ _ stI fun b _ o e => by rw [hp]; exact Heap.get?_push_of_some _ e
  -- the block's context
  have IB0 := block_start ID ok hN fD
  have pg := hg sD HD sD.heap.objs.size (cellsFrom (sD.heap.objs.size + 1) scope.names (cloFrom X.env.cells scope.names [])) fp
  have pt := ht sD HD sD.heap.objs.size (cellsFrom (sD.heap.objs.size + 1) scope.names (cloFrom X.env.cells scope.names [])) fp
  have pk := hk sD HD sD.heap.objs.size (cellsFrom (sD.heap.objs.size + 1) scope.names (cloFrom X.env.cells scope.names [])) fp
  have pe := he sD HD sD.heap.objs.size (cellsFrom (sD.heap.objs.size + 1) scope.names (cloFrom X.env.cells scope.names [])) fp
  rw [hD]
  show codeAny _ _ (.compStart _ 0 (.ref it) (.ref D) (compEnvC scope (cellsFrom (sD.heap.objs.size + 1) scope.names (cloFrom X.env.cells scope.names [])) sD.heap.objs.size X.env))
    (compPost (model X.prog X.w) X.A X.xe use Qf (.ref D) sD.heap.objs.size) { sD with heap := pushCells (sD.heap.push { cls := .type "dict", data := .dict #[] }) scope.names }
  generalize hce : compEnvC scope (cellsFrom (sD.heap.objs.size + 1) scope.names (cloFrom X.env.cells scope.names [])) sD.heap.objs.size X.env = ce at IB0 pg pt pk pe ⊢
  have cL : ce.locals = sD.heap.objs.size := by subst hce; rfl
  generalize hs4 : ({ sD with heap := pushCells (sD.heap.push { cls := .type "dict", data := .dict #[] }) scope.names } : Shared) = sB at IB0 ⊢
  have stB : tn 0 sB.heap := T.keep _ _ _ stD fun b _ o e => by rw [← hs4]; exact pushCells_keeps _ _ _ _ (Heap.get?_push_of_some _ e)
  have nofp : ∀ b ∈ fp, HD b = none := fun b hb => (fD b hb).1.1
  have fB : ∀ {σ' : L2.St} {H' : Hp} {s' : Shared}, Inv (X.blk sD HD scope ce fp) [] σ' H' s' → (∀ b ∈ fp, H' b = none) → ∀ b ∈ fp, FpOk (X.blk sD HD scope ce fp) [] H' b := fun {σ' H' s'} I' hn b hb =>
    ⟨hn b hb, (I'.ok.exf b hb).1, I'.ok.exfs b hb, .inl hb, fun x c e => (I'.ok.exf b hb).2 x c e, fun p hp => absurd (show p ∈ ([] : List (Addr × Obj)) ++ [] from hp) (by simp)⟩
  have loop : codeAny (model X.prog X.w) X.A (.compLoop (.DictComp kx vx [⟨tg, iter, ifs, 0⟩] scope pos) 0 (.ref it) (.ref D) ce) (compPost (model X.prog X.w) X.A X.xe use Qf (.ref D) sD.heap.objs.size) sB := by
    refine compLoop_anyD (fun n s' => ∃ i H', Inv (X.blk sD HD scope ce fp) [] (wipe σ (own.map (·.2))) H' s' ∧ tn i s'.heap ∧ (∀ b ∈ fp, H' b = none) ∧ W i n H') ?_ m0 ⟨0, HD, IB0, stB, nofp, w0⟩
    rintro n s5 ⟨i, H5, I5, st5, n5, w5⟩
    rcases turn i n H5 w5 with ⟨stop, last⟩ | ⟨go, Nx, less, step⟩
    · refine thnF (T.done (X.blk sD HD scope ce fp) rfl rfl rfl hc i [] s5 _ H5 (fun _ _ => False) I5 (fB I5 n5) st5 stop) fun r s6 ⟨hr, I6⟩ => ?_
      subst hr
      -- back in the def's own context
      have I7 : Inv X pins σ H5 s6 := ID.call' (ch := fp) I6.os I6.base I6.hok I6.bare fun b hb => ⟨(fD b hb).1.2.2.2.1, (fD b hb).1.2.1, (fD b hb).1.2.2.2.2.1, (fD b hb).1.2.2.2.2.2⟩
      have noC : H5 sD.heap.objs.size = none := by rw [← cL]; exact I6.free
      obtain ⟨m, hn, _⟩ := I6.loc
      have hn : s6.heap.Ns ce.locals m := hn
      rw [cL] at hn
      exact fin D sD.heap.objs.size s6 m H5 I7 last hn (ID.fpOk (Nat.le_refl _) noC)
    · refine thnF (T.item (X.blk sD HD scope ce fp) rfl rfl rfl hc i [] s5 _ H5 (fun _ _ => False) I5 (fB I5 n5) st5 go) fun r s6 ⟨u, hr, h6⟩ => ?_
      subst hr
      refine thnF h6 fun _ s7 ⟨x, H7, I7, r7, y7, st7, n7⟩ => ?_
      have P7 := I7.pinned (fB I7 n7) (T.obj _ _ st7)
      refine thnF (pg.run _ s7 _ H7 x u _ P7 r7 (step x H7 y7)) fun _ s8 ⟨σ8, H8, I8, same8, q8⟩ => ?_
      refine thnF (pt.run _ s8 σ8 H8 _ I8 q8) fun b s9 ⟨H9, I9, q9⟩ => ?_
      -- a turn is over
      have over : ∀ {s' : Shared} {H' : Hp}, Inv (X.blk sD HD scope ce fp) ([] ++ pinsAt fp s7.heap) σ8 H' s' → Nx H' →
          ∃ m, m < n ∧ ∃ i H', Inv (X.blk sD HD scope ce fp) [] (wipe σ (own.map (·.2))) H' s' ∧ tn i s'.heap ∧ (∀ b ∈ fp, H' b = none) ∧ W i m H' := fun {s' H'} I' nx => by
        obtain ⟨m', lt, w'⟩ := less H' nx
        have pinned : ∀ b ∈ fp, ∀ o, s7.heap.get? b = some o → s'.heap.get? b = some o ∧ H' b = none := fun b hb o e =>
          (fun z => ⟨z.1, z.2.1⟩) (I'.pin (b, o) (List.mem_append_right _ (List.mem_append_right _ (mem_pinsAt hb e))))
        have len8 : (wipe σ (own.map (·.2))).length = σ8.length := by rw [← same8, wipe_length]
        refine ⟨m', lt, i + 1, H', (I'.unpinned (pins := [])).weak len8 (fun j v e => ?_), T.keep _ _ _ st7 fun b hb o e => (pinned b hb o e).1, fun b hb => ?_, w'⟩
        · rw [← same8] at e
          exact (wipe_some e).1
        · obtain ⟨o, e, _⟩ := T.obj _ _ st7 b hb
          exact (pinned b hb o e).2
      cases b with
      | false =>
        simp only [Bool.false_eq_true, if_false] at q9 ⊢
        exact over I9 q9
      | true =>
        simp only [if_true] at q9 ⊢
        refine thnF (pk.run _ s9 σ8 H9 _ I9 q9) fun z s10 ⟨yk, H10, I10, r10, q10⟩ => ?_
        refine thnF (pe.run _ s10 σ8 H10 _ I10 q10) fun z2 s11 ⟨yv, H11, I11, r11, kvs, k, hk11, n11, p11⟩ => ?_
        obtain ⟨c, rfl⟩ := hk11.2.1
        cases r10
        exact n_dictSet (X := X.blk sD HD scope ce fp) hu I11 hk11 n11 r11 p11 fun H12 s12 I12 nx => over I12 nx
  exact codeAny_compStart_dict loop (T.self X.A 0 _ _ _ stB loop)
theorem pe_nc {kx vx tg iter : Expr} {ifs : List Expr} {scope : Scope} {own : List (Str × Nat)} {pos : Pos} {wi : TI} {g : TG} {tt : TT} {tk tv : TE} (hu : X.A.units + 64 < cLine) (hc : X.calm = true) (hN : X.N.Nodup) (hi : PI X tg iter wi) (ok : BlkOk X.N X.env.scope scope own)
    (hg : ∀ (s : Shared) (H : Hp) (C : Addr) (cl : List (Str × Addr)) (fp : List Addr), PG (X.blk s H scope (compEnvC scope cl C X.env) fp) tg g)
    (ht : ∀ (s : Shared) (H : Hp) (C : Addr) (cl : List (Str × Addr)) (fp : List Addr), PTs (X.blk s H scope (compEnvC scope cl C X.env) fp) ifs tt)
    (hk : ∀ (s : Shared) (H : Hp) (C : Addr) (cl : List (Str × Addr)) (fp : List Addr), PE (X.blk s H scope (compEnvC scope cl C X.env) fp) kx tk)
    (he : ∀ (s : Shared) (H : Hp) (C : Addr) (cl : List (Str × Addr)) (fp : List Addr), PE (X.blk s H scope (compEnvC scope cl C X.env) fp) vx tv) (hs : ∀ x, foldedSetIterable iter X.env x = pure x := by intro _; rfl) :
    PE X (.DictComp kx vx [⟨tg, iter, ifs, 0⟩] scope pos) (tNc X.prog X.w X.K wi g tt tk tv (own.map (·.2))) := by
  refine ⟨fun pins s σ H Q I h => ?_⟩
  rw [arm_eval_DictComp]
  refine nc_core hu hc hN I hi ok hg ht hk he hs h fun D C s' m H' I' q hn f => ⟨m, hn, fun h'' sb => ?_⟩
  obtain ⟨f0, f1, f2, f3, f4, f5⟩ := f
  exact ⟨.ref D, H', I'.turned (t' := s'.toks) (fun b o hb e => (sb.2 b hb).trans e) f0 f1 f3 f4 f5, rfl, q⟩
end
end VN

/-! Rules of this proof's own: sorted(d.items()) of a dict with text keys, whatever its values. -/
namespace VN
open PySem PySem.Spec PyProof.Rows L2

/-- texts in their order -/
def ltS (x y : Str) : Bool := decide (x.cps.toList < y.cps.toList)
theorem ltS_irr (x : Str) : ltS x x = false := decide_eq_false (List.lt_irrefl _)
theorem ltS_asym {x y : Str} (h : ltS x y = true) : ltS y x = false := by
  have h1 : x.cps.toList < y.cps.toList := of_decide_eq_true h
  exact decide_eq_false fun h2 => List.lt_irrefl _ (List.lt_trans h1 h2)
theorem ltS_tr {x y z : Str} (h1 : ltS y x = false) (h2 : ltS z y = false) : ltS z x = false := by
  have a : x.cps.toList ≤ y.cps.toList := List.not_lt.mp (of_decide_eq_false h1)
  have b : y.cps.toList ≤ z.cps.toList := List.not_lt.mp (of_decide_eq_false h2)
  exact decide_eq_false (List.not_lt.mpr (List.le_trans a b))
theorem ltS_eq {x y : Str} (h1 : ltS x y = false) (h2 : ltS y x = false) : x = y := by
  have a : y.cps.toList ≤ x.cps.toList := List.not_lt.mp (of_decide_eq_false h1)
  have b : x.cps.toList ≤ y.cps.toList := List.not_lt.mp (of_decide_eq_false h2)
  have e : x.cps.toList = y.cps.toList := List.le_antisymm b a
  have hc : x.cps = y.cps := Array.toList_inj.mp e
  cases x; cases y
  simp only [Str.mk.injEq]
  exact hc
theorem swo_by (f : Value → Str) : SrtO.Swo fun v u => ltS (f v) (f u) := ⟨fun _ _ h => ltS_asym h, fun _ _ _ h1 h2 => ltS_tr h1 h2⟩

section
variable {prog : Program} {w : World} {A : Around} {E : Value → Shared → Prop} {s : Shared}
theorem eqBool_self {v : Value} {Q : Bool → Shared → Prop} (h : Q true s) : wpAny (model prog w) A (eqBool v v) Q E s := by
  unfold eqBool
  refine wpAny_holding ?_
  rw [if_pos (by simp)]
  exact wpAny_bind (wpAny_rule (wpAny_pure h))
/-- v is a pair at an address: a text, something -/
def PairAt (h : Heap) (v : Value) (x : Str) (t : Tok) (u : Value) : Prop := ∃ a o n, v = .ref a ∧ h.get? a = some o ∧ o.cls = .type "tuple" ∧ o.data = .seq #[.str x t, u] n
theorem PairAt.keep {h h' : Heap} {v : Value} {x : Str} {t : Tok} {u : Value} (p : PairAt h v x t u) (k : ∀ b o, h.get? b = some o → o.cls = .type "tuple" → h'.get? b = some o) : PairAt h' v x t u := by
  obtain ⟨a, o, n, e, ho, hc, hd⟩ := p
  exact ⟨a, o, n, e, k _ _ ho hc, hc, hd⟩
theorem pairs_firsts {h : Heap} : ∀ {vs : List Value}, (∀ v ∈ vs, ∃ x t u, PairAt h v x t u) → ∃ fs, PySem.W.KatTups h vs fs ∧ fs.length = vs.length ∧ ∀ f ∈ fs, ∃ x t, f = Value.str x t
  | [], _ => ⟨[], PySem.W.KatTups.nil, rfl, fun f hf => nomatch hf⟩
  | v :: vs, hp => by
    obtain ⟨fs, h1, h2, h3⟩ := pairs_firsts fun u hu => hp u (List.mem_cons_of_mem _ hu)
    obtain ⟨x, t, u, a, o, n, rfl, ho, hc, hd⟩ := hp v List.mem_cons_self
    refine ⟨.str x t :: fs, PySem.W.KatTups.cons ho hc hd rfl h1, by rw [List.length_cons, List.length_cons, h2], fun f hf => ?_⟩
    rcases List.mem_cons.mp hf with rfl | hf
    · exact ⟨x, t, rfl⟩
    · exact h3 f hf
/-- pairs of different texts may be sorted, f says the text -/
theorem pairs_sortable {a : Addr} {vs : List Value} {f : Value → Str} (h0 : 0 < vs.length) (hp : ∀ v ∈ vs, ∃ t u, PairAt s.heap v (f v) t u) (ha : ∀ o, s.heap.get? a = some o → o.cls ≠ .type "tuple")
    (hd : ∀ v ∈ vs, ∀ u ∈ vs, f v = f u → v = u) : SrtO.SortableO prog w A s a vs fun v u => ltS (f v) (f u) := by
  intro h' keep
  have hp' : ∀ v ∈ vs, ∃ t u, PairAt h' v (f v) t u := fun v hv => by
    obtain ⟨t, u, p⟩ := hp v hv
    exact ⟨t, u, p.keep fun b o e c => keep b o (fun z => by subst z; exact ha o e c) e⟩
  obtain ⟨fs, h1, h2, h3⟩ := pairs_firsts fun v hv => (fun ⟨t, u, p⟩ => ⟨f v, t, u, p⟩) (hp' v hv)
  refine ⟨tuples' true, fun Q E hq => ?_, ?_⟩
  · refine PySem.W.kat_kind (T := .type "str") h1 (by omega) (fun g hg => ?_) (by rfl) ?_
    · obtain ⟨x, t, rfl⟩ := h3 g hg
      exact PySem.W.Looks.now
    · have e : (Value.type "str" != Value.type "tuple") = true := by first | decide +kernel | rfl | decide
      rw [e]
      exact hq
  · intro p q mp mq
    obtain ⟨t, u, a1, o1, n1, e1, g1, c1, d1⟩ := hp' _ mp
    obtain ⟨t', u', a2, o2, n2, e2, g2, c2, d2⟩ := hp' _ mq
    show wpAny (model prog w) A (keyLt' (tuples' true) p.1 q.1) (fun r s' => s' = { s with heap := h' } ∧ r = ltS (f p.1) (f q.1)) (fun _ _ => False) { s with heap := h' }
    by_cases c : f p.1 = f q.1
    · have epq : p.1 = q.1 := hd _ mp _ mq c
      rw [← epq, ltS_irr, e1]
      refine PySem.W.kat_lt g1 d1 g1 d1 ?_
      show PySem.W.KatLex prog w A true (decide (2 < 2)) _ [(.str (f p.1) t, .str (f p.1) t), (u, u)] 0 _
      refine PySem.W.kat_cons (eqBool_self ?_)
      refine PySem.W.kat_yes (PySem.W.kat_cons (eqBool_self ?_))
      exact PySem.W.kat_yes (PySem.W.kat_nil ⟨rfl, rfl⟩)
    · have hr : ltS (f p.1) (f q.1) = ltS (f p.1) (f q.1) := rfl
      generalize f p.1 = x at d1 c hr ⊢
      generalize f q.1 = y at d2 c hr ⊢
      rw [e1, e2]
      refine PySem.W.kat_lt g1 d1 g2 d2 ?_
      show PySem.W.KatLex prog w A true (decide (2 < 2)) _ [(.str x t, .str y t'), (u, u')] 0 _
      refine PySem.W.kat_cons (SeqAt.EqAt.str_str x t y t' prog w _ _ ?_)
      have ne : (x == y) = false := beq_eq_false_iff_ne.mpr c
      rw [ne]
      exact PySem.W.kat_no (oneLt_str ⟨rfl, rfl⟩)
end

/-! ### sorted(d.items()) -/
abbrev kvS (e : Str × V) : Key × V := (Sum.inr e.1, e.2)
def tSortItems (td : TE) : TE := fun σ H Q => td σ H fun x H1 => ∃ d kvs, x = .ref d ∧ H1 d = some (.dK (kvs.map kvS)) ∧ kvs.length ≤ 1000 ∧
  ∀ (H' : Hp) (l : Addr) (ps : List (Addr × Str × V)), Same H1 H' → H1 l = none → (ps.map (·.2)).Perm kvs → (ps.map (·.2)).Pairwise (fun e f => ltS f.1 e.1 = false) → H' l = some (.lst (ps.map fun z => V.ref z.1)) →
    (∀ z ∈ ps, H' z.1 = some (.tup [.str z.2.1, z.2.2])) → Q (.ref l) H'
section
variable {X : Cx} {e : Expr} {td : TE} {p apos cpos pos : Pos}
theorem pe_sortItems (hc : X.calm = true) (he : PE X e td) (hg : Gl X "sorted") (hm : X.mg "sorted" = none) (hv : bootBuiltins "sorted" = some (.builtin "sorted")) (hbase : attributeBase e "items" X.env (eval e X.env) = eval e X.env := by rfl) (hline : (apos.endLine == cpos.line) = true := by rfl)
    (hs : starEach [.Call (.Attribute e "items" apos) [] [] cpos] X.env = (false, eval (.Call (.Attribute e "items" apos) [] [] cpos) X.env) :: starEach [] X.env := by rfl) :
    PE X (.Call (.Name "sorted" p) [.Call (.Attribute e "items" apos) [] [] cpos] [] pos) (tSortItems td) := by
  refine ⟨fun pins s σ H Q I hq => ?_⟩
  refine wpAny_Call_Name_kw (ld_blt I hg hm hv ?_)
  refine PyProof.Rows.callWith_builtin1 ?_ hs rfl
  rw [hs]
  show wpAny _ _ (spliced ((false, eval (.Call (.Attribute e "items" apos) [] [] cpos) X.env) :: backTo pos (starEach [] X.env))) _ _ s
  refine Calls.spliced_cons ?_
  refine wpAny_Call_method (T := "dict") (id := "dict.items") hbase rfl hline F.plainAttrs_dict F.slot_dict_items F.type_dict_items (thn (he.run pins s σ H _ I hq) fun u s1 ⟨x, H1, I1, rx, d, kvs, ex, hd, hlen, q⟩ => ?_)
  subst ex
  obtain rfl : u = Value.ref d := rx
  obtain ⟨hz, hs0, vs, kv, hdo⟩ := I1.hok d _ hd
  obtain ⟨ep, hat⟩ := id hdo.dictAt
  obtain ⟨o, es, ho, hx, hdat, hk, hpr, hnd⟩ := id hat
  have lk : kvs.length = vs.length := by rw [← List.length_map (f := kvS)]; exact Paired.length kv
  refine ⟨hdo.typeIs, hdo.mapOf.noDict, ?_⟩
  refine Calls.callWith_builtin rfl (PySem.evalArgs_none ?_)
  refine DT.callItems (es := es) (ep := ep) hs0 ⟨o, ho, hx, hdat⟩ ?_
  refine Calls.spliced_nil ?_
  have hh : X.A.handled = none := I1.ok.hd hc
  have les : es.size = vs.length := by
    have := hpr.length
    rw [Array.length_toList] at this
    exact this
  refine DT.sortedI (d := d) (es := es) (ep := ep) hh ⟨_, Heap.get?_push_size _ rfl, rfl, rfl⟩ ⟨o, Heap.get?_push_of_some _ ho, hx, hdat⟩ (by rw [sizeLine_eq]; omega) fun h' tk as hk' hlt hl hG => ?_
  -- the pairs that were made
  have made : ∀ (j : Nat) (b : Addr), as[j]? = some b → ∃ n v t u, kvs[j]? = some (n, v) ∧ RelV v u ∧ h'.get? b = some { cls := .type "tuple", data := .seq #[Value.str n t, u] } := by
    intro j b hj
    obtain ⟨en, hen, hg⟩ := hG.pairs j b hj
    have hjl : j < kvs.length := by
      have := (List.getElem?_eq_some_iff.mp hj).1
      omega
    obtain ⟨⟨n, v⟩, hnv⟩ : ∃ e, kvs[j]? = some e := ⟨_, List.getElem?_eq_getElem hjl⟩
    obtain ⟨y, hy, e1, e2⟩ := LiI.paired_get kv (i := j) (x := kvS (n, v)) (by rw [List.getElem?_map, hnv]; rfl)
    obtain ⟨k1, k2⟩ := hpr.get? (i := j) (e := en) (k := y.1) (v := y.2) (by rw [Array.getElem?_toList]; exact hen) hy
    have k1 : keyIs y.1 en.key = true := k1
    rw [← e1] at k1
    obtain ⟨t, ht⟩ := Value.isStrOf_shape (x := n) (v := en.key) k1
    refine ⟨n, v, t, y.2, hnv, e2, ?_⟩
    rw [hg, ht, k2]
  have ndn : (kvs.map (·.1)).Nodup := by
    have h1 : (vs.map (·.1)) = (kvs.map (·.1)).map Sum.inr := by
      have := KV.keys kv
      rw [← this, List.map_map, List.map_map]
      rfl
    rw [h1] at hnd
    exact List.Pairwise.of_map _ (fun _ _ ne e => ne (congrArg _ e)) hnd
  have lak : as.length = kvs.length := by omega
  have nda : as.Nodup := List.Pairwise.imp (fun h => Nat.ne_of_lt h) hG.rise
  -- the list that is sorted
  have hob : (h'.push { cls := .type "list", data := .seq (as.map Value.ref).toArray }).get? h'.objs.size = some (seqObj "list" (as.map Value.ref).toArray 0) := Heap.get?_push_size _ rfl
  have kb : ∀ b o, s1.heap.get? b = some o → (h'.push { cls := .type "list", data := .seq (as.map Value.ref).toArray }).get? b = some o := fun b o e => Heap.get?_push_of_some _ (hk' b o (Heap.get?_push_of_some _ e))
  have ne0 : ∀ b o, h'.get? b = some o → b ≠ h'.objs.size := fun b o e => Nat.ne_of_lt (Heap.lt_size e)
  generalize hh2 : h'.push { cls := .type "list", data := .seq (as.map Value.ref).toArray } = h2 at hob kb ⊢
  have ka : ∀ b o, h'.get? b = some o → h2.get? b = some o := fun b o e => by rw [← hh2]; exact Heap.get?_push_of_some _ e
  obtain ⟨f, hf⟩ : ∃ f : Value → Str, f = fun v => DT.txOf (DT.seqAt0 h2 (DT.refOf (some v))) := ⟨_, rfl⟩
  have name : ∀ (j : Nat) (b : Addr) n v, as[j]? = some b → kvs[j]? = some (n, v) → f (.ref b) = n ∧ ∃ t u, PairAt h2 (.ref b) n t u ∧ RelV v u := by
    intro j b n v hj hn
    obtain ⟨n', v', t, u, h1, h3, h4⟩ := made j b hj
    rw [hn] at h1
    cases h1
    refine ⟨?_, t, u, ⟨b, _, 0, rfl, ka _ _ h4, rfl, rfl⟩, h3⟩
    rw [hf]
    show DT.txOf (DT.seqAt0 h2 b) = n
    rw [DT.seqAt0_of (items := #[Value.str n t, u]) ⟨_, ka _ _ h4, rfl, 0, rfl⟩]
    rfl
  have atv : ∀ v ∈ as.map Value.ref, ∃ (j : Nat) (b : Addr) (e : Str × V), v = .ref b ∧ as[j]? = some b ∧ kvs[j]? = some e := by
    intro v hv'
    obtain ⟨b, hb, rfl⟩ := List.mem_map.mp hv'
    obtain ⟨j, hj⟩ := List.mem_iff_getElem?.mp hb
    obtain ⟨n, v, _, _, h1, _⟩ := made j b hj
    exact ⟨j, b, (n, v), rfl, hj, h1⟩
  refine wpAny_call_entry PyProof.Rows.slot_list_sort ⟨_, hob, rfl⟩ PyProof.Rows.entry_list_sort
    (SrtO.list_sort_ord (ltv := fun v u => ltS (f v) (f u)) (s := { s1 with heap := h2, toks := tk }) (swo_by f) hob (by rw [List.length_map, sizeLine_eq]; omega) (fun h2' => ?_) fun out o1 o2 => ⟨.none, rfl, ?_⟩) (PyProof.Rows.args_list_sort _)
  · refine pairs_sortable (by omega) (fun v hv' => ?_) (fun o e => ?_) fun v hv' u hu' e => ?_
    · obtain ⟨j, b, ⟨n, x⟩, rfl, hj, he⟩ := atv v hv'
      obtain ⟨g1, t, u, g2, _⟩ := name j b n x hj he
      rw [g1]
      exact ⟨t, u, g2⟩
    · have e' : some o = some (seqObj "list" (as.map Value.ref).toArray 0) := e.symm.trans hob
      cases e'
      intro c
      exact absurd (Value.type.inj c) (by decide)
    · obtain ⟨j, b, ⟨n, x⟩, rfl, hj, he⟩ := atv v hv'
      obtain ⟨j2, b2, ⟨n2, x2⟩, rfl, hj2, he2⟩ := atv u hu'
      rw [(name j b n x hj he).1, (name j2 b2 n2 x2 hj2 he2).1] at e
      subst e
      have l1 : (kvs.map (·.1))[j]? = some n := by rw [List.getElem?_map, he]; rfl
      have l2 : (kvs.map (·.1))[j2]? = some n := by rw [List.getElem?_map, he2]; rfl
      have ej : j = j2 := (List.getElem?_inj (List.getElem?_eq_some_iff.mp l1).1 ndn).mp (l1.trans l2.symm)
      subst ej
      rw [hj] at hj2
      cases hj2
      rfl
  · show EP X pins σ Q (.ref h'.objs.size) { s1 with heap := sortedHeap h2 h'.objs.size (as.map Value.ref) out.toArray, toks := tk }
    have zself : (as.zip kvs).map (fun z => Value.ref z.1) = as.map Value.ref := by
      have m1 : (as.zip kvs).map Prod.fst = as := List.map_fst_zip (by omega)
      conv => rhs; rw [← m1, List.map_map]
      rfl
    obtain ⟨zs, pz, ez⟩ := perm_lift (fun z : Addr × Str × V => Value.ref z.1) o2.perm (as.zip kvs) zself
    have idx : ∀ z ∈ zs, ∃ j : Nat, as[j]? = some z.1 ∧ kvs[j]? = some z.2 := by
      intro z' hz'
      obtain ⟨j, hj⟩ := List.mem_iff_getElem?.mp (pz.mem_iff.mp hz')
      exact ⟨j, List.getElem?_zip_eq_some.mp hj⟩
    have hperm : (zs.map (·.2)).Perm kvs := by
      have e := pz.map (·.2)
      have m2 : (as.zip kvs).map (·.2) = kvs := List.map_snd_zip (by omega)
      rw [m2] at e
      exact e
    have hsort : (zs.map (·.2)).Pairwise (fun e g => ltS g.1 e.1 = false) := by
      have o1' := o1
      rw [← ez] at o1'
      have o1' := List.pairwise_map.mp o1'
      rw [List.pairwise_map]
      refine List.Pairwise.imp_of_mem (fun {x y} hx hy h => ?_) o1'
      obtain ⟨j, j1, j2⟩ := idx x hx
      obtain ⟨i, i1, i2⟩ := idx y hy
      have h : ltS (f (.ref y.1)) (f (.ref x.1)) = false := h
      rw [(name j x.1 x.2.1 x.2.2 j1 j2).1, (name i y.1 y.2.1 y.2.2 i1 i2).1] at h
      exact h
    have kF : ∀ b o, b ≠ h'.objs.size → h2.get? b = some o → (sortedHeap h2 h'.objs.size (as.map Value.ref) out.toArray).get? b = some o := fun b o hb e => (PyProof.Rows.sortedHeap_old hb (Heap.lt_size e)).trans e
    have kS : ∀ b o, s1.heap.get? b = some o → (sortedHeap h2 h'.objs.size (as.map Value.ref) out.toArray).get? b = some o := fun b o e => kF b o (ne0 _ _ (hk' b o (Heap.get?_push_of_some _ e))) (kb b o e)
    obtain ⟨eF, heF⟩ := PyProof.Rows.sortedHeap_at (vs := as.map Value.ref) (out := out.toArray) hob
    have sz1 : s1.heap.objs.size < h'.objs.size := by
      have : s1.heap.objs.size + 1 < h'.objs.size := by rw [← Heap.size_push]; exact hlt
      omega
    have J1 : Inv X pins σ H1 { s1 with heap := sortedHeap h2 h'.objs.size (as.map Value.ref) out.toArray, toks := tk } := I1.kept (t' := tk) kS
    have hn0 : H1 h'.objs.size = none := I1.hok.fresh (Nat.le_of_lt sz1)
    have hlen2 : (zs.map fun z => V.ref z.1).length ≤ sizeLine := by
      have e := hperm.length_eq
      rw [List.length_map] at e
      rw [List.length_map, sizeLine_eq]
      omega
    have rv : Vals (zs.map fun z => V.ref z.1) out.toArray.toList := by
      rw [List.toList_toArray, ← ez]
      exact vals_maps (fun z : Addr × Str × V => V.ref z.1) (fun z => Value.ref z.1) zs fun _ _ => rfl
    have J2 : Inv X pins σ (L2.upd H1 h'.objs.size (.lst (zs.map fun z => V.ref z.1))) { s1 with heap := sortedHeap h2 h'.objs.size (as.map Value.ref) out.toArray, toks := tk } :=
      J1.take (h' := sortedHeap h2 h'.objs.size (as.map Value.ref) out.toArray) (t' := tk) (fun b ob _ e => e) (I1.fpOk (Nat.le_of_lt sz1) hn0) ⟨hlen2, out.toArray.toList, eF, rv, by rw [Array.toArray_toList]; exact heF⟩
    obtain ⟨H2, J3, g, qt⟩ := L2.DX.takeT (P := fun b vs => ∃ (j : Nat) (e : Str × V), as[j]? = some b ∧ kvs[j]? = some e ∧ vs = [.str e.1, e.2]) I1 as _ J2 nda fun b hb => by
      obtain ⟨j, hj⟩ := List.mem_iff_getElem?.mp hb
      obtain ⟨n, v, t, u, hn, hr, hg'⟩ := made j b hj
      have hbl : s1.heap.objs.size ≤ b := Nat.le_of_lt (Nat.lt_trans (by rw [Heap.size_push]; exact Nat.lt_succ_self _) (hG.above b hb))
      refine ⟨hbl, ?_, [.str n, v], ⟨j, (n, v), hj, hn, rfl⟩, fun H3 => ⟨(by rw [sizeLine_eq]; show 2 ≤ 16777216; omega), [Value.str n t, u], .cons ⟨t, rfl⟩ (.cons hr .nil), ⟨_, kF _ _ (ne0 _ _ hg') (ka _ _ hg'), rfl, 0, rfl⟩⟩⟩
      rw [upd_ne (ne0 _ _ hg')]
      exact I1.hok.fresh hbl
    have gr : Same H1 H2 := fun b o e => g b o (by rw [upd_ne (ne_of_none e hn0)]; exact e)
    refine ⟨.ref h'.objs.size, H2, J3, rfl, q H2 h'.objs.size zs gr hn0 hperm hsort (g _ _ upd_same) fun z' hz' => ?_⟩
    obtain ⟨i, i1, i2⟩ := idx z' hz'
    obtain ⟨vs', ⟨j, e, j1, j2, ev⟩, hH⟩ := qt z'.1 (List.mem_of_getElem? i1)
    have eij : i = j := (List.getElem?_inj (List.getElem?_eq_some_iff.mp i1).1 nda).mp (i1.trans j1.symm)
    subst eij
    have ee : e = z'.2 := Option.some.inj (j2.symm.trans i2)
    rw [ev, ee] at hH
    exact hH
end
end VN

/-! Rules of this proof's own: sorted(set(xs)), xs a list of different texts. -/
namespace VN
open PySem PySem.Spec PyProof.Rows L2 PySem.Froz

/-- the set at a holds the texts l (each once), its table can be walked -/
def TxSet (P : Program) (w : World) (h : Heap) (a : Addr) (l : List Str) : Prop :=
  ∃ D : SD, h.get? a = some (sObj "set" D) ∧ TxOk P w D l ∧ Ris D.2.2.place.toList ∧ (w.params.followText "set-order" = true ∨ D.2.2.led = true)
theorem TxSet.at' {P : Program} {w : World} {h h' : Heap} {a : Addr} {l : List Str} (x : TxSet P w h a l) (k : ∀ o, h.get? a = some o → h'.get? a = some o) : TxSet P w h' a l :=
  let ⟨D, e, r⟩ := x; ⟨D, k _ e, r⟩
section
variable {P : Program} {w : World} {A : Around} {E : Value → Shared → Prop} {s : Shared}
theorem tail_ris {ep : Nat} {es : Array (Int × Value)} {t : SetTable} {wd : Bool} (r : Ris t.place.toList) : Ris (tailTx ep es t wd).2.2.place.toList ∧ (tailTx ep es t wd).2.2.led = t.led := by
  unfold tailTx
  split
  · exact ⟨relayAll_ris t es _, relayAll_led t es _⟩
  · exact ⟨r, rfl⟩
theorem addTx_ris {hs : Int} {v : Value} {D : SD} (r : Ris D.2.2.place.toList) : Ris (addTx hs v D).2.2.place.toList ∧ (addTx hs v D).2.2.led = D.2.2.led := by
  unfold addTx
  have q1 := layNew_ris D.2.2 D.1 hs v r
  have q2 := layNew_led D.2.2 D.1 hs v
  obtain ⟨a, b⟩ := tail_ris (ep := D.2.1) (es := (layNew D.2.2 D.1 hs v).1) (wd := (layNew D.2.2 D.1 hs v).2.2.1)
    (t := if (layNew D.2.2 D.1 hs v).2.1.plain = true then { (layNew D.2.2 D.1 hs v).2.1 with plain := false } else (layNew D.2.2 D.1 hs v).2.1) (by split <;> exact q1)
  refine ⟨a, b.trans ?_⟩
  split <;> exact q2
theorem txset_new {h : Heap} {a : Addr} (ho : h.get? a = some { cls := .type "set", dict := none, data := .set #[] 0 (.fresh 0 0 (!w.params.followText "set-order")) }) : TxSet P w h a [] := by
  refine ⟨(#[], 0, .fresh 0 0 (!w.params.followText "set-order")), ho, TxOk.nil (by rfl), List.Pairwise.nil, ?_⟩
  show _ ∨ (!w.params.followText "set-order") = true
  cases w.params.followText "set-order"
  · exact .inr rfl
  · exact .inl rfl
theorem txset_add {a : Addr} {l : List Str} {k : Str} {u : Tok} {Q : Bool → Shared → Prop} (x : TxSet P w s.heap a l) (hk : k ∉ l) (hb : l.length + 1 < scanBound)
    (h : ∀ h', Heap.SameBut a s.heap h' → TxSet P w h' a (k :: l) → Q true { s with heap := h' }) : wpAny (model P w) A (setAddHashed a (.str k u) (hashStr w k)) Q E s := by
  obtain ⟨D, ho, F, r, led⟩ := x
  obtain ⟨r2, l2⟩ := addTx_ris (hs := hashStr w k) (v := .str k u) r
  refine add_x ho F hk hb (h _ (Heap.SameBut.update ..) ⟨_, get_upd _ ho rfl, add_ok u F, r2, ?_⟩)
  rw [l2]; exact led

/-- set.update's loop -/
theorem set_update_txts {I : Addr} {fp wr : List Addr} {G : Array GenState → Array GenState → Prop} {n : Nat} {Pv : Nat → Value → Prop} {St : Nat → Shared → Prop} {R : Result → Shared → Prop}
    (W : WalksS P w A.in1 I fp wr G n Pv St) (S : Addr) (hSf : S ∉ fp) (ks : List Str) (hn : n = ks.length) (nd : ks.Nodup) (hfew : ks.length + 1 < scanBound) (hval : ∀ i v, Pv i v → ∃ k t, ks[i]? = some k ∧ v = .str k t) :
    ∀ (k i : Nat) (s : Shared), n - i = k → i ≤ n → St i s → TxSet P w s.heap S (ks.take i).reverse →
      (∀ s', Moved (S :: wr) G s s' → TxSet P w s'.heap S (ks.take n).reverse → R (.ok (.ret .none)) s') →
      codeAny (model P w) A (.builtin "set.update.loop" ⟨[.ref S, .ref I], []⟩) R s := by
  have hSw : S ∉ wr := fun h => hSf (W.sub _ h)
  have hsub : ∀ b ∈ wr, b ∈ S :: wr := fun b hb => List.mem_cons_of_mem _ hb
  intro k
  induction k with
  | zero =>
    intro i s hk' hi hst hS hR
    have hin : i = n := by omega
    subst hin
    refine codeAny_builtin F.entry_set_update_loop ?_
    rw [Around.under_plainId F.plain_set_update_loop _]
    show wpAny _ A.in1 (pyNext (.ref I) >>= _) _ _ s
    refine wpAny_bind (W.done s _ _ hst fun s' hm => ?_)
    show wpAny _ A.in1 (ret Value.none) _ _ s'
    exact wpAny_pure (hR s' (hm.mono hsub) (hS.at' fun o e => hm.heap S o hSw e))
  | succ k ih =>
    intro i s hk' hi hst hS hR
    have hlt : i < n := by omega
    refine codeAny_builtin F.entry_set_update_loop ?_
    rw [Around.under_plainId F.plain_set_update_loop _]
    show wpAny _ A.in1 (pyNext (.ref I) >>= _) _ _ s
    refine wpAny_bind (W.item i s _ _ hlt hst fun v s' hP hst' hm => ?_)
    obtain ⟨x, t, hx, rfl⟩ := hval i v hP
    have hS' : TxSet P w s'.heap S (ks.take i).reverse := hS.at' fun o e => hm.heap S o hSw e
    show wpAny _ A.in1 (holding [Value.str x t] (setAdd S (.str x t)) >>= _) _ _ s'
    refine wpAny_bind (wpAny_holding ?_)
    unfold setAdd
    refine wpAny_holding ?_
    refine wpAny_bind (wpAny_pyHash_str ?_)
    have tk1 : ks.take (i + 1) = ks.take i ++ [x] := by rw [List.take_succ, hx] <;> rfl
    have fresh : x ∉ (ks.take i).reverse := by
      rw [List.mem_reverse]
      intro hm'
      have nd1 : (ks.take (i + 1)).Nodup := List.Nodup.sublist (List.take_sublist _ _) nd
      rw [tk1, List.nodup_append] at nd1
      exact nd1.2.2 x hm' x (List.mem_singleton.mpr rfl) rfl
    refine txset_add (s := { s' with toks := s'.toks + 1 }) hS' fresh (by rw [List.length_reverse, List.length_take]; omega) fun h' hsb hS2 => ?_
    have e : x :: (ks.take i).reverse = (ks.take (i + 1)).reverse := by rw [tk1, List.reverse_append]; rfl
    rw [e] at hS2
    refine wpAny_pure ⟨plainId_quiet F.plain_set_update_loop _, ih (i + 1) _ (by omega) hlt (W.frame _ s' _ _ hst' (Nat.le_succ _) fun b hb o e => ?_) hS2 fun s'' hm'' hS'' => ?_⟩
    · rw [hsb.2 b (fun h : b = S => hSf (by rw [← h]; exact hb))]; exact e
    · refine hR s'' (Moved.trans W.gtrans ((hm.mono hsub).then_heap (Nat.le_succ _) fun b o hb e => ?_) hm'') hS''
      rw [hsb.2 b (fun h : b = S => hb (by rw [h]; exact List.mem_cons_self))]; exact e

/-- the items are these texts, each another -/
structure DiffTxts (items : Array Value) (ks : List Str) : Prop where
  sz : items.size = ks.length
  it : ∀ (i : Nat) (v : Value), items[i]? = some v → ∃ k t, ks[i]? = some k ∧ v = .str k t
  nd : ks.Nodup
  few : ks.length + 1 < scanBound
set_option maxHeartbeats 8000000 in
/-- set(xs), a list of different texts -/
theorem call_set_txts {l : Addr} {items : Array Value} (ks : List Str) {Q : Value → Shared → Prop} (hh : A.handled = none) (hl : s.heap.IsList l items) (hks : DiffTxts items ks)
    (h : ∀ (h' : Heap) (tk : Nat), TxSet P w h' s.heap.objs.size ks.reverse → (∀ b o, s.heap.get? b = some o → h'.get? b = some o) → Q (.ref s.heap.objs.size) { s with heap := h', toks := tk }) :
    wpAny (model P w) A (call (.type "set") [.ref l]) Q E s := by
  obtain ⟨c, tl, hmro⟩ := F.called_set.mro
  have hmade := F.called_set.made
  have hsub := F.called_set.sub
  refine wpAny_call (codeAny_of_tree ?_)
  show wpAny _ _ (callAny (.type "set") _) _ _ _
  refine wpAny_pure ⟨Code.quiet_builtin _ (by decide +kernel), codeAny_builtin F.entry_type_call ?_⟩
  rw [Around.under_plain (weight_type_call_type "set" [.ref l] []) rfl]
  have h1 := F.called_set.notType
  have h2 := F.called_set.canCreate
  have hct := F.typeCall_set_1 (.ref l)
  repeat (any_goals (first | assumption | wp_step))

  obtain ⟨g, hg⟩ : ∃ g : Heap, g = s.heap.push { cls := .type "set", dict := none, data := .set #[] 0 (.fresh 0 0 (!w.params.followText "set-order")) } := ⟨_, rfl⟩
  refine codeAny_mono (code_set_led1 (.ref l) (E := E) (Q₁ := fun obj s₁ => obj = .ref s.heap.objs.size ∧ s₁ = { s with heap := g }) ⟨rfl, by rw [hg]⟩) fun r s₁ hr => ?_
  cases r with
  | error e => exact hr
  | ok fl =>
    cases fl with
    | ret obj =>
      obtain ⟨rfl, rfl⟩ := hr
      have hS : g.get? s.heap.objs.size = some { cls := .type "set", dict := none, data := .set #[] 0 (.fresh 0 0 (!w.params.followText "set-order")) } := by rw [hg]; exact Heap.get?_push_size _ rfl
      have gk : ∀ b o, s.heap.get? b = some o → g.get? b = some o := fun b o e => by rw [hg]; exact Heap.get?_push_of_some _ e
      have gz : g.objs.size = s.heap.objs.size + 1 := by rw [hg]; exact Heap.size_push ..
      clear hg
      have hT : Shared.TypeIs { s with heap := g } (.ref s.heap.objs.size) "set" := ⟨_, hS, rfl⟩
      clear h1 h2 hct hmro
      have hli := F.called_set.init.lookup
      have hbi := F.called_set.init.bind (.ref s.heap.objs.size)
      repeat (any_goals (first | assumption | wp_step))

      refine codeAny_mono (codeAny_call_builtin (R := wants (fun r s₂ => r = .none ∧ ∃ h' tk, s₂ = { s with heap := h', toks := tk } ∧ TxSet P w h' s.heap.objs.size ks.reverse ∧
          (∀ b o, s.heap.get? b = some o → h'.get? b = some o)) E) F.called_set.init.plain F.entry_set_init (check_set_init_1 hT ?_)) fun r₂ s₂ hr₂ => ?_
      · obtain ⟨ol, hol, hcl, nl, hdl⟩ := hl
        obtain ⟨ocls, odict, odata, oslots⟩ := ol
        simp only at hcl hdl
        subst hcl; subst hdl
        have hol' : g.get? l = some { cls := .type "list", dict := odict, data := .seq items nl, slots := oslots } := gk _ _ hol
        have hsls := F.sub_list_set
        have hslf := F.sub_list_frozenset
        have hne : (Value.type "list" == Value.type "dict") = false := by decide
        have hl1 : g.IsList l items := ⟨_, hol', rfl, nl, rfl⟩
        clear hli hbi hmade hsub
        unfold Builtin.«set.__init__» noKeywords Builtin.Frozenset.updateFrom
        generalize hPI : pyIter = PI
        wp_walk
        subst hPI

        refine wpAny_pyIter_list hl1 ?_
        refine wpAny_bind (wpAny_runValue ?_)
        have hlS : l < s.heap.objs.size := Heap.lt_size hol
        have hh3 : A.in1.in1.in1.handled = none := by simp [hh]
        have hneI : l ≠ g.objs.size := by rw [gz]; exact Nat.ne_of_lt (Nat.lt_succ_of_lt hlS)
        have hSf : s.heap.objs.size ∉ [g.objs.size, l] := by
          rw [gz]; simp only [List.mem_cons, List.mem_singleton, List.not_mem_nil, or_false, not_or]
          exact ⟨Nat.ne_of_lt (Nat.lt_succ_self _), Nat.ne_of_gt hlS⟩
        refine set_update_txts ((Walks.list hh3 _ l hneI items).toS) s.heap.objs.size hSf ks hks.sz hks.nd hks.few hks.it (items.size - 0) 0 _ (by omega) (Nat.zero_le _)
          ⟨⟨_, Heap.get?_push_size _ rfl, rfl, rfl⟩, (hl1.push _)⟩ (txset_new (P := P) (Heap.get?_push_of_some _ hS)) fun s' hm hS' => ?_
        obtain ⟨h', g2, d', tk', os'⟩ := s'
        have eg : g2 = s.gens := hm.gens
        have ed : d' = s.drawn := hm.drawn
        have eo : os' = s.os := hm.os
        subst eg; subst ed; subst eo
        show wpAny _ _ _ _ _ _
        refine wpAny_pure ?_
        show wpAny _ _ (ret Value.none) _ _ _
        rw [hks.sz, List.take_length] at hS'
        refine wpAny_pure ⟨rfl, h', tk', rfl, hS', fun b o e => ?_⟩
        have hb0 : b < s.heap.objs.size := Heap.lt_size e
        have hb1 : b ≠ s.heap.objs.size := Nat.ne_of_lt hb0
        have hb2 : b ≠ g.objs.size := by rw [gz]; exact Nat.ne_of_lt (Nat.lt_succ_of_lt hb0)
        exact hm.heap b o (by simp only [List.mem_cons, List.mem_singleton, List.not_mem_nil, or_false, not_or]; exact ⟨hb1, hb2⟩) (Heap.get?_push_of_some _ (gk _ _ e))

      · cases r₂ with
        | error e => exact hr₂
        | ok fl₂ =>
          cases fl₂ with
          | ret r =>
            obtain ⟨rfl, h', tk, rfl, hS', hk'⟩ := hr₂
            repeat (any_goals (first | assumption | wp_step))
            exact h _ _ hS' hk'
          | _ => exact hr₂.elim
    | _ => exact hr.elim
end

/-! ### sorted of texts -/
section
variable {prog : Program} {w : World} {A : Around} {E : Value → Shared → Prop} {s : Shared}
def txV : Value → Str
  | .str x _ => x
  | _ => ⟨#[]⟩
theorem strs_are : ∀ {vs : List Value}, (∀ v ∈ vs, ∃ x t, v = Value.str x t) → StrsAre vs (vs.map txV)
  | [], _ => .nil
  | v :: vs, h => by
    obtain ⟨x, t, rfl⟩ := h v List.mem_cons_self
    exact .cons x t (strs_are fun u hu => h u (List.mem_cons_of_mem _ hu))
theorem strs_sortable {a : Addr} {vs : List Value} (h2 : 2 ≤ vs.length) (hp : ∀ v ∈ vs, ∃ x t, v = Value.str x t) : SrtO.SortableO prog w A s a vs fun v u => ltS (txV v) (txV u) := by
  intro h' _
  refine ⟨oneType', fun Q E hq => ?_, ?_⟩
  · match vs, strs_are hp, h2 with
    | v1 :: v2 :: rest, hS, _ =>
      rw [keyKind_strs hS]
      exact wpAny_pure hq
    | [], _, h => exact absurd h (by decide)
    | [v], _, h => exact absurd h (by simp)
  · intro p q mp mq
    obtain ⟨x, t, e⟩ := hp _ mp
    obtain ⟨y, u, e'⟩ := hp _ mq
    show wpAny (model prog w) A (keyLt' oneType' p.1 q.1) (fun r s' => s' = { s with heap := h' } ∧ r = ltS (txV p.1) (txV q.1)) (fun _ _ => False) { s with heap := h' }
    rw [e, e', keyLt'_oneType]
    exact oneLt_str ⟨rfl, rfl⟩
end
def TxO (P : Program) (w : World) (a : Addr) (l : List Str) : HO := .ext fun h => TxSet P w h a l
theorem txo_ok {P : Program} {w : World} {H : Hp} {h : Heap} {a : Addr} {l : List Str} (x : TxSet P w h a l) : ObjOk P w H h a (TxO P w a l) :=
  ⟨x, (let ⟨_, e, _⟩ := x; ⟨_, e⟩), fun _ _ y k => TxSet.at' y k⟩
section
variable {X : Cx}
/-- set(xs), different texts -/
def rSetTx (P : Program) (w : World) (K : PySem.W.Frag) : List V → Hp → VK → Prop := fun xs H Q => ∃ (a : Addr) (ks : List Str), xs = [V.ref a] ∧ SqL K H a (ks.map V.str) ∧ ks.Nodup ∧ ks.length ≤ 1000 ∧
  ∀ p, H p = none → Q (.ref p) (L2.upd H p (TxO P w p ks.reverse))
theorem vals_strs : ∀ {ks : List Str} {us : List Value}, Vals (ks.map V.str) us → ∀ (i : Nat) (v : Value), us[i]? = some v → ∃ k t, ks[i]? = some k ∧ v = .str k t
  | [], _, r, i, v, e => by rw [List.map_nil] at r; cases r; simp at e
  | k :: ks, _, r, 0, v, e => by
    rw [List.map_cons] at r
    cases r with
    | cons r1 r2 =>
      obtain ⟨t, rfl⟩ := r1
      simp only [List.getElem?_cons_zero, Option.some.injEq] at e
      subst e
      exact ⟨k, t, rfl, rfl⟩
  | k :: ks, _, r, i + 1, v, e => by
    rw [List.map_cons] at r
    cases r with
    | cons r1 r2 =>
      simp only [List.getElem?_cons_succ] at e ⊢
      exact vals_strs r2 i v e
theorem cr_setTx (hc : X.calm = true) : CallR X (.type "set") (rSetTx X.prog X.w X.K) := by
  intro pins s σ H xs us Q I r h
  obtain ⟨a, ks, rfl, hs, nd, hl, q⟩ := h
  rw [Vals.ref1 r]
  obtain ⟨its, rv, pl, hz⟩ := I.list hs
  have ln : its.length = ks.length := by rw [← rv.length, List.length_map]
  refine call_set_txts (P := X.prog) ks (I.ok.hd hc) pl.isList ⟨by simpa using ln, fun i v e => vals_strs rv i v (by simpa using e), nd, by unfold scanBound; omega⟩ fun h' tk hS hk => ?_
  exact ⟨.ref _, _, I.laid (t' := tk) (o := TxO X.prog X.w s.heap.objs.size ks.reverse) hk (Nat.le_refl _) (txo_ok hS), rfl, q _ (I.hok.fresh (Nat.le_refl _))⟩
/-- sorted(s), s such a set -/
def rSortTx (P : Program) (w : World) : List V → Hp → VK → Prop := fun xs H Q => ∃ (a : Addr) (l : List Str), xs = [V.ref a] ∧ H a = some (TxO P w a l) ∧ l.Nodup ∧ l.length ≤ 1000 ∧
  ∀ (ys : List Str) p, ys.Perm l → ys.Pairwise (fun x y => ltS y x = false) → H p = none → Q (.ref p) (L2.upd H p (.lst (ys.map V.str)))
theorem perm_cover : ∀ {l M : List Str}, l.Nodup → (∀ k ∈ l, k ∈ M) → M.length = l.length → M.Perm l
  | [], M, _, _, e => by rw [List.length_eq_zero_iff.mp e]
  | k :: l, M, nd, sub, e => by
    have nd' := List.nodup_cons.mp nd
    have hk := sub k List.mem_cons_self
    refine (List.perm_cons_erase hk).trans (List.Perm.cons k (perm_cover nd'.2 (fun x hx => ?_) ?_))
    · exact (List.mem_erase_of_ne (fun h : x = k => nd'.1 (by rw [← h]; exact hx))).mpr (sub x (List.mem_cons_of_mem _ hx))
    · rw [List.length_erase_of_mem hk, e]; rfl
theorem cr_sortTx (hc : X.calm = true) : CallR X (.builtin "sorted") (rSortTx X.prog X.w) := by
  intro pins s σ H xs us Q I r h
  obtain ⟨a, l, rfl, ha, nd1, hl, q⟩ := h
  rw [Vals.ref1 r]
  obtain ⟨D, ho, F, ris, led⟩ := (show ObjOk X.prog X.w H s.heap a (TxO X.prog X.w a l) from I.hok a _ ha).1
  have hh : X.A.handled = none := I.ok.hd hc
  refine Calls.call_function_entry PyProof.Rows.kind_sorted PyProof.Rows.plain_sorted PyProof.Rows.entry_sorted (PyProof.Rows.args_sorted1 _) ?_
  unfold Builtin.«sorted»
  refine wpAny_bind (m := checkCount "sorted" 1 1 _) (wpAny_pure ?_)
  have dsz : D.1.size = l.length := F.sz
  refine wpAny_bind (collect_set (A := X.A.in1) hh ⟨_, ho, rfl, rfl⟩ F.fit (by show D.1.size < scanBound; unfold scanBound; omega) ris led fun s1 vs k1 hz g1 o1 pm => ?_)
  have vstr : ∀ v ∈ vs, ∃ x t, v = Value.str x t := fun v hv => by
    obtain ⟨e, he, rfl⟩ := List.mem_map.mp (pm.mem_iff.mp hv)
    obtain ⟨⟨k, hk, _⟩, _⟩ := F.el e he
    obtain ⟨t, ht⟩ := Value.isStrOf_shape (x := k) (v := e.2) hk
    exact ⟨k, t, ht⟩
  have vlen : vs.length = l.length := by rw [pm.length_eq, List.length_map, Array.length_toList]; exact dsz
  have keyof : ∀ {e : Int × Value} {k : Str}, (strKind X.prog X.w).is k e.2 = true → txV e.2 = k := fun {e k} hk => by
    obtain ⟨t, ht⟩ := Value.isStrOf_shape (x := k) (v := e.2) hk
    rw [ht]; rfl
  refine wpAny_bind (wpAny_newList ?_ (by rw [vlen, sizeLine_eq]; omega))
  have hoL : (s1.heap.push (seqObj "list" vs.toArray 0)).get? s1.heap.objs.size = some (seqObj "list" vs.toArray 0) := Heap.get?_push_size _ rfl
  refine wpAny_bind (wpAny_holding (wpAny_call_entry PyProof.Rows.slot_list_sort ⟨_, hoL, rfl⟩ PyProof.Rows.entry_list_sort
    (SrtO.list_sort_ord (ltv := fun v u => ltS (txV v) (txV u)) (swo_by txV) hoL (by rw [vlen, sizeLine_eq]; omega) (fun h2 => strs_sortable h2 vstr) fun out a1 a2 => ⟨_, rfl, ?_⟩) (PyProof.Rows.args_list_sort _)))
  obtain ⟨c, hcL⟩ := PyProof.Rows.sortedHeap_at (vs := vs) (out := out.toArray) hoL
  have osl : ∀ v ∈ out, ∃ x t, v = Value.str x t := fun v hv => vstr v (a2.perm.mem_iff.mp hv)
  have ov : Vals ((out.map txV).map V.str) out := by
    clear a1 a2 hcL
    induction out with
    | nil => exact .nil
    | cons v out ih =>
      obtain ⟨x, t, rfl⟩ := osl v List.mem_cons_self
      exact .cons ⟨t, rfl⟩ (ih fun u hu => osl u (List.mem_cons_of_mem _ hu))
  have kk : ∀ b o, s.heap.get? b = some o → (sortedHeap (s1.heap.push (seqObj "list" vs.toArray 0)) s1.heap.objs.size vs out.toArray).get? b = some o := fun b o e => by
    have e1 := k1 b o e
    have lt := Heap.lt_size e1
    rw [PyProof.Rows.sortedHeap_old (Nat.ne_of_lt lt) (by rw [size_push']; exact Nat.lt_succ_of_lt lt)]
    exact Heap.get?_push_of_some _ e1
  have hn : H s1.heap.objs.size = none := I.hok.fresh hz
  have hlen : ((out.map txV).map V.str).length ≤ sizeLine := by
    rw [List.length_map, List.length_map, a2.perm.length_eq, vlen, sizeLine_eq]; omega
  have J : Inv X pins σ (L2.upd H s1.heap.objs.size (.lst ((out.map txV).map V.str))) { s with heap := sortedHeap (s1.heap.push (seqObj "list" vs.toArray 0)) s1.heap.objs.size vs out.toArray, gens := s1.gens, drawn := s1.drawn, toks := s1.toks } :=
    I.call (ch := []) (Un.laid kk hz hn) (I.hok.laid kk hz ⟨hlen, out, c, ov, hcL⟩) (by rw [g1]; exact I.bare) (fun _ z => nomatch z)
  have pl : (out.map txV).Perm l := by
    have p1 := (a2.perm.trans pm).map txV
    rw [List.map_map] at p1
    refine p1.trans ?_
    refine perm_cover nd1 (fun k hk => ?_) (by rw [List.length_map, Array.length_toList]; exact dsz)
    obtain ⟨e, he, hi⟩ := (F.mem k).mp hk
    exact List.mem_map.mpr ⟨e, he, keyof hi⟩
  refine wpAny_pure ⟨_, rfl, ?_⟩
  have e : ({ s1 with heap := sortedHeap (s1.heap.push (seqObj "list" vs.toArray 0)) s1.heap.objs.size vs out.toArray } : Shared) = { s with heap := sortedHeap (s1.heap.push (seqObj "list" vs.toArray 0)) s1.heap.objs.size vs out.toArray, gens := s1.gens, drawn := s1.drawn, toks := s1.toks } := by
    cases s1; cases s; cases o1; rfl
  rw [e]
  exact ⟨.ref _, _, J, rfl, q _ _ pl (List.pairwise_map.mpr a1) hn⟩
end
end VN

/-! Rules of this proof's own: sorted(d) of a dict with nested tuple keys, sorted(xs, key=f) with f of the program's own. -/
namespace VN
open PySem PySem.Spec PyProof.Rows L2
open PySem.W (EachIs AllAlike Sortable dataLe alike dataKind KeepsBut KeyedOut)

/-! ### data as the library's readings -/
section
variable {X : Cx} {pins : List (Addr × Obj)} {σ : L2.St} {H : Hp} {s : Shared}
mutual
theorem reads_of (I : Inv X pins σ H s) : ∀ (d : PyData) (v : V) (u : Value), good d = true → Dp X.K H v d → RelV v u → Reads s.heap u d []
  | .int i, _, _, _, h, r => by
    cases h
    obtain ⟨t, rfl⟩ := r
    exact .int i t
  | .str x, _, _, _, h, r => by
    cases h
    obtain ⟨t, rfl⟩ := r
    exact .str x t
  | .tuple ds, _, _, g, h, r => by
    cases h with
    | tup hs ha =>
      cases r
      obtain ⟨its, rv, ⟨o, ho, hc, n, hd⟩, _⟩ := I.tuple hs
      exact .tuple ho hc hd (readsAll_of I ds _ its (by simpa [good] using g) ha rv)
  | .none, _, _, g, _, _ => by simp [good] at g
  | .bool _, _, _, g, _, _ => by simp [good] at g
  | .list _, _, _, g, _, _ => by simp [good] at g
  | .dict _, _, _, g, _, _ => by simp [good] at g
theorem readsAll_of (I : Inv X pins σ H s) : ∀ (ds : List PyData) (vs : List V) (us : List Value), goodAll ds = true → DpAll X.K H vs ds → Vals vs us → ReadsAll s.heap us ds []
  | [], _, _, _, h, r => by
    cases h
    cases r
    exact .nil
  | d :: ds, _, _, g, h, r => by
    rw [goodAll, Bool.and_eq_true] at g
    cases h with
    | cons h1 h2 =>
      cases r with
      | cons r1 r2 => exact .cons (reads_of I d _ _ g.1 h1 r1) (readsAll_of I ds _ _ g.2 h2 r2)
end
end
theorem depth_key : ∀ k : NestedKey, k.data.depth ≤ k.depth := by
  intro k
  exact go k
where
  go : ∀ k : NestedKey, k.data.depth ≤ k.depth
    | .text _ => Nat.le_refl _
    | .num _ => Nat.le_refl _
    | .none => Nat.le_refl _
    | .tup ks => by
      have h := goA ks
      show (PyData.tuple (NestedKey.datas ks)).depth ≤ (NestedKey.tup ks).depth
      simp only [PyData.depth, NestedKey.depth]
      omega
  goA : ∀ ks : List NestedKey, PyData.depthAll (NestedKey.datas ks) ≤ NestedKey.depthAll ks
    | [] => Nat.le_refl _
    | k :: ks => by
      have h1 := go k
      have h2 := goA ks
      show PyData.depthAll (k.data :: NestedKey.datas ks) ≤ NestedKey.depthAll (k :: ks)
      simp only [PyData.depthAll, NestedKey.depthAll]
      omega

/-! ### sorted(d) -/
def rSortND (P : Program) (w : World) (K : PySem.W.Frag) : List V → Hp → VK → Prop := fun xs H Q => ∃ (a : Addr) (kvs : List (NestedKey × V)), xs = [V.ref a] ∧ ND P w K H a kvs ∧ kvs.length ≤ 1000 ∧
  AllAlike (kvs.map fun e => e.1.data) ∧ Sortable (kvs.map fun e => e.1.data) ∧
  ∀ (H' : Hp) (p : Addr) (vs : List V), H p = none → H' = L2.upd H p (.lst vs) → Paired (fun v k => Ky K H v k) vs ((kvs.map (·.1)).mergeSort (dataLe false NestedKey.data)) → Q (.ref p) H'
theorem each_paired {α β : Type} {F : α → β → Prop} : ∀ {xs : List α} {ys : List β}, EachIs F xs ys → Paired F xs ys
  | _, _, .nil => .nil
  | _, _, .cons h t => .cons h (each_paired t)
theorem paired_each {α β : Type} {F : α → β → Prop} : ∀ {xs : List α} {ys : List β}, Paired F xs ys → EachIs F xs ys
  | _, _, .nil => .nil
  | _, _, .cons h t => .cons h (paired_each t)
theorem each_maps {α β γ : Type} {R : α → γ → Prop} (f : β → γ) : ∀ {as : List α} {bs : List β}, EachIs (fun v b => R v (f b)) as bs → EachIs R as (bs.map f)
  | _, _, .nil => .nil
  | _, _, .cons h1 t => .cons h1 (each_maps f t)
/-- v is the key k -/
def KyV (K : PySem.W.Frag) (H : Hp) (v : Value) (k : NestedKey) : Prop := ∃ b, v = .ref b ∧ Ky K H (.ref b) k
theorem kyv_vals {K : PySem.W.Frag} {H : Hp} : ∀ {us : List Value} {ks : List NestedKey}, EachIs (KyV K H) us ks → ∃ vs, Vals vs us ∧ Paired (fun v k => Ky K H v k) vs ks
  | _, _, .nil => ⟨[], .nil, .nil⟩
  | _, _, .cons ⟨b, e, h⟩ t => by
    obtain ⟨vs, h1, h2⟩ := kyv_vals t
    subst e
    exact ⟨.ref b :: vs, .cons rfl h1, .cons h h2⟩
section
variable {X : Cx}
theorem cr_sortND (hc : X.calm = true) (hu : X.A.units + 64 < cLine) : CallR X (.builtin "sorted") (rSortND X.prog X.w X.K) := by
  intro pins s σ H xs us Q I r h
  obtain ⟨a, kvs, rfl, ⟨xs, e, rr, hd, hz, nd⟩, hl, hal, hsk, q⟩ := h
  rw [Vals.ref1 r]
  have hh : X.A.handled = none := I.ok.hd hc
  obtain ⟨o, es, ep, h1, h2, h3, h4⟩ := (show ObjOk X.prog X.w H s.heap a (NDO X.prog X.w a xs) from I.hok a _ e).1
  have les : es.size = kvs.length := by rw [← Array.length_toList, h4, List.length_map]; exact (Paired.length rr).symm
  refine Calls.call_function_entry PyProof.Rows.kind_sorted PyProof.Rows.plain_sorted PyProof.Rows.entry_sorted (PyProof.Rows.args_sorted1 _) ?_
  unfold Builtin.«sorted»
  refine wpAny_bind (m := checkCount "sorted" 1 1 _) (wpAny_pure ?_)
  refine wpAny_bind (PySem.W.kdu_collect (A := X.A.in1) (kdl_raw (o := o) (es := es) (ep := ep) hd h2 h3) hh h1 (by rw [les]; exact hz) fun h' tk acc hk hacc => ?_)
  have I1 : Inv X pins σ H { s with heap := h', toks := tk } := I.kept hk
  have hal0 : acc.toList.length = kvs.length := by rw [Array.length_toList, hacc.1, les]
  have each : EachIs (KyV X.K H) acc.toList (kvs.map (·.1)) := by
    refine each_maps _ (PySem.W.EachIs.of_zip hal0 fun p hp => ?_)
    obtain ⟨j, hj⟩ := List.mem_iff_getElem?.mp hp
    obtain ⟨j1, j2⟩ := List.getElem?_zip_eq_some.mp hj
    obtain ⟨en, g1, g2⟩ := hacc.2 j p.1 (by rw [← Array.getElem?_toList]; exact j1)
    obtain ⟨x, hx, hp⟩ := LiI.paired_get rr j2
    have g3 : es.toList[j]? = some en := by rw [Array.getElem?_toList]; exact g1
    rw [h4, List.getElem?_map, hx] at g3
    have g4 : entryOfKey (nestedKind X.prog X.w) x = en := Option.some.inj g3
    exact ⟨x.2.1, by rw [g2, ← g4]; rfl, hp.2.1⟩
  generalize hvs : acc.toList = vs at each hal0
  refine wpAny_bind (wpAny_newList ?_ (by rw [hal0]; exact hz))
  have hoL : (h'.push (seqObj "list" vs.toArray 0)).get? h'.objs.size = some (seqObj "list" vs.toArray 0) := Heap.get?_push_size _ rfl
  have kL : ∀ b o, h'.get? b = some o → (h'.push (seqObj "list" vs.toArray 0)).get? b = some o := fun b o e => Heap.get?_push_of_some _ e
  have I2 : Inv X pins σ H { s with heap := h'.push (seqObj "list" vs.toArray 0), toks := tk } := I1.kept kL
  have er : EachIs (fun v (k : NestedKey) => ∃ as, Reads (h'.push (seqObj "list" vs.toArray 0)) v k.data as ∧ h'.objs.size ∉ as) vs (kvs.map (·.1)) := each.mono fun v k ⟨b, e, hk⟩ => by
    subst e
    exact ⟨[], reads_of I2 _ _ _ (good_key k hk.1.ok) hk.2.2 rfl, by simp⟩
  have hal' : AllAlike ((kvs.map (·.1)).map NestedKey.data) := by rw [List.map_map]; exact hal
  have hsk' : Sortable ((kvs.map (·.1)).map NestedKey.data) := by rw [List.map_map]; exact hsk
  refine wpAny_bind (wpAny_holding (PySem.W.list_sort_data (A := X.A.in1) (s := { s with heap := h'.push (seqObj "list" vs.toArray 0), toks := tk }) (enc := NestedKey.data) hoL each er hal' hsk' (by rw [List.length_map]; exact hz) (fun k hk' => ?_) fun out lo ro => ?_))
  · obtain ⟨j, hj⟩ := List.mem_iff_getElem?.mp hk'
    obtain ⟨v, _, b, _, hky⟩ : ∃ v, v ∈ vs ∧ KyV X.K H v k := by
      obtain ⟨v, hv⟩ : ∃ v, vs[j]? = some v := ⟨_, List.getElem?_eq_getElem (by have := (List.getElem?_eq_some_iff.mp hj).1; rw [List.length_map] at this; omega)⟩
      exact ⟨v, List.mem_of_getElem? hv, each.zip (v, k) (List.mem_of_getElem? (List.getElem?_zip_eq_some.mpr ⟨hv, hj⟩))⟩
    have d1 := depth_key k
    have d2 := hky.1.dep
    rw [in1u]
    omega
  · obtain ⟨c, hcL⟩ := PyProof.Rows.sortedHeap_at (vs := vs) (out := out.toArray) hoL
    obtain ⟨ys, v1, v2⟩ := kyv_vals ro
    have kk : ∀ b o, h'.get? b = some o → (sortedHeap (h'.push (seqObj "list" vs.toArray 0)) h'.objs.size vs out.toArray).get? b = some o := fun b o e1 => by
      have lt := Heap.lt_size e1
      rw [PyProof.Rows.sortedHeap_old (Nat.ne_of_lt lt) (by rw [size_push']; exact Nat.lt_succ_of_lt lt)]
      exact kL b o e1
    have hn : H h'.objs.size = none := I1.hok.fresh (Nat.le_refl _)
    have hlen : ys.length ≤ sizeLine := by
      rw [v1.length, lo, List.length_map]
      exact hz
    have J : Inv X pins σ (L2.upd H h'.objs.size (.lst ys)) { s with heap := sortedHeap (h'.push (seqObj "list" vs.toArray 0)) h'.objs.size vs out.toArray, toks := tk } :=
      I1.laid kk (Nat.le_refl _) ⟨hlen, out, c, v1, hcL⟩
    exact wpAny_pure ⟨_, rfl, .ref _, _, J, rfl, q _ _ ys hn rfl v2⟩
end

/-! ### sorted(xs, key=f) -/
def rSortKey (K : PySem.W.Frag) {β : Type} (f : Addr) (R : Hp → V → β → Prop) (kf : β → NestedKey) : List V → List V → Hp → VK → Prop := fun xs zs H Q => ∃ (a : Addr) (vs : List V) (bs : List β), xs = [V.ref a] ∧ zs = [V.ref f] ∧ SqL K H a vs ∧
  Paired (R H) vs bs ∧ bs.length ≤ 1000 ∧ (∀ b ∈ bs, (kf b).depth ≤ 8) ∧ AllAlike (bs.map fun b => (kf b).data) ∧ Sortable (bs.map fun b => (kf b).data) ∧
  ∀ (H' : Hp) (p : Addr) (ys : List V), Same H H' → H' p = some (.lst ys) → Paired (R H') ys (bs.mergeSort (dataLe false fun b => (kf b).data)) → Q (.ref p) H'
section
variable {X : Cx} {β : Type}
theorem each_take {α γ : Type} {F : α → γ → Prop} : ∀ {xs : List α} {ys : List γ}, EachIs F xs ys → ∀ {j : Nat} {x : α} {y : γ}, xs[j]? = some x → ys[j]? = some y → F x y
  | _, _, .nil, j, x, y, h, _ => by cases h
  | _, _, .cons r t, 0, x, y, h1, h2 => by cases h1; cases h2; exact r
  | _, _, .cons r t, j + 1, x, y, h1, h2 => each_take t (by simpa using h1) (by simpa using h2)
/-- values that stand for elements: each by some V -/
theorem vals_each {F : V → β → Prop} : ∀ {xs : List V} {us : List Value} {bs : List β}, Vals xs us → Paired F xs bs → EachIs (fun u b => ∃ v, RelV v u ∧ F v b) us bs
  | _, _, _, .nil, .nil => .nil
  | _, _, _, .cons r t, .cons h g => .cons ⟨_, r, h⟩ (vals_each t g)
theorem each_vals {F : V → β → Prop} : ∀ {us : List Value} {bs : List β}, EachIs (fun u b => ∃ v, RelV v u ∧ F v b) us bs → ∃ xs, Vals xs us ∧ Paired F xs bs
  | _, _, .nil => ⟨[], .nil, .nil⟩
  | _, _, .cons ⟨v, r, h⟩ t => by
    obtain ⟨xs, h1, h2⟩ := each_vals t
    exact ⟨v :: xs, .cons r h1, .cons h h2⟩
theorem cr_sortKey {k : Nat} {f : Addr} {fd : FuncData} {ps : List Str} {sp : Sp} (F : FnOk X.prog X.w X.K X.mg X.base CX0 k f fd ps sp) (hr : Room (k + 2) X.A) (hb : Binds X.K fd ps []) (R : Hp → V → β → Prop) (kf : β → NestedKey)
    (hR : ∀ H H' v b, Same H H' → R H v b → R H' v b) (hsp : ∀ H v b Q E, R H v b → (∀ H' r, Same H H' → Ky X.K H' r (kf b) → Q r H') → sp [v] H Q E) : CallRK X (.builtin "sorted") [Str.ofString "key"] (rSortKey X.K f R kf) := by
  intro pins s σ H xs zs us ws Q I r rz h
  obtain ⟨a, vs, bs, rfl, rfl, hs, hp, hlen, hdep, hal, hsk, q⟩ := h
  rw [Vals.ref1 r, Vals.ref1 rz]
  obtain ⟨its, rv, pl, hz⟩ := I.list hs
  have lits : its.length = bs.length := by rw [← rv.length]; exact Paired.length hp
  have hu : X.A.units + 64 < cLine := hr.units
  have ez : ([Str.ofString "key"] : List Str).zip [Value.ref f] = [(Str.ofString "key", Value.ref f)] := rfl
  rw [ez]
  refine PySem.W.sorted_of_sort pl.isList (by rw [← rv.length]; exact hz) (PyProof.Rows.ksk_s1 _ _) (fun x => PyProof.Rows.ksk_l1 _ _) fun E' => ?_
  rw [PyProof.Rows.ksk_t1]
  have ho := PySem.W.copyHeap_at s.heap its
  have hc0 : ∀ b o, s.heap.get? b = some o → (PySem.W.copyHeap s.heap its).get? b = some o := fun b o e => PySem.W.copyHeap_old e
  have hpn : H (s.heap.objs.size + 1) = none := I.hok.fresh (Nat.le_succ _)
  have I0 : Inv X pins σ H { s with heap := PySem.W.copyHeap s.heap its } := I.kept (t' := s.toks) hc0
  have fpP : FpOk X pins H (s.heap.objs.size + 1) := I.fpOk (Nat.le_succ _) hpn
  generalize hp0 : s.heap.objs.size + 1 = p at ho hpn fpP ⊢
  generalize PySem.W.copyHeap s.heap its = g0 at ho I0 ⊢
  obtain ⟨e1, ho1⟩ : ∃ e1, (g0.update p (Obj.mapSeq fun _ => (#[] : Array Value))).get? p = some (seqObj "list" #[] e1) := ⟨_, get?_update_seq ho fun _ => #[]⟩
  unfold PyProof.Rows.ksk_tree
  refine wpAny_bind (listItems_at ho rfl ?_)
  refine wpAny_bind (listUpdate_at ho rfl ?_ (by rw [List.size_toArray, lits, sizeLine_eq]; omega) (Nat.zero_le _))
  have sb1 := Heap.SameBut.update g0 p (Obj.mapSeq fun _ => (#[] : Array Value))
  generalize g0.update p (Obj.mapSeq fun _ => (#[] : Array Value)) = g1 at ho1 sb1 ⊢
  have I1 : Inv X pins σ H { s with heap := g1 } := I0.turned (h' := g1) (t' := s.toks) (fun b o hb e => (sb1.2 b hb).trans e) fpP.1 fpP.2.1 fpP.2.2.2.1 fpP.2.2.2.2.1 fpP.2.2.2.2.2
  refine wpAny_bind (seqEpoch_at ho1 rfl ?_)
  refine wpAny_bind (wpAny_newTuple ?_ (by show its.length ≤ _; rw [lits, sizeLine_eq]; omega))
  refine wpAny_bind (wpAny_newList ?_ (Nat.zero_le _))
  refine wpAny_holding ?_
  have nkS : ((g1.push (seqObj "tuple" its.toArray 0)).push (seqObj "list" #[] 0)).get? (g1.push (seqObj "tuple" its.toArray 0)).objs.size = some (seqObj "list" #[] 0) := Heap.get?_push_size _ rfl
  have nP : ((g1.push (seqObj "tuple" its.toArray 0)).push (seqObj "list" #[] 0)).get? p = some (seqObj "list" #[] e1) := Heap.get?_push_of_some _ (Heap.get?_push_of_some _ ho1)
  have k2 : ∀ b o, g1.get? b = some o → ((g1.push (seqObj "tuple" its.toArray 0)).push (seqObj "list" #[] 0)).get? b = some o := fun b o e => Heap.get?_push_of_some _ (Heap.get?_push_of_some _ e)
  have zS : (g1.push (seqObj "tuple" its.toArray 0)).objs.size = g1.objs.size + 1 := Heap.size_push ..
  have hSn : H (g1.push (seqObj "tuple" its.toArray 0)).objs.size = none := I1.hok.fresh (by rw [zS]; exact Nat.le_succ _)
  have fpS : FpOk X pins H (g1.push (seqObj "tuple" its.toArray 0)).objs.size := I1.fpOk (by rw [zS]; exact Nat.le_succ _) hSn
  have I2 : Inv X pins σ H { s with heap := (g1.push (seqObj "tuple" its.toArray 0)).push (seqObj "list" #[] 0) } := I1.kept (t' := s.toks) k2
  have hSP : (g1.push (seqObj "tuple" its.toArray 0)).objs.size ≠ p := Nat.ne_of_gt (Nat.lt_of_lt_of_le (Heap.lt_size ho1) (by rw [zS]; exact Nat.le_succ _))
  generalize (g1.push (seqObj "tuple" its.toArray 0)).objs.size = kS at nkS hSn fpS hSP ⊢
  generalize hg2 : (g1.push (seqObj "tuple" its.toArray 0)).push (seqObj "list" #[] 0) = g2 at nkS nP I2 ⊢
  show wpAny _ _ (PyProof.Rows.ksk_rest p (.ref f) false its.toArray e1 (.ref kS)) _ _ { s with heap := g2 }
  unfold PyProof.Rows.ksk_rest
  refine wpAny_bind (wpAny_rule ?_)
  first
    | rw [List.forIn_toArray]
    | (rw [← Array.forIn_toList]; simp only [List.toList_toArray])
    | rw [← Array.forIn_toList]
  have R0 : Room (k + 1) X.A.in1 := hr.in1
  have R1 : Room k X.A.in1.in1 := R0.in1
  refine wpAny_bind (PyProof.Rows.ksk_fold (fun i s' => ∃ H' kA e, Inv X pins σ H' s' ∧ Same H H' ∧ H' p = none ∧ H' kS = none ∧ s'.heap.get? kS = some (seqObj "list" kA e) ∧ s'.heap.get? p = some (seqObj "list" #[] e1) ∧ EachIs (KyV X.K H') kA.toList ((bs.take i).map kf)) its 0 _
    ⟨H, #[], 0, I2, fun _ _ e => e, hpn, hSn, nkS, nP, by rw [List.take_zero]; exact EachIs.nil⟩ ?step ?done)
  case step =>
    rintro j x s' hx ⟨H', kA, e, I3, sm, hP3, hS3, g3, g4, hk⟩
    simp only [Nat.zero_add] at hk ⊢
    have hj : j < its.length := (List.getElem?_eq_some_iff.mp hx).1
    obtain ⟨v, hv, rvx⟩ : ∃ v, vs[j]? = some v ∧ RelV v x := by
      have hjv : j < vs.length := by rw [rv.length]; exact hj
      refine ⟨vs[j], List.getElem?_eq_getElem hjv, ?_⟩
      obtain ⟨u, hu1, hu2⟩ := rv.get (i := j) (x := vs[j]) (List.getElem?_eq_getElem hjv)
      rw [hx] at hu1
      cases hu1
      exact hu2
    obtain ⟨b, hbj, hRb⟩ := LiI.paired_get hp hv
    have hRb' : R H' v b := hR _ _ _ _ sm hRb
    have hzk : kA.size ≤ its.length := by
      have h1 := hk.length
      rw [Array.length_toList, List.length_map, List.length_take] at h1
      omega
    have env := I3.env0
    refine wpAny_bind (wpAny_attempt ?_)
    have run := F.run X.A.in1.in1 X.stack s' H' ⟨[x], []⟩ ([x] ++ []) ([v] ++ []) (fun r H4 => Same H' H4 ∧ Ky X.K H4 r (kf b)) (fun _ _ _ => False) R1 env.in1.in1
      (hb s' [x] I3.kIn (by
        have := F.len [v] H' (fun r H4 => Same H' H4 ∧ Ky X.K H4 r (kf b)) (fun _ _ _ => False) (hsp H' v b _ _ hRb' fun H4 r g1 g2 => ⟨g1, g2⟩)
        simpa using this)) (.cons rvx .nil) (hsp H' v b _ _ hRb' fun H4 r g1 g2 => ⟨g1, g2⟩)
    refine wpAny_call (codeAny_mono run fun r s'' hq => ?_)
    cases r with
    | error e => exact False.elim hq
    | ok fl =>
      cases fl with
      | next => exact False.elim hq
      | brk => exact False.elim hq
      | cont => exact False.elim hq
      | ret u =>
        obtain ⟨y, H4, os, bare, un, hok, ry, sm4, hky⟩ := (show CE X.stack X.prog X.w H' s' _ u s'' from hq)
        obtain ⟨h4, gg, dd, tt, oo⟩ := s''
        obtain rfl : oo = s'.os := os
        have I4 : Inv X pins σ H4 { s' with heap := h4, gens := gg, drawn := dd, toks := tt } := I3.call (h' := h4) (g' := gg) (d' := dd) (t' := tt) (ch := []) un hok bare (fun b z => absurd z (by simp))
        have nf : ∀ {c : Addr}, FpOk X pins H c → c ∉ frs X.stack := fun {c} f hc => by
          rcases List.mem_cons.mp (I3.stkSub c hc) with e | e
          · exact f.2.1 e
          · exact f.2.2.1 e
        have g3' : h4.get? kS = some (seqObj "list" kA e) := un.keep _ _ g3 hS3 (nf fpS) (by simp)
        have g4' : h4.get? p = some (seqObj "list" #[] e1) := un.keep _ _ g4 hP3 (nf fpP) (by simp)
        have hS4 : H4 kS = none := un.free _ _ g3 hS3 (by simp)
        have hP4 : H4 p = none := un.free _ _ g4 hP3 (by simp)
        obtain ⟨b4, hb4⟩ := hky.2.1
        subst hb4
        obtain rfl : u = Value.ref b4 := ry
        show wpAny _ _ (Builtin.List.listUpdate (.ref kS) (·.push (.ref b4)) >>= _) _ _ _
        have s5 := Heap.SameBut.update h4 kS (Obj.mapSeq (·.push (Value.ref b4)))
        obtain ⟨c2, hc2⟩ : ∃ c2, (h4.update kS (Obj.mapSeq (·.push (Value.ref b4)))).get? kS = some (seqObj "list" (kA.push (.ref b4)) c2) := ⟨_, get?_update_seq g3' (·.push (Value.ref b4))⟩
        have hzl : its.length ≤ sizeLine := by rw [lits, sizeLine_eq]; omega
        refine wpAny_bind (listUpdate_at g3' rfl ?_ (Nat.le_trans hzk hzl) (Nat.le_trans (Nat.le_of_eq (Array.size_push ..)) (Nat.succ_le_succ (Nat.le_trans hzk hzl))))
        have fpS4 : FpOk X pins H4 kS := ⟨hS4, fpS.2⟩
        refine wpAny_pure ⟨rfl, H4, kA.push (.ref b4), c2, I4.turned (h' := h4.update kS (Obj.mapSeq (·.push (Value.ref b4)))) (t' := tt) (fun b o hb e => (s5.2 b hb).trans e) fpS4.1 fpS4.2.1 fpS4.2.2.2.1 fpS4.2.2.2.2.1 fpS4.2.2.2.2.2,
          fun b o e => sm4 _ _ (sm _ _ e), hP4, hS4, hc2, (s5.2 p hSP.symm).trans g4', ?_⟩
        have ek : (bs.take (j + 1)).map kf = (bs.take j).map kf ++ [kf b] := by rw [List.take_add_one, hbj, List.map_append]; rfl
        rw [Array.toList_push, ek]
        exact PySem.W.each_snoc ⟨b4, rfl, hky⟩ (hk.mono fun v k ⟨b, e, hh⟩ => ⟨b, e, hh.tk (TK.of sm4)⟩)
  case done =>
    rintro s' ⟨H', kA, e, I3, sm, hP3, hS3, g3, g4, hk⟩
    have hk' : EachIs (KyV X.K H') kA.toList (bs.map kf) := by
      rw [List.take_of_length_le (by omega)] at hk
      exact hk
    have hsz : kA.size = its.length := by
      have h1 := hk'.length
      rw [Array.length_toList, List.length_map] at h1
      omega
    have er : EachIs (fun v k => ∃ as, Reads s'.heap v k as) kA.toList ((bs.map kf).map NestedKey.data) := each_maps _ (hk'.mono fun v k ⟨b, e, hh⟩ => by
      subst e
      exact ⟨[], reads_of I3 _ _ _ (good_key k hh.1.ok) hh.2.2 rfl⟩)
    have emm : (bs.map kf).map NestedKey.data = bs.map fun b => (kf b).data := by rw [List.map_map]; rfl
    rw [emm] at er
    try dsimp only
    refine wpAny_bind (listItems_at g3 rfl ?_)
    have kp : KeepsBut p (PySem.W.hideAll s'.heap [kS]) s'.heap := fun b o _ e => PySem.W.of_hideAll _ e
    refine PySem.W.keyH_end (κ := dataKind s'.heap (bs.map fun b => (kf b).data)) (h₁ := PySem.W.hideAll s'.heap [kS]) kp (PySem.W.hideAll_none _ (by simp)) g3 g4 hSP
      (PySem.W.SortsAt.data er hal hsk fun d hd => ?_) hsz (by rw [lits, sizeLine_eq]; omega) fun h3 tk3 c k3 n3 => ⟨rfl, ?_⟩
    · obtain ⟨b, hb', rfl⟩ := List.mem_map.mp hd
      have d1 := depth_key (kf b)
      have d2 := hdep b hb'
      rw [in1u, in1u]
      omega
    · -- the list is tracked from now on
      have ro := PySem.W.keyedOut_each (rev := false) (R := fun u b => ∃ v, RelV v u ∧ R H' v b) (fun b => (kf b).data) ⟨s'.heap, kA.toList, hal, rfl, er⟩ (vals_each rv (Paired.mapP hp fun v b hvb => hR _ _ v b sm hvb))
      generalize PySem.W.sortVals (dataKind s'.heap (bs.map fun b => (kf b).data)) false kA.toList its = out at n3 ro
      obtain ⟨ys, y1, y2⟩ := each_vals ro
      have nf : (fun _ : Obj => seqObj "list" #[] e1) (seqObj "list" out.toArray c) = seqObj "list" #[] e1 := rfl
      have m1 : (h3.update p fun _ => seqObj "list" #[] e1).get? p = some (seqObj "list" #[] e1) := Heap.get?_update_self _ n3 rfl
      have m2 : ∀ b, b ≠ p → (h3.update p fun _ => seqObj "list" #[] e1).get? b = h3.get? b := fun b hb => Heap.get?_update_other h3 _ (Ne.symm hb)
      generalize (h3.update p fun _ => seqObj "list" #[] e1) = hm at m1 m2
      have fpS3 : FpOk X pins H' kS := ⟨hS3, fpS.2⟩
      have fpP3 : FpOk X pins H' p := ⟨hP3, fpP.2⟩
      have I4 : Inv X pins σ H' { s' with heap := hm, toks := tk3 } := I3.turned (h' := hm) (t' := tk3) (fun b o hb e => by
        by_cases hbp : b = p
        · subst hbp
          rw [g4] at e
          rw [← e]
          exact m1
        · rw [m2 b hbp]
          exact k3 b o hbp (PySem.W.hideAll_get _ e (by simpa using hb))) fpS3.1 fpS3.2.1 fpS3.2.2.2.1 fpS3.2.2.2.2.1 fpS3.2.2.2.2.2
      have hlen2 : ys.length ≤ sizeLine := by
        have e2 := Paired.length y2
        rw [List.length_mergeSort] at e2
        rw [e2, sizeLine_eq]
        omega
      have I5 : Inv X pins σ (L2.upd H' p (.lst ys)) { s' with heap := h3, toks := tk3 } := I4.take (h' := h3) (t' := tk3) (it := p) (fun b o hb e => by rw [m2 b hb] at e; exact e) fpP3 ⟨hlen2, out, c, y1, n3⟩
      have sm5 : Same H' (L2.upd H' p (.lst ys)) := Same.new hP3 _
      exact ⟨.ref p, _, I5, rfl, q _ p ys (fun b o e => sm5 _ _ (sm _ _ e)) upd_same (Paired.mapP y2 fun v b hvb => hR _ _ v b sm5 hvb)⟩
end
end VN

/-! Rules of this proof's own: tuple(xs) as a plain tuple (an object without a dict), dict(pairs) of such a tuple. -/
namespace VN
open PySem PySem.Spec PyProof.Rows L2

/-- a plain tuple: its object has no dict -/
def PT (H : Hp) (b : Addr) (xs : List V) : Prop := ∃ o, H b = some (.frz o (.tup xs)) ∧ o.dict = none
theorem PT.keep {H H' : Hp} {b : Addr} {xs : List V} (s : Same H H') (h : PT H b xs) : PT H' b xs := let ⟨o, e, d⟩ := h; ⟨o, s _ _ e, d⟩
theorem PT.sq {K : PySem.W.Frag} {H : Hp} {b : Addr} {xs : List V} (h : PT H b xs) : SqT K H b xs := let ⟨o, e, _⟩ := h; .inl (.inr ⟨o, e⟩)
mutual
/-- data in plain tuples -/
inductive Pl (H : Hp) : V → PyData → Prop
  | int (i : Int) : Pl H (.int i) (.int i)
  | str (x : Str) : Pl H (.str x) (.str x)
  | tup {b : Addr} {xs : List V} {ds : List PyData} : PT H b xs → PlAll H xs ds → Pl H (.ref b) (.tuple ds)
inductive PlAll (H : Hp) : List V → List PyData → Prop
  | nil : PlAll H [] []
  | cons {x : V} {d : PyData} {xs : List V} {ds : List PyData} : Pl H x d → PlAll H xs ds → PlAll H (x :: xs) (d :: ds)
end
mutual
theorem Pl.keep {H H' : Hp} (s : Same H H') : ∀ {v : V} {d : PyData}, Pl H v d → Pl H' v d
  | _, _, .int i => .int i
  | _, _, .str x => .str x
  | _, _, .tup h t => .tup (h.keep s) (PlAll.keep s t)
theorem PlAll.keep {H H' : Hp} (s : Same H H') : ∀ {vs : List V} {ds : List PyData}, PlAll H vs ds → PlAll H' vs ds
  | _, _, .nil => .nil
  | _, _, .cons h t => .cons (Pl.keep s h) (PlAll.keep s t)
end
mutual
theorem Pl.dp {K : PySem.W.Frag} {H : Hp} : ∀ {v : V} {d : PyData}, Pl H v d → Dp K H v d
  | _, _, .int i => .int i
  | _, _, .str x => .str x
  | _, _, .tup h t => .tup h.sq (PlAll.dp t)
theorem PlAll.dp {K : PySem.W.Frag} {H : Hp} : ∀ {vs : List V} {ds : List PyData}, PlAll H vs ds → DpAll K H vs ds
  | _, _, .nil => .nil
  | _, _, .cons h t => .cons (Pl.dp h) (PlAll.dp t)
end
section
variable {X : Cx}
/-- tuple(xs) of a list -/
def rTupP (K : PySem.W.Frag) : List V → Hp → VK → Prop := fun xs H Q => ∃ p ys, xs = [V.ref p] ∧ SqL K H p ys ∧ ∀ (l : Addr) (o : Obj), H l = none → o.dict = none → Q (.ref l) (L2.upd H l (.frz o (.tup ys)))
theorem cr_tupP : CallR X (.type "tuple") (rTupP X.K) := by
  intro pins s σ H xs us Q I r h
  obtain ⟨p, ys, rfl, hq, q⟩ := h
  rw [Vals.ref1 r]
  obtain ⟨its, r', pl, hz⟩ := I.list hq
  have hlen := r'.length
  refine call_tuple_list pl.isList (fun h' kp => ?_) (by simp only [List.size_toArray] <;> omega)
  have I1 : Inv X pins σ H { s with heap := h' } := I.kept (t' := s.toks) kp
  obtain ⟨o, ho⟩ : ∃ o : Obj, o = { cls := .type "tuple", data := .seq its.toArray } := ⟨_, rfl⟩
  have hg : (h'.push { cls := .type "tuple", data := .seq its.toArray }).get? h'.objs.size = some o := by rw [ho]; exact Heap.get?_push_size _ rfl
  have hd : o.dict = none := by rw [ho]
  have I2 : Inv X pins σ (L2.upd H h'.objs.size (.frz o (.tup ys))) { s with heap := h'.push { cls := .type "tuple", data := .seq its.toArray } } :=
    I1.laid (t' := s.toks) (fun b o e => Heap.get?_push_of_some _ e) (Nat.le_refl _) ⟨hg, hz, its, r', IsTup.new _ _⟩
  exact ⟨.ref h'.objs.size, _, I2, rfl, q _ o (I1.hok.fresh (Nat.le_refl _)) hd⟩
/-- dict(t), t a plain tuple of pairs of different texts and something -/
def rDictP (K : PySem.W.Frag) : List V → Hp → VK → Prop := fun xs H Q => ∃ (p : Addr) (ys : List V) (kvs : List (Str × V)), xs = [V.ref p] ∧ PT H p ys ∧ Paired (fun v e => ∃ b, v = .ref b ∧ SqT K H b [.str e.1, e.2]) ys kvs ∧ kvs.length ≤ 1000 ∧ (kvs.map (·.1)).Nodup ∧
  ∀ (d : Addr), H d = none → Q (.ref d) (L2.upd H d (.dK (kvs.map kvS)))
theorem cr_dictP (hc : X.calm = true) : CallR X (.type "dict") (rDictP X.K) := by
  intro pins s σ H xs us Q I r h
  obtain ⟨p, ys, kvs, rfl, ⟨o, hp, hd⟩, hps, hlen, hnd, q⟩ := h
  rw [Vals.ref1 r]
  obtain ⟨hg, hz, its, rv, o', ho', hc', n, hdat⟩ := (show ObjOk X.prog X.w H s.heap p (.frz o (.tup ys)) from I.hok p _ hp)
  rw [hg] at ho'
  cases ho'
  -- the pairs' own values
  have each : ∀ {ys : List V} {its : List Value} {kvs : List (Str × V)}, Vals ys its → Paired (fun v e => ∃ b, v = .ref b ∧ SqT X.K H b [.str e.1, e.2]) ys kvs →
      ∃ (Ts : List Addr) (ps : List (Value × Value)) (ks : List (Key × Value)), its = Ts.map Value.ref ∧ Ts.length = kvs.length ∧ KV (kvs.map kvS) ks ∧ ps.length = kvs.length ∧
        (∀ (j : Nat) k v, ps[j]? = some (k, v) → ∃ T, Ts[j]? = some T ∧ s.heap.IsTuple T #[k, v] ∧ ∃ kk, ks[j]? = some (kk, v) ∧ (mixKind X.prog X.w).is kk k = true) := by
    intro ys its kvs rv hps
    induction rv generalizing kvs with
    | nil =>
      cases hps
      exact ⟨[], [], [], rfl, rfl, .nil, rfl, fun j k v e => by simp at e⟩
    | @cons y u ys us r0 rt ih =>
      cases hps with
      | @cons _ e _ es h0 ht =>
        obtain ⟨b, rfl, hb⟩ := h0
        obtain rfl : u = Value.ref b := r0
        obtain ⟨Ts, ps, ks, e1, e2, e3, e4, e5⟩ := ih ht
        obtain ⟨its2, rv2, tup, _⟩ := I.tuple hb
        obtain ⟨u1, u2, rfl, r1, r2⟩ := vals2 rv2
        obtain ⟨t, rfl⟩ := r1
        refine ⟨b :: Ts, (.str e.1 t, u2) :: ps, (Sum.inr e.1, u2) :: ks, by rw [e1]; rfl, by simp [e2], .cons ⟨rfl, r2⟩ e3, by simp [e4], fun j k v ej => ?_⟩
        cases j with
        | zero =>
          simp only [List.getElem?_cons_zero, Option.some.injEq, Prod.mk.injEq] at ej
          obtain ⟨rfl, rfl⟩ := ej
          exact ⟨b, rfl, tup, _, rfl, mixKind_str _ _ _ _⟩
        | succ j =>
          obtain ⟨T, a1, a2, kk, a3, a4⟩ := e5 j k v (by simpa using ej)
          exact ⟨T, by simpa using a1, a2, kk, by simpa using a3, a4⟩
  obtain ⟨Ts, ps, ks, e1, e2, e3, e4, e5⟩ := each rv hps
  have eks : ks.map (·.1) = kvs.map fun e => (Sum.inr e.1 : Key) := by
    have := KV.keys e3
    rw [← this, List.map_map]
    rfl
  have lks : ks.length = kvs.length := by have := congrArg List.length eks; simpa using this
  refine PySem.call_dict_pairs (knd := mixKind X.prog X.w) (kvs := ks) (PySem.PairArg.tuple p its.toArray (fun j => Ts.getD j 0) ps) (I.ok.hd hc) ⟨⟨o, n, hg, hc', hd, hdat⟩, ?_, fun j k v ej => ?_⟩ ⟨by omega, fun i k v e => ?_⟩ (by rw [e4, sizeLine_eq]; omega) fun h' tk hD hk => ?_
  · rw [List.size_toArray, e1, List.length_map, e2, e4]
  · obtain ⟨T, a1, a2, _⟩ := e5 j k v ej
    have eT : Ts.getD j 0 = T := by rw [List.getD_eq_getElem?_getD, a1]; rfl
    refine ⟨?_, .inl ?_⟩
    · show its.toArray[j]? = some (Value.ref (Ts.getD j 0))
      rw [eT, e1]
      simp [a1]
    · show s.heap.IsTuple (Ts.getD j 0) #[k, v]
      rw [eT]; exact a2
  · obtain ⟨T, _, _, kk, a3, a4⟩ := e5 i k v e
    exact ⟨kk, a3, a4⟩
  · have nd2 : (ks.map (·.1)).Nodup := by
      rw [eks]
      have : (kvs.map fun e => (Sum.inr e.1 : Key)) = (kvs.map (·.1)).map Sum.inr := by rw [List.map_map]; rfl
      rw [this]
      exact hnd.map _ fun a b ne e => ne (Sum.inr.inj e)
    rw [merged_nil_of_nodup ks nd2] at hD
    have hm : (s.heap.objs.size == sysModules) = false := beq_eq_false_iff_ne.mpr (Nat.ne_of_gt I.big)
    have hn := I.hok.fresh (Nat.le_refl s.heap.objs.size)
    exact ⟨.ref _, _, I.laid (t' := tk) (o := .dK (kvs.map kvS)) (fun b u e => hk b u (by simp) e) (Nat.le_refl _) ⟨by rw [List.length_map, sizeLine_eq]; omega, hm, ks, e3, hD⟩, rfl, q _ hn⟩
end
end VN

/-! The program by places; short words for the walk. -/
namespace VN
open PySem PySem.Spec PyProof.Rows L2

def top (i : Nat) : Stmt := PySem.Challenge.pw_variantnest_k33_whole_normal_does_the_sa.main.body.getD i (.Pass ⟨0, 0, 0, 0⟩)

/-- a def that may be called by its name -/
structure Cal (P : Program) (w : World) (K : PySem.W.Frag) (mg : Str → Option Value) (base : Heap) (k : Nat) (x : Str) (ps : List Str) (sp : Sp) : Prop where
  ex : ∃ (f : Addr) (fd : FuncData), FnOk P w K mg base CX0 k f fd ps sp ∧ mg x = some (.ref f) ∧ PySem.W.keepIn K (.ref f) = true ∧ L2.Binds K fd ps []
/-- a def of the top, under its name -/
structure Def (K : PySem.W.Frag) (mg : Str → Option Value) (x : Str) (st : Stmt) (ps : List Str) : Prop where
  ex : ∃ (f : Addr) (fd : FuncData), Fun K x x st f fd ∧ mg x = some (.ref f) ∧ L2.Binds K fd ps []
section
variable {P : Program} {w : World} {K : PySem.W.Frag} {mg : Str → Option Value} {base : Heap}
/-- THE RULE for a def of the top -/
theorem Def.cal {x : Str} {st : Stmt} {N ps : List Str} {k : Nat} {sp : Sp} (D : Def K mg x st ps) (S : FnScope N ps (defScope st)) (len : ∀ vs H Q E, sp vs H Q E → vs.length = ps.length)
    (hbody : ∀ (f : Addr) (cdv : Value) (A : Around) (outer : List Env) (s : Shared) (H : Hp) (vs : List V) (Q : VK) (E : XK), Room k (A.deeper (envOfC x (defScope st) s.heap.objs.size f cdv)) → sp vs H Q E →
      ∃ t, PSs (cxOf CX0 P w K mg base N x (defScope st) f cdv A outer s H E).nox (defBody st) t ∧ t { nx := fun _ H' => Q .non H', rt := Q } (start N vs) H) : Cal P w K mg base (k + 1) x ps sp := by
  obtain ⟨f, fd, F, m, b⟩ := D.ex
  exact ⟨f, fd, F.ok S len (hbody f), m, F.kp, b⟩
/-- a promise that nobody asks -/
theorem Def.zero {x : Str} {st : Stmt} {ps : List Str} {sp : Sp} (D : Def K mg x st ps) (no : ∀ vs H Q E, ¬ sp vs H Q E) : Cal P w K mg base 0 x ps sp := by
  obtain ⟨f, fd, F, m, b⟩ := D.ex
  exact ⟨f, fd, ⟨fun vs H Q E h => absurd h (no vs H Q E), fun A outer s H args us vs Q E _ _ _ _ h => absurd h (no vs H Q E)⟩, m, F.kp, b⟩
theorem Cal.mono {j k : Nat} {x : Str} {ps : List Str} {sp : Sp} (c : Cal P w K mg base j x ps sp) (h : j ≤ k) : Cal P w K mg base k x ps sp := by
  obtain ⟨f, fd, F, r⟩ := c.ex
  exact ⟨f, fd, F.mono h, r⟩
theorem Cal.imp {k : Nat} {x : Str} {ps : List Str} {sp sp' : Sp} (c : Cal P w K mg base k x ps sp) (h : ∀ vs H Q E, sp' vs H Q E → sp vs H Q E) : Cal P w K mg base k x ps sp' := by
  obtain ⟨f, fd, F, r⟩ := c.ex
  exact ⟨f, fd, F.imp h, r⟩
end
section
variable {X : Cx} {k : Nat} {x : Str} {ps : List Str} {sp : Sp} {p pos : Pos} {e : Expr} {es : List Expr} {t : TA}
theorem pe_c (c : Cal X.prog X.w X.K X.mg X.base k x ps sp) (hr : Room k X.A) (hg : Gl X x) (ha : PA X (e :: es) t)
    (hdb : (x == ("__debug__" : Str)) = false := by decide) (he : starEach (e :: es) X.env = (false, eval e X.env) :: starEach es X.env := by rfl) (hpl : (backTo pos (starEach es X.env)).any (·.1) = false := by rfl) :
    PE X (.Call (.Name x p) (e :: es) [] pos) (tCall sp [] E0 t) := by
  obtain ⟨f, fd, F, m, kp, b⟩ := c.ex
  exact pe_call F hr hg m kp b .nil pass0 ha hdb he hpl
end

/-! ### data that fits -/
mutual
/-- ints and texts in tuples of at most 1000 things, fewer than n deep -/
def fit : Nat → PyData → Bool
  | 0, _ => false
  | _ + 1, .int _ => true
  | _ + 1, .str x => PyData.strOk x
  | n + 1, .tuple xs => decide (xs.length ≤ 1000) && fitAll n xs
  | _ + 1, _ => false
def fitAll : Nat → List PyData → Bool
  | _, [] => true
  | n, x :: xs => fit n x && fitAll n xs
end
theorem fitAll_iff {n : Nat} : ∀ {xs : List PyData}, fitAll n xs = true ↔ ∀ x ∈ xs, fit n x = true
  | [] => by simp [fitAll]
  | x :: xs => by
    rw [fitAll, Bool.and_eq_true, fitAll_iff]
    simp
mutual
theorem fit_good : ∀ (n : Nat) (d : PyData), fit n d = true → good d = true
  | 0, _, h => by simp [fit] at h
  | _ + 1, .int _, _ => rfl
  | _ + 1, .str x, h => by simpa [fit, good] using h
  | n + 1, .tuple xs, h => by
    rw [fit, Bool.and_eq_true] at h
    show goodAll xs = true
    exact fitAll_good n xs h.2
  | _ + 1, .none, h => by simp [fit] at h
  | _ + 1, .bool _, h => by simp [fit] at h
  | _ + 1, .list _, h => by simp [fit] at h
  | _ + 1, .dict _, h => by simp [fit] at h
theorem fitAll_good : ∀ (n : Nat) (ds : List PyData), fitAll n ds = true → goodAll ds = true
  | _, [], _ => rfl
  | n, d :: ds, h => by
    rw [fitAll, Bool.and_eq_true] at h
    rw [goodAll, fit_good n d h.1, fitAll_good n ds h.2]; rfl
end
mutual
theorem fit_up : ∀ (n : Nat) (d : PyData), fit n d = true → fit (n + 1) d = true
  | 0, _, h => by simp [fit] at h
  | _ + 1, .int _, _ => by simp [fit]
  | _ + 1, .str x, h => by simpa [fit] using h
  | n + 1, .tuple xs, h => by
    rw [fit, Bool.and_eq_true] at h
    rw [fit, h.1, fitAll_up n xs h.2]; rfl
  | _ + 1, .none, h => by simp [fit] at h
  | _ + 1, .bool _, h => by simp [fit] at h
  | _ + 1, .list _, h => by simp [fit] at h
  | _ + 1, .dict _, h => by simp [fit] at h
theorem fitAll_up : ∀ (n : Nat) (ds : List PyData), fitAll n ds = true → fitAll (n + 1) ds = true
  | _, [], _ => by simp [fitAll]
  | n, d :: ds, h => by
    rw [fitAll, Bool.and_eq_true] at h
    rw [fitAll, fit_up n d h.1, fitAll_up n ds h.2]; rfl
end
theorem fit_le {n m : Nat} {d : PyData} (h : fit n d = true) (le : n ≤ m) : fit m d = true := by
  induction le with
  | refl => exact h
  | step _ ih => exact fit_up _ _ ih
/-- the types of such data -/
theorem tyT {K : PySem.W.Frag} {H : Hp} {a : Addr} {xs : List V} (h : SqT K H a xs) : TyX K H (.ref a) (.type "tuple") := by
  rcases h with (h | ⟨o, h⟩) | ⟨o, its, n, h1, h2, _⟩
  · exact .base (.tup h)
  · exact .fTuple h
  · exact .kTuple h1 h2

theorem kit1 {K : PySem.W.Frag} {a b : String} {r : Bool} (h : kitB a b = some r) : PySem.W.kitOne K (.type a) (.type b) = some r := kit_ty h
theorem kit2 {K : PySem.W.Frag} {a b c : String} {r1 r2 : Bool} (h1 : kitB a b = some r1) (h2 : kitB a c = some r2) : PySem.W.kitAny K (.type a) [.type b, .type c] = some (r1 || r2) := by
  refine kitAny_cons (kit_ty h1) (fun e => ?_) (fun e => by rw [e]; rfl)
  subst e
  refine kitAny_cons (kit_ty h2) (fun e => ?_) (fun e => by rw [e]; rfl)
  subst e
  rfl
/-- isinstance(x, (tuple, list)), isinstance(x, T): the reading -/
theorem isi2 {K : PySem.W.Frag} {H : Hp} {Q : VK} {x : V} {t : Addr} {a b c : String} (r1 r2 : Bool) (hT : H t = some (.tup [.ty b, .ty c])) (ty : TyX K H x (.type a)) (h1 : kitB a b = some r1) (h2 : kitB a c = some r2) (q : Q (.bl (r1 || r2)) H) : rIsiT K [x, .ref t] H Q :=
  ⟨x, t, _, _, _, _, rfl, hT, .cons (.ty _) (.cons (.ty _) .nil), ty, kit2 h1 h2, q⟩
theorem isi1 {K : PySem.W.Frag} {H : Hp} {Q : VK} {x : V} {a b : String} (r1 : Bool) (ty : TyX K H x (.type a)) (h1 : kitB a b = some r1) (q : Q (.bl r1) H) : rIsi K [x, .ty b] H Q :=
  ⟨x, .ty b, _, _, _, rfl, .ty _, ty, kit1 h1, q⟩
theorem iteD {c A B : Prop} [Decidable c] (hc : c) (h : A) : if decide c = true then A else B := by
  rw [decide_eq_true hc]
  exact iteT h
theorem iteN {c A B : Prop} [Decidable c] (hc : ¬ c) (h : B) : if decide c = true then A else B := by
  rw [decide_eq_false hc]
  exact iteF h
/-! ### lists made in a comprehension -/
/-- D holds what stands for cs, and Iv -/
def LcP {γ : Type} (D : Addr) (RC : Hp → V → γ → Prop) (cs : List γ) (Iv : Hp → Prop) (H : Hp) : Prop := ∃ ys, H D = some (.lst ys) ∧ Paired (RC H) ys cs ∧ Iv H
theorem LcP.push {γ : Type} {D : Addr} {RC : Hp → V → γ → Prop} {cs : List γ} {Iv Iv' : Hp → Prop} {H H4 : Hp} {y : V} {c : γ} (p : LcP D RC cs Iv H) (e : H4 D = H D) (hl : cs.length < 2000)
    (st : ∀ o v c, RC H v c → RC (L2.upd H4 D (.lst o)) v c) (new : ∀ o, RC (L2.upd H4 D (.lst o)) y c) (iv : ∀ o, Iv' (L2.upd H4 D (.lst o))) :
    ∃ acc, H4 D = some (.lst acc) ∧ acc.length < sizeLine ∧ LcP D RC (cs ++ [c]) Iv' (L2.upd H4 D (.lst (acc ++ [y]))) := by
  obtain ⟨ys, h1, h2, h3⟩ := p
  exact ⟨ys, e.trans h1, by rw [Paired.length h2, sizeLine_eq]; omega, ys ++ [y], upd_same, Paired.snoc (Paired.mapP h2 fun v c h => st _ v c h) (new _), iv _⟩
theorem LcP.start {γ : Type} {D : Addr} {RC : Hp → V → γ → Prop} {Iv : Hp → Prop} {H : Hp} (iv : Iv (L2.upd H D (.lst []))) : LcP D RC [] Iv (L2.upd H D (.lst [])) := ⟨[], upd_same, .nil, iv⟩
/-- all but D as it was -/
def KB (D : Addr) (H H' : Hp) : Prop := ∀ b u, b ≠ D → H b = some u → H' b = some u
theorem KB.of {D : Addr} {H H' : Hp} (s : Same H H') : KB D H H' := fun b u _ e => s _ _ e
theorem KB.refl (D : Addr) (H : Hp) : KB D H H := fun _ _ _ e => e
theorem KB.same {D : Addr} {H H' H2 : Hp} (k : KB D H H') (s : Same H' H2) : KB D H H2 := fun b u hb e => s _ _ (k b u hb e)
theorem KB.trans {D : Addr} {H H' H2 : Hp} (k : KB D H H') (s : KB D H' H2) : KB D H H2 := fun b u hb e => s b u hb (k b u hb e)
theorem KB.upd {D : Addr} {H H' : Hp} (k : KB D H H') (o : HO) : KB D H (L2.upd H' D o) := fun b u hb e => by rw [upd_ne hb]; exact k b u hb e
/-- from ahead of D -/
theorem KB.all {D : Addr} {H H' : Hp} (k : KB D H H') (h : H D = none) : Same H H' := fun b u e => k b u (ne_of_none e h) e
mutual
theorem Pl.kb {D : Addr} {H H' : Hp} (k : KB D H H') {ys : List V} (hD : H D = some (.lst ys)) : ∀ {v : V} {d : PyData}, Pl H v d → Pl H' v d
  | _, _, .int i => .int i
  | _, _, .str x => .str x
  | _, _, .tup ⟨o, h, e⟩ t => .tup ⟨o, k _ _ (ne_of h hD (by intro z; cases z)) h, e⟩ (PlAll.kb k hD t)
theorem PlAll.kb {D : Addr} {H H' : Hp} (k : KB D H H') {ys : List V} (hD : H D = some (.lst ys)) : ∀ {vs : List V} {ds : List PyData}, PlAll H vs ds → PlAll H' vs ds
  | _, _, .nil => .nil
  | _, _, .cons h t => .cons (Pl.kb k hD h) (PlAll.kb k hD t)
end
theorem KB.tk {D : Addr} {H H' : Hp} (k : KB D H H') {ys : List V} (hD : H D = some (.lst ys)) : TK H H' := fun b xs h => by
  rcases h with h | ⟨o, h⟩
  · exact .inl (k _ _ (ne_of h hD (by intro z; cases z)) h)
  · exact .inr ⟨o, k _ _ (ne_of h hD (by intro z; cases z)) h⟩
theorem dpAll_paired {K : PySem.W.Frag} {H : Hp} : ∀ {vs : List V} {ds : List PyData}, DpAll K H vs ds → Paired (Dp K H) vs ds
  | _, _, .nil => .nil
  | _, _, .cons h t => .cons h (dpAll_paired t)
theorem paired_pl {H : Hp} : ∀ {vs : List V} {ds : List PyData}, Paired (Pl H) vs ds → PlAll H vs ds
  | _, _, .nil => .nil
  | _, _, .cons h t => .cons h (paired_pl t)

/-- what may be told of the things of a list in the making: it stays while all but the list stays -/
def Stays {γ : Type} (RC : Hp → V → γ → Prop) : Prop := ∀ (D : Addr) (H H' : Hp) (ys : List V) (v : V) (c : γ), H D = some (.lst ys) → KB D H H' → RC H v c → RC H' v c
/-- [f(x) for x in .. if t(x)], t and f pure -/
theorem lc_gen {J : It} {n : Nat} {G : Hp → Prop} {Y : Nat → Hp → V → Hp → Prop} (wk : Walk J n G Y) {β γ : Type} (es : List β) (fl : β → Bool) (f : β → γ) (RC : Hp → V → γ → Prop) (st : Stays RC) {g : TG} {tt : TT} {te : TE} {vs : List Nat} {σ : L2.St} {H1 : Hp} {D : Addr} {Qd : Hp → Prop}
    (hD : H1 D = none) (hn : es.length = n) (h1000 : n ≤ 1000) (hG : ∀ H, Same H1 H → G H) (hY : ∀ i H x H', Y i H x H' → Same H H')
    (step : ∀ i x e H H' (N : VK) (M : Hp → Prop), es[i]? = some e → Same H1 H → Y i H x H' → (fl e = true → ∀ y H4, Same H' H4 → RC H4 y (f e) → N y H4) → (fl e = false → ∀ H4, Same H' H4 → M H4) →
      g x (wipe σ vs) H' fun σ2 H2 => wipe σ2 vs = wipe σ vs ∧ tt σ2 H2 fun b H3 => if b = true then te σ2 H3 N else M H3)
    (done : ∀ H ys, Same H1 H → H D = some (.lst ys) → Paired (RC H) ys ((es.filter fl).map f) → Qd H) :
    ∃ W : Nat → Nat → Hp → Prop, (∃ m, W 0 m (L2.upd H1 D (.lst []))) ∧ ∀ i m H, W i m H →
      (J.stop i H ∧ Qd H) ∨ (J.go i H ∧ ∃ Nx : Hp → Prop, (∀ H', Nx H' → ∃ m', m' < m ∧ W (i + 1) m' H') ∧ ∀ x H', J.yld i H x H' → g x (wipe σ vs) H' fun σ2 H2 => wipe σ2 vs = wipe σ vs ∧ tt σ2 H2 fun b H3 =>
        if b = true then te σ2 H3 fun y H4 => ∃ acc, H4 D = some (.lst acc) ∧ acc.length < sizeLine ∧ Nx (L2.upd H4 D (.lst (acc ++ [y]))) else Nx H3) := by
  refine lc_it wk (fun i H' => LcP D RC (((es.take i).filter fl).map f) (KB D H1) H') (LcP.start ((KB.refl _ _).upd _)) (fun i H' _ p => ?_) (fun i x H2 H3 hi p y => ?_) (fun H' p => ?_)
  · obtain ⟨_, _, _, kb⟩ := p
    exact hG _ (kb.all hD)
  · obtain ⟨ys, hL2, hys, kb⟩ := id p
    obtain ⟨e, he⟩ : ∃ e, es[i]? = some e := ⟨_, List.getElem?_eq_getElem (by omega)⟩
    have s23 := hY _ _ _ _ y
    have ex : es.take (i + 1) = es.take i ++ [e] := by rw [List.take_add_one, he]; rfl
    refine step i x e H2 H3 _ _ he (kb.all hD) y (fun hfl r H4 s4 hr4 => ?_) fun hfl H4 s4 => ?_
    · have s24 : Same H2 H4 := s23.trans s4
      have ec : ((es.take (i + 1)).filter fl).map f = ((es.take i).filter fl).map f ++ [f e] := by
        rw [ex, List.filter_append, List.map_append, List.filter_cons_of_pos hfl]; rfl
      rw [ec]
      refine p.push ((s24 _ _ hL2).trans hL2.symm) ?_ (fun o v c h => st D _ _ _ _ _ hL2 ((KB.of s24).upd _) h) (fun o => st D _ _ _ _ _ (s24 _ _ hL2) ((KB.refl _ _).upd _) hr4) (fun o => (kb.same s24).upd _)
      rw [List.length_map]
      have h1 := List.length_filter_le fl (es.take i)
      rw [List.length_take] at h1
      omega
    · have s24 : Same H2 H4 := s23.trans s4
      have ec : ((es.take (i + 1)).filter fl).map f = ((es.take i).filter fl).map f := by
        rw [ex, List.filter_append, List.filter_cons_of_neg (by rw [hfl]; exact Bool.false_ne_true)]; simp
      rw [ec]
      exact ⟨ys, s24 _ _ hL2, Paired.mapP hys fun v c h => st D _ _ _ _ _ hL2 (KB.of s24) h, kb.same s24⟩
  · rw [← hn, List.take_length] at p
    obtain ⟨ys, hL2, hys, kb⟩ := p
    exact done H' ys (kb.all hD) hL2 hys
/-- [f(x) for x in ..], f pure -/
theorem lc_map {J : It} {n : Nat} {G : Hp → Prop} {Y : Nat → Hp → V → Hp → Prop} (wk : Walk J n G Y) {β γ : Type} (es : List β) (f : β → γ) (RC : Hp → V → γ → Prop) (st : Stays RC) {g : TG} {te : TE} {vs : List Nat} {σ : L2.St} {H1 : Hp} {D : Addr} {Qd : Hp → Prop}
    (hD : H1 D = none) (hn : es.length = n) (h1000 : n ≤ 1000) (hG : ∀ H, Same H1 H → G H) (hY : ∀ i H x H', Y i H x H' → Same H H')
    (step : ∀ i x e H H' (N : VK), es[i]? = some e → Same H1 H → Y i H x H' → (∀ y H4, Same H' H4 → RC H4 y (f e) → N y H4) →
      g x (wipe σ vs) H' fun σ2 H2 => wipe σ2 vs = wipe σ vs ∧ te σ2 H2 N)
    (done : ∀ H ys, Same H1 H → H D = some (.lst ys) → Paired (RC H) ys (es.map f) → Qd H) :
    ∃ W : Nat → Nat → Hp → Prop, (∃ m, W 0 m (L2.upd H1 D (.lst []))) ∧ ∀ i m H, W i m H →
      (J.stop i H ∧ Qd H) ∨ (J.go i H ∧ ∃ Nx : Hp → Prop, (∀ H', Nx H' → ∃ m', m' < m ∧ W (i + 1) m' H') ∧ ∀ x H', J.yld i H x H' → g x (wipe σ vs) H' fun σ2 H2 => wipe σ2 vs = wipe σ vs ∧ tYes σ2 H2 fun b H3 =>
        if b = true then te σ2 H3 fun y H4 => ∃ acc, H4 D = some (.lst acc) ∧ acc.length < sizeLine ∧ Nx (L2.upd H4 D (.lst (acc ++ [y]))) else Nx H3) := by
  refine lc_gen wk es (fun _ => true) f RC st hD hn h1000 hG hY (fun i x e H H' N M he s y hN _ => step i x e H H' N he s y (hN rfl)) fun H ys s e p => done H ys s e ?_
  rw [List.filter_eq_self.mpr (fun _ _ => rfl)] at p
  exact p
theorem stays_bl : Stays (fun _ v (c : Bool) => v = .bl c) := fun _ _ _ _ _ _ _ _ h => h
theorem stays_pl : Stays Pl := fun D H H' ys v c hD k h => h.kb k hD
theorem stays_da {K : PySem.W.Frag} : Stays (Da K) := fun D H H' ys v c hD k h => h.tk (k.tk hD)
theorem bls_of : ∀ {ys : List V} {cs : List Bool}, Paired (fun v (c : Bool) => v = .bl c) ys cs → ys = cs.map V.bl
  | _, _, .nil => rfl
  | _, _, .cons h t => by rw [h, bls_of t]; rfl
theorem yat_same {xs : List V} : ∀ i H x H', YAt xs i H x H' → Same H H' := fun i H x H' h => by rw [h.1]; exact Same.refl _

def rLen (K : PySem.W.Frag) : List V → Hp → VK → Prop := fun xs H Q => ∃ p ys, xs = [V.ref p] ∧ (SqL K H p ys ∨ SqT K H p ys) ∧ Q (.int ys.length) H
theorem c_len {X : Cx} : CallR X (.builtin "len") (rLen X.K) := call_len_seq
/-! ### what stands behind the top -/
structure Txt (mg : Str → Option Value) : Prop where
  isi : mg "isinstance" = none
  len : mg "len" = none
  all : mg "all" = none
  any : mg "any" = none
  sorted : mg "sorted" = none
  set : mg "set" = none
  dict : mg "dict" = none
  tuple : mg "tuple" = none
  list : mg "list" = none
  int : mg "int" = none
  str : mg "str" = none
  bool : mg "bool" = none
  enumerate : mg "enumerate" = none
  range : mg "range" = none
  letters : ∃ t, mg "LETTERS" = some (.str "abcdefghijklmnopqrstuvwxyz" t)
  most : ∃ t, mg "MOST" = some (.int 8 t)

theorem b_isi : bootBuiltins "isinstance" = some (.builtin "isinstance") := PyProof.Rows.boot_isinstance
theorem b_len : bootBuiltins "len" = some (.builtin "len") := PySem.boot_len
theorem b_all : bootBuiltins "all" = some (.builtin "all") := PyProof.Rows.boot_all
theorem b_any : bootBuiltins "any" = some (.builtin "any") := PyProof.Rows.boot_any
theorem b_sorted : bootBuiltins "sorted" = some (.builtin "sorted") := PyProof.Rows.boot_sorted
theorem b_set : bootBuiltins "set" = some (.type "set") := PyProof.Rows.boot_set
theorem b_dict : bootBuiltins "dict" = some (.type "dict") := PyProof.Rows.boot_dict
theorem b_tuple : bootBuiltins "tuple" = some (.type "tuple") := PyProof.Rows.boot_tuple
theorem b_list : bootBuiltins "list" = some (.type "list") := PyProof.Rows.boot_list
theorem b_int : bootBuiltins "int" = some (.type "int") := PyProof.Rows.boot_int
theorem b_str : bootBuiltins "str" = some (.type "str") := PyProof.Rows.boot_str
theorem b_bool : bootBuiltins "bool" = some (.type "bool") := PyProof.Rows.boot_bool
theorem b_range : bootBuiltins "range" = some (.type "range") := PyProof.Rows.boot_range
theorem b_enumerate : bootBuiltins "enumerate" = some (.type "enumerate") := PyProof.Rows.boot_enumerate

end VN

/-! The walk through the values' defs. -/
namespace VN
open PySem PySem.Spec PyProof.Rows L2
def spAs (K : PySem.W.Frag) (n : Nat) : Sp := fun vs H Q _ => ∃ v d, vs = [v] ∧ Dp K H v d ∧ fit n d = true ∧ ∀ r H', Same H H' → Pl H' r d → Q r H'
abbrev nAs : List Str := ["thing", "part"]
theorem scAs : FnScope nAs ["thing"] (defScope (top 3)) := ⟨rfl, rfl, rfl, by decide +kernel, rfl, by decide +kernel, by decide +kernel⟩
section
variable {P : Program} {w : World} {K : PySem.W.Frag} {mg : Str → Option Value} {base : Heap}
/-- as_tuples, n deep -/
theorem ok_as_step {n k : Nat} (D : Def K mg "as_tuples" (top 3) ["thing"]) (T : Txt mg) (C : Cal P w K mg base k "as_tuples" ["thing"] (spAs K n)) : Cal P w K mg base (k + 1) "as_tuples" ["thing"] (spAs K (n + 1)) := by
  refine D.cal scAs (fun vs H Q E h => ?_) (fun f cdv A outer s H vs Q E hr h => ?_)
  · obtain ⟨v, d, rfl, _⟩ := h
    rfl
  obtain ⟨v, d, rfl, hd, hf, q⟩ := h
  refine ⟨_, pss_cons (ps_if (pt_val (pe_callB call_isiT rfl T.isi b_isi (pa_cons (pv 0) (pa_cons (pe_tup (pa_cons (pe_bltn rfl T.tuple b_tuple (v := .ty "tuple") rfl) (pa_cons (pe_bltn rfl T.list b_list (v := .ty "list") rfl) pa_nil))) pa_nil))))
      (pss_one (ps_ret (pe_callTy cr_tupP rfl T.tuple b_tuple (pa_cons (pe_lc (own := [("part", 1)]) (g := gName 1) (tt := tYes) rfl scAs.nd (pi_tup (pv 0)) (blkOk_by (N := nAs) (sc := defScope (top 3)) (by decide +kernel))
        (fun _ _ _ _ _ => pg_name (i := 1) scAs.nd rfl (Or.inl rfl)) (fun _ _ _ _ _ => pts_nil) (fun _ _ _ _ _ => pe_c C hr rfl (pa_cons (pv 1) pa_nil))) pa_nil)))) pss_nil)
    (pss_one (ps_ret (pv 0))), ?_⟩
  refine ⟨_, rfl, (by show 2 ≤ sizeLine; decide), fun t ht => ?_⟩
  have s1 : Same H (L2.upd H t (.tup [.ty "tuple", .ty "list"])) := Same.new ht _
  cases hd with
  | int i =>
    refine ⟨_, t, _, _, _, _, rfl, upd_same, .cons (.ty _) (.cons (.ty _) .nil), .base (.int i), kit2 (r1 := false) (r2 := false) (by decide +kernel) (by decide +kernel), ?_⟩
    exact ⟨false, rfl, iteF ⟨_, rfl, q _ _ s1 (.int i)⟩⟩
  | str x =>
    refine ⟨_, t, _, _, _, _, rfl, upd_same, .cons (.ty _) (.cons (.ty _) .nil), .base (.str x), kit2 (r1 := false) (r2 := false) (by decide +kernel) (by decide +kernel), ?_⟩
    exact ⟨false, rfl, iteF ⟨_, rfl, q _ _ s1 (.str x)⟩⟩
  | @tup a xs ds hs ha =>
    rw [fit, Bool.and_eq_true, decide_eq_true_eq] at hf
    have hs1 := TK.sqT (TK.of s1) hs
    refine ⟨_, t, _, _, _, _, rfl, upd_same, .cons (.ty _) (.cons (.ty _) .nil), tyT hs1, kit2 (r1 := true) (r2 := false) (by decide +kernel) (by decide +kernel), ?_⟩
    refine ⟨true, rfl, iteT ⟨_, rfl, a, rfl, ⟨_, hs1⟩, fun L hL => ?_⟩⟩
    have hp := dpAll_paired ha
    have lx : xs.length = ds.length := Paired.length hp
    refine lc_it (walk_tup (xs := xs)) (fun i H' => LcP L Pl (ds.take i) (KB L (L2.upd H t (.tup [.ty "tuple", .ty "list"]))) H') (LcP.start ((KB.refl _ _).upd _)) (fun i H' _ p => ?_) (fun i x H2 H3 hi p y => ?_) (fun H' p => ?_)
    · obtain ⟨_, _, _, kb⟩ := p
      exact TK.sqT (TK.of (kb.all hL)) hs1
    · obtain ⟨rfl, hx⟩ := y
      obtain ⟨d, hd, hxd⟩ := LiI.paired_get hp hx
      obtain ⟨ys, hL2, hys, kb⟩ := id p
      have sm : Same H H3 := s1.trans (kb.all hL)
      have ex : (ds.take (i + 1)) = ds.take i ++ [d] := by rw [List.take_add_one, hd]; rfl
      refine ⟨rfl, _, rfl, x, d, rfl, Dp.tk (TK.of sm) d x (fit_good n d (fitAll_iff.mp hf.2 d (List.mem_of_getElem? hd))) hxd, fitAll_iff.mp hf.2 d (List.mem_of_getElem? hd), fun r H4 s4 hr4 => ?_⟩
      rw [ex]
      refine p.push ((s4 _ _ hL2).trans hL2.symm) (by rw [List.length_take]; omega) (fun o v c h => h.kb ((KB.of s4).upd _) hL2) (fun o => hr4.kb ((KB.refl _ _).upd _) (s4 _ _ hL2)) (fun o => (kb.same s4).upd _)
    · rw [lx, List.take_length] at p
      obtain ⟨ys, hL2, hys, kb⟩ := p
      refine ⟨L, ys, rfl, SqL.of hL2, fun l o hl ho => ?_⟩
      have s3 : Same H' (L2.upd H' l (.frz o (.tup ys))) := Same.new hl _
      exact q _ _ ((s1.trans (kb.all hL)).trans s3) (.tup ⟨o, upd_same, ho⟩ (PlAll.keep s3 (paired_pl hys)))
  | _ => simp [fit] at hf
theorem ok_as (D : Def K mg "as_tuples" (top 3) ["thing"]) (T : Txt mg) : ∀ n : Nat, Cal P w K mg base n "as_tuples" ["thing"] (spAs K n)
  | 0 => D.zero fun vs H Q E h => by
    obtain ⟨v, d, _, _, h, _⟩ := h
    simp [fit] at h
  | n + 1 => ok_as_step D T (ok_as D T n)
end
end VN

/-! is_name, is_integer, is_path, is_link, is_value. -/
namespace VN
open PySem PySem.Spec PyProof.Rows L2

/-- a text that is a name -/
def nmB (x : Str) : Bool := decide (1 ≤ x.length) && decide (x.length ≤ 8) && x.cps.toList.all fun c => decide (97 ≤ c) && decide (c ≤ 122)
def pathB (p : Path) : Bool := decide (p.length ≤ 8) && p.all nmB
def valB : PVal → Bool
  | .int _ => true
  | .nm x => nmB x
  | .link p => pathB p
theorem letter_in {c : Nat} (h1 : 97 ≤ c) (h2 : c ≤ 122) : c ∈ ("abcdefghijklmnopqrstuvwxyz" : Str).cps.toList := by
  have h : ∀ k : Fin 26, (97 + k.val) ∈ ("abcdefghijklmnopqrstuvwxyz" : Str).cps.toList := by decide +kernel
  have := h ⟨c - 97, by omega⟩
  rw [show 97 + (⟨c - 97, by omega⟩ : Fin 26).val = c by show 97 + (c - 97) = c; omega] at this
  exact this
theorem nmB_ok {x : Str} (h : nmB x = true) : PyData.strOk x = true := by
  unfold nmB at h
  rw [Bool.and_eq_true, List.all_eq_true] at h
  unfold PyData.strOk
  rw [← Array.all_toList, List.all_eq_true]
  intro c hc
  have := h.2 c hc
  rw [Bool.and_eq_true, decide_eq_true_eq, decide_eq_true_eq] at this
  exact decide_eq_true (by omega)
theorem fit_name {x : Str} {n : Nat} (h : nmB x = true) : fit (n + 1) (.str x) = true := by rw [fit]; exact nmB_ok h
theorem fit_path {p : Path} {n : Nat} (h : pathB p = true) : fit (n + 2) (dPath p) = true := by
  unfold pathB at h
  rw [Bool.and_eq_true, decide_eq_true_eq, List.all_eq_true] at h
  show fit (n + 1 + 1) (.tuple (p.map .str)) = true
  rw [fit, Bool.and_eq_true, decide_eq_true_eq, List.length_map]
  refine ⟨by omega, fitAll_iff.mpr fun x hx => ?_⟩
  obtain ⟨y, hy, rfl⟩ := List.mem_map.mp hx
  exact fit_name (h.2 y hy)
theorem fit_val {v : PVal} {n : Nat} (h : valB v = true) : fit (n + 3) (dVal v) = true := by
  cases v with
  | int i => simp [dVal, fit]
  | nm x => exact fit_name h
  | link p =>
    show fit (n + 2 + 1) (.tuple [.str "link", dPath p]) = true
    rw [fit, Bool.and_eq_true]
    refine ⟨decide_eq_true (by show 2 ≤ 1000; omega), fitAll_iff.mpr fun x hx => ?_⟩
    rcases List.mem_cons.mp hx with rfl | hx
    · rw [fit]; decide +kernel
    · rcases List.mem_cons.mp hx with rfl | hx
      · exact fit_path h
      · cases hx

/-! ### data at a value -/
theorem Da.sm {K : PySem.W.Frag} {H H' : Hp} {v : V} {d : PyData} (s : Same H H') (h : Da K H v d) : Da K H' v d := h.tk (TK.of s)
theorem daAll {K : PySem.W.Frag} {H : Hp} : ∀ {xs : List V} {ds : List PyData}, DpAll K H xs ds → goodAll ds = true → Paired (Da K H) xs ds
  | _, _, .nil, _ => .nil
  | _, _, .cons h t, g => by
    rw [goodAll, Bool.and_eq_true] at g
    exact .cons ⟨h, g.1⟩ (daAll t g.2)
theorem Da.tupI {K : PySem.W.Frag} {H : Hp} {v : V} {ds : List PyData} (h : Da K H v (.tuple ds)) : ∃ a xs, v = .ref a ∧ SqT K H a xs ∧ Paired (Da K H) xs ds := by
  obtain ⟨h1, h2⟩ := h
  cases h1 with
  | @tup a xs _ hs ha => exact ⟨a, xs, rfl, hs, daAll ha h2⟩
theorem Da.intI {K : PySem.W.Frag} {H : Hp} {v : V} {i : Int} (h : Da K H v (.int i)) : v = .int i := by
  obtain ⟨h1, h2⟩ := h
  cases h1
  rfl
theorem Da.strI {K : PySem.W.Frag} {H : Hp} {v : V} {x : Str} (h : Da K H v (.str x)) : v = .str x := by
  obtain ⟨h1, h2⟩ := h
  cases h1
  rfl
theorem Da.tup2 {K : PySem.W.Frag} {H : Hp} {v : V} {d1 d2 : PyData} (h : Da K H v (.tuple [d1, d2])) : ∃ a x1 x2, v = .ref a ∧ SqT K H a [x1, x2] ∧ Da K H x1 d1 ∧ Da K H x2 d2 := by
  obtain ⟨a, xs, rfl, hs, hp⟩ := h.tupI
  cases hp with
  | cons h1 t =>
    cases t with
    | cons h2 t2 => cases t2; exact ⟨a, _, _, rfl, hs, h1, h2⟩
theorem Da.tup3 {K : PySem.W.Frag} {H : Hp} {v : V} {d1 d2 d3 : PyData} (h : Da K H v (.tuple [d1, d2, d3])) : ∃ a x1 x2 x3, v = .ref a ∧ SqT K H a [x1, x2, x3] ∧ Da K H x1 d1 ∧ Da K H x2 d2 ∧ Da K H x3 d3 := by
  obtain ⟨a, xs, rfl, hs, hp⟩ := h.tupI
  cases hp with
  | cons h1 t =>
    cases t with
    | cons h2 t2 =>
      cases t2 with
      | cons h3 t3 => cases t3; exact ⟨a, _, _, _, rfl, hs, h1, h2, h3⟩
theorem Da.tup4 {K : PySem.W.Frag} {H : Hp} {v : V} {d1 d2 d3 d4 : PyData} (h : Da K H v (.tuple [d1, d2, d3, d4])) : ∃ a x1 x2 x3 x4, v = .ref a ∧ SqT K H a [x1, x2, x3, x4] ∧ Da K H x1 d1 ∧ Da K H x2 d2 ∧ Da K H x3 d3 ∧ Da K H x4 d4 := by
  obtain ⟨a, xs, rfl, hs, hp⟩ := h.tupI
  cases hp with
  | cons h1 t =>
    cases t with
    | cons h2 t2 =>
      cases t2 with
      | cons h3 t3 =>
        cases t3 with
        | cons h4 t4 => cases t4; exact ⟨a, _, _, _, _, rfl, hs, h1, h2, h3, h4⟩
theorem strsI {K : PySem.W.Frag} {H : Hp} : ∀ {p : Path} {xs : List V}, Paired (Da K H) xs (p.map .str) → xs = p.map V.str
  | [], _, h => by cases h; rfl
  | x :: p, _, h => by
    rw [List.map_cons] at h
    cases h with
    | cons h1 t => rw [h1.strI, strsI t]; rfl
theorem Da.pathI {K : PySem.W.Frag} {H : Hp} {v : V} {p : Path} (h : Da K H v (dPath p)) : ∃ a, v = .ref a ∧ SqT K H a (p.map V.str) := by
  obtain ⟨a, xs, rfl, hs, hp⟩ := h.tupI
  rw [strsI hp] at hs
  exact ⟨a, rfl, hs⟩
theorem SqT.sm {K : PySem.W.Frag} {H H' : Hp} {a : Addr} {xs : List V} (s : Same H H') (h : SqT K H a xs) : SqT K H' a xs := TK.sqT (TK.of s) h

/-! ### the promises -/
def spName (K : PySem.W.Frag) : Sp := fun vs H Q _ => (∃ x, vs = [.str x] ∧ nmB x = true ∧ ∀ H', Same H H' → Q (.bl true) H') ∨ (∃ a xs, vs = [.ref a] ∧ SqT K H a xs ∧ ∀ H', Same H H' → Q (.bl false) H')
def spInt (K : PySem.W.Frag) : Sp := fun vs H Q _ => (∃ i, vs = [.int i] ∧ Q (.bl true) H) ∨ (((∃ x, vs = [.str x]) ∨ ∃ a xs, vs = [.ref a] ∧ SqT K H a xs) ∧ Q (.bl false) H)
def spPath (K : PySem.W.Frag) : Sp := fun vs H Q _ => ∃ v p, vs = [v] ∧ Da K H v (dPath p) ∧ pathB p = true ∧ ∀ H', Same H H' → Q (.bl true) H'
def spLink (K : PySem.W.Frag) : Sp := fun vs H Q _ => ∃ v p, vs = [v] ∧ Da K H v (dVal (.link p)) ∧ pathB p = true ∧ ∀ H', Same H H' → Q (.bl true) H'
def spVal (K : PySem.W.Frag) : Sp := fun vs H Q _ => ∃ v x, vs = [v] ∧ Da K H v (dVal x) ∧ valB x = true ∧ ∀ H', Same H H' → Q (.bl true) H'
end VN

/-! is_name, is_integer, is_path, is_link, is_value: the walk. -/
namespace VN
open PySem PySem.Spec PyProof.Rows L2
section
variable {P : Program} {w : World} {K : PySem.W.Frag} {mg : Str → Option Value} {base : Heap} {k : Nat}
abbrev nNm : List Str := ["value", "letter"]
theorem scNm : FnScope nNm ["value"] (defScope (top 4)) := ⟨rfl, rfl, rfl, by decide +kernel, rfl, by decide +kernel, by decide +kernel⟩
theorem ok_name (D : Def K mg "is_name" (top 4) ["value"]) (T : Txt mg) : Cal P w K mg base 1 "is_name" ["value"] (spName K) := by
  refine D.cal scNm (fun vs H Q E h => ?_) (fun f cdv A outer s H vs Q E hr h => ?_)
  · rcases h with ⟨x, rfl, _⟩ | ⟨a, xs, rfl, _⟩ <;> rfl
  obtain ⟨tl, hLet⟩ := T.letters
  obtain ⟨tm, hMost⟩ := T.most
  refine ⟨_, pss_cons (ps_if (PW.pt (pw_or (pt_not (pt_val (pe_callB call_isi rfl T.isi b_isi (pa_cons (pv 0) (pa_cons (pe_bltn rfl T.str b_str (v := .ty "str") rfl) pa_nil)))))
      (pw_or1 (pt_not (pt_chain op_le op_le pe_int (pe_callB call_len_str rfl T.len b_len (pa_cons (pv 0) pa_nil)) (pe_glob (v := .int 8) rfl hMost ⟨_, rfl⟩)))))) (pss_one (ps_ret pe_bl)) pss_nil)
    (pss_one (ps_ret (pe_callB (cr_all rfl) rfl T.all b_all (pa_cons (pe_lc (own := [("letter", 1)]) (g := gName 1) (tt := tYes) rfl scNm.nd (pi_str (pv 0)) (blkOk_by (N := nNm) (sc := defScope (top 4)) (by decide +kernel))
        (fun _ _ _ _ _ => pg_name (i := 1) scNm.nd rfl (Or.inl rfl)) (fun _ _ _ _ _ => pts_nil) (fun _ _ _ _ _ => pe_cmpR op_in_sign (pv 1) (pe_glob (v := .str "abcdefghijklmnopqrstuvwxyz") rfl hLet ⟨_, rfl⟩) (by rfl))) pa_nil)))), ?_⟩
  rcases h with ⟨x, rfl, hx, q⟩ | ⟨a, xs, rfl, hs, q⟩
  · unfold nmB at hx
    rw [Bool.and_eq_true, Bool.and_eq_true, decide_eq_true_eq, decide_eq_true_eq, List.all_eq_true] at hx
    obtain ⟨⟨h1, h8⟩, ha⟩ := hx
    refine ⟨_, rfl, _, _, _, _, _, rfl, .ty _, .base (.str x), kit1 (r := true) (by decide +kernel), true, rfl, ?_⟩
    refine ⟨_, rfl, x, rfl, by rw [sizeLine_eq]; omega, 1, (x.length : Int), rfl, rfl, ?_⟩
    refine ⟨_, rfl, iteD (by omega) ?_⟩
    refine ⟨_, _, rfl, rfl, ?_⟩
    refine ⟨_, rfl, iteNS (by omega) ?_⟩
    refine ⟨_, rfl, x, rfl, fun L hL => ?_⟩
    refine lc_map walk_str (List.replicate x.cps.size true) (fun b => b) (fun _ v c => v = .bl c) stays_bl hL (by simp) ?_ (fun _ _ => True.intro) (fun i H x H' h => by rw [h.1]; exact Same.refl _) (fun i y e H2 H3 N he s1 hy n => ?_) (fun H2 ys s1 e hys => ?_)
    · show x.length ≤ 1000
      omega
    · obtain ⟨rfl, c, hc, rfl⟩ := hy
      have hm : c ∈ x.cps.toList := by rw [Array.mem_toList_iff]; exact Array.mem_of_getElem? hc
      have hr2 := ha c hm
      rw [Bool.and_eq_true, decide_eq_true_eq, decide_eq_true_eq] at hr2
      have ee : e = true := by
        rw [List.getElem?_replicate] at he
        split at he <;> simp_all
      subst ee
      refine ⟨rfl, _, rfl, c, _, rfl, rfl, ?_⟩
      rw [decide_eq_true (letter_in hr2.1 hr2.2)]
      exact n _ _ (Same.refl _) rfl
    · rw [bls_of hys] at e
      refine ⟨L, _, rfl, SqL.of e, ?_⟩
      have : (List.map (fun b => b) (List.replicate x.cps.size true)).all id = true := by simp
      rw [this]
      exact q _ s1
  · refine ⟨_, rfl, _, _, _, _, _, rfl, .ty _, tyT hs, kit1 (r := false) (by decide +kernel), false, rfl, q _ (Same.refl _)⟩
abbrev nIn : List Str := ["value"]
theorem scIn : FnScope nIn ["value"] (defScope (top 5)) := ⟨rfl, rfl, rfl, by decide +kernel, rfl, by decide +kernel, by decide +kernel⟩
theorem ok_int (D : Def K mg "is_integer" (top 5) ["value"]) (T : Txt mg) : Cal P w K mg base 1 "is_integer" ["value"] (spInt K) := by
  refine D.cal scIn (fun vs H Q E h => ?_) (fun f cdv A outer s H vs Q E hr h => ?_)
  · rcases h with ⟨x, rfl, _⟩ | ⟨⟨x, rfl⟩ | ⟨a, xs, rfl, _⟩, _⟩ <;> rfl
  refine ⟨_, pss_one (ps_ret (pe_and (pe_callB call_isi rfl T.isi b_isi (pa_cons (pv 0) (pa_cons (pe_bltn rfl T.int b_int (v := .ty "int") rfl) pa_nil)))
    (pe_one (pe_not (pe_callB call_isi rfl T.isi b_isi (pa_cons (pv 0) (pa_cons (pe_bltn rfl T.bool b_bool (v := .ty "bool") rfl) pa_nil))))))), ?_⟩
  rcases h with ⟨i, rfl, q⟩ | ⟨⟨x, rfl⟩ | ⟨a, xs, rfl, hs⟩, q⟩
  · exact ⟨_, rfl, _, _, _, _, _, rfl, .ty _, .base (.int i), kit1 (r := true) (by decide +kernel), true, rfl, _, rfl, _, _, _, _, _, rfl, .ty _, .base (.int i), kit1 (r := false) (by decide +kernel), false, rfl, q⟩
  · exact ⟨_, rfl, _, _, _, _, _, rfl, .ty _, .base (.str x), kit1 (r := false) (by decide +kernel), false, rfl, q⟩
  · exact ⟨_, rfl, _, _, _, _, _, rfl, .ty _, tyT hs, kit1 (r := false) (by decide +kernel), false, rfl, q⟩
abbrev nPa : List Str := ["value", "part"]
theorem scPa : FnScope nPa ["value"] (defScope (top 6)) := ⟨rfl, rfl, rfl, by decide +kernel, rfl, by decide +kernel, by decide +kernel⟩
theorem ok_path (D : Def K mg "is_path" (top 6) ["value"]) (T : Txt mg) (C : Cal P w K mg base 1 "is_name" ["value"] (spName K)) : Cal P w K mg base 2 "is_path" ["value"] (spPath K) := by
  refine D.cal scPa (fun vs H Q E h => ?_) (fun f cdv A outer s H vs Q E hr h => ?_)
  · obtain ⟨v, p, rfl, _⟩ := h
    rfl
  obtain ⟨tm, hMost⟩ := T.most
  refine ⟨_, pss_one (ps_ret (pe_and (pe_callB call_isi rfl T.isi b_isi (pa_cons (pv 0) (pa_cons (pe_bltn rfl T.tuple b_tuple (v := .ty "tuple") rfl) pa_nil)))
    (pe_and (pe_cmpR op_le (pe_callB call_len_seq rfl T.len b_len (pa_cons (pv 0) pa_nil)) (pe_glob (v := .int 8) rfl hMost ⟨_, rfl⟩) (nomark _))
      (pe_one (pe_callB (cr_all rfl) rfl T.all b_all (pa_cons (pe_lc (own := [("part", 1)]) (g := gName 1) (tt := tYes) rfl scPa.nd (pi_tup (pv 0)) (blkOk_by (N := nPa) (sc := defScope (top 6)) (by decide +kernel))
        (fun _ _ _ _ _ => pg_name (i := 1) scPa.nd rfl (Or.inl rfl)) (fun _ _ _ _ _ => pts_nil) (fun _ _ _ _ _ => pe_c C hr rfl (pa_cons (pv 1) pa_nil))) pa_nil)))))), ?_⟩
  obtain ⟨v, p, rfl, hd, hp, q⟩ := h
  unfold pathB at hp
  rw [Bool.and_eq_true, decide_eq_true_eq, List.all_eq_true] at hp
  obtain ⟨a, rfl, hs⟩ := hd.pathI
  refine ⟨_, rfl, _, _, _, _, _, rfl, .ty _, tyT hs, kit1 (r := true) (by decide +kernel), true, rfl, ?_⟩
  refine ⟨_, rfl, a, _, rfl, .inr hs, _, _, rfl, rfl, ?_⟩
  refine ⟨_, rfl, iteD (by rw [List.length_map]; omega) ?_⟩
  refine ⟨_, rfl, a, rfl, ⟨_, hs⟩, fun L hL => ?_⟩
  refine lc_map (walk_tup (xs := p.map V.str)) p (fun _ => true) (fun _ v c => v = .bl c) stays_bl hL (by simp) (by rw [List.length_map]; omega) (fun H2 s1 => SqT.sm s1 hs) yat_same (fun i y e H2 H3 N he s1 hy n => ?_) (fun H2 ys s1 e hys => ?_)
  · obtain ⟨rfl, hy⟩ := hy
    rw [List.getElem?_map, he] at hy
    cases hy
    exact ⟨rfl, _, rfl, .inl ⟨e, rfl, hp.2 e (List.mem_of_getElem? he), fun H' s4 => n _ _ s4 rfl⟩⟩
  · rw [bls_of hys] at e
    refine ⟨L, _, rfl, SqL.of e, ?_⟩
    have : (List.map (fun _ => true) p).all id = true := by simp
    rw [this]
    exact q _ s1
abbrev nLk : List Str := ["value"]
theorem scLk : FnScope nLk ["value"] (defScope (top 7)) := ⟨rfl, rfl, rfl, by decide +kernel, rfl, by decide +kernel, by decide +kernel⟩
theorem ok_link (D : Def K mg "is_link" (top 7) ["value"]) (T : Txt mg) (C : Cal P w K mg base 2 "is_path" ["value"] (spPath K)) : Cal P w K mg base 3 "is_link" ["value"] (spLink K) := by
  refine D.cal scLk (fun vs H Q E h => ?_) (fun f cdv A outer s H vs Q E hr h => ?_)
  · obtain ⟨v, p, rfl, _⟩ := h
    rfl
  refine ⟨_, pss_one (ps_ret (pe_and (pe_callB call_isi rfl T.isi b_isi (pa_cons (pv 0) (pa_cons (pe_bltn rfl T.tuple b_tuple (v := .ty "tuple") rfl) pa_nil)))
    (pe_and (pe_cmpR op_eq (pe_callB call_len_seq rfl T.len b_len (pa_cons (pv 0) pa_nil)) pe_int (nomark _))
      (pe_and (pe_cmpR op_eq (pe_ix ix_tup (pv 0) pe_int (fun _ _ => rfl)) pe_str (nomark _))
        (pe_one (pe_c C hr rfl (pa_cons (pe_ix ix_tup (pv 0) pe_int (fun _ _ => rfl)) pa_nil))))))), ?_⟩
  obtain ⟨v, p, rfl, hd, hp, q⟩ := h
  obtain ⟨a, x1, x2, rfl, hs, d1, d2⟩ := (show Da K H v (.tuple [.str "link", dPath p]) from hd).tup2
  obtain rfl := d1.strI
  refine ⟨_, rfl, _, _, _, _, _, rfl, .ty _, tyT hs, kit1 (r := true) (by decide +kernel), true, rfl, ?_⟩
  refine ⟨_, rfl, a, _, rfl, .inr hs, rfl, ?_⟩
  refine ⟨_, rfl, ?_⟩
  refine ⟨_, rfl, a, _, _, _, rfl, rfl, hs, rfl, rfl, ?_⟩
  refine ⟨_, rfl, ?_⟩
  exact ⟨_, rfl, a, _, _, _, rfl, rfl, hs, rfl, _, p, rfl, d2, hp, q⟩
abbrev nVl : List Str := ["value"]
theorem scVl : FnScope nVl ["value"] (defScope (top 8)) := ⟨rfl, rfl, rfl, by decide +kernel, rfl, by decide +kernel, by decide +kernel⟩
theorem ok_value (D : Def K mg "is_value" (top 8) ["value"]) (T : Txt mg) (CI : Cal P w K mg base 1 "is_integer" ["value"] (spInt K)) (CN : Cal P w K mg base 1 "is_name" ["value"] (spName K)) (CL : Cal P w K mg base 3 "is_link" ["value"] (spLink K)) :
    Cal P w K mg base 4 "is_value" ["value"] (spVal K) := by
  refine D.cal scVl (fun vs H Q E h => ?_) (fun f cdv A outer s H vs Q E hr h => ?_)
  · obtain ⟨v, p, rfl, _⟩ := h
    rfl
  have hr1 : Room 1 _ := hr.mono (by decide)
  refine ⟨_, pss_one (ps_ret (pe_or (pe_c CI hr1 rfl (pa_cons (pv 0) pa_nil)) (pe_or (pe_c CN hr1 rfl (pa_cons (pv 0) pa_nil)) (pe_one (pe_c CL hr rfl (pa_cons (pv 0) pa_nil)))))), ?_⟩
  obtain ⟨v, x, rfl, hd, hx, q⟩ := h
  cases x with
  | int i =>
    obtain rfl := hd.intI
    exact ⟨_, rfl, .inl ⟨i, rfl, true, rfl, q _ (Same.refl _)⟩⟩
  | nm x =>
    obtain rfl := hd.strI
    exact ⟨_, rfl, .inr ⟨.inl ⟨x, rfl⟩, false, rfl, _, rfl, .inl ⟨x, rfl, hx, fun H' s1 => ⟨true, rfl, q _ s1⟩⟩⟩⟩
  | link p =>
    obtain ⟨a, x1, x2, rfl, hs, d1, d2⟩ := (show Da K H v (.tuple [.str "link", dPath p]) from hd).tup2
    exact ⟨_, rfl, .inr ⟨.inr ⟨a, _, rfl, hs⟩, false, rfl, _, rfl, .inr ⟨a, _, rfl, hs, fun H' s1 => ⟨false, rfl, _, rfl, _, p, rfl, hd.sm s1, hx, fun H2 s2 => q _ (s1.trans s2)⟩⟩⟩⟩
end
end VN

/-! == on data. -/
namespace VN
open PySem PySem.Spec PyProof.Rows L2
mutual
theorem eqv_eq : ∀ (d e : PyData), good d = true → good e = true → (PyData.eqv d e = true ↔ d = e)
  | .int i, e, _, h => by
    cases e with
    | int j => simp [PyData.eqv]
    | str _ => simp [PyData.eqv]
    | tuple _ => simp [PyData.eqv]
    | _ => simp [good] at h
  | .str x, e, _, h => by
    cases e with
    | int j => simp [PyData.eqv]
    | str _ => simp [PyData.eqv]
    | tuple _ => simp [PyData.eqv]
    | _ => simp [good] at h
  | .tuple xs, e, g, h => by
    cases e with
    | int j => simp [PyData.eqv]
    | str _ => simp [PyData.eqv]
    | tuple ys =>
      have := eqvAll_eq xs ys (by simpa [good] using g) (by simpa [good] using h)
      rw [PyData.eqv, this]
      exact ⟨fun e => by rw [e], fun e => by cases e; rfl⟩
    | _ => simp [good] at h
  | .none, _, g, _ => by simp [good] at g
  | .bool _, _, g, _ => by simp [good] at g
  | .list _, _, g, _ => by simp [good] at g
  | .dict _, _, g, _ => by simp [good] at g
theorem eqvAll_eq : ∀ (xs ys : List PyData), goodAll xs = true → goodAll ys = true → (PyData.eqvAll xs ys = true ↔ xs = ys)
  | [], [], _, _ => by simp [PyData.eqvAll]
  | [], _ :: _, _, _ => by simp [PyData.eqvAll]
  | _ :: _, [], _, _ => by simp [PyData.eqvAll]
  | x :: xs, y :: ys, g, h => by
    rw [goodAll, Bool.and_eq_true] at g h
    rw [PyData.eqvAll, Bool.and_eq_true, eqv_eq x y g.1 h.1, eqvAll_eq xs ys g.2 h.2]
    exact ⟨fun ⟨a, b⟩ => by rw [a, b], fun e => by cases e; exact ⟨rfl, rfl⟩⟩
end
theorem eqv_self {d : PyData} (g : good d = true) : PyData.eqv d d = true := (eqv_eq d d g g).mpr rfl
theorem eqv_ne {d e : PyData} (g : good d = true) (h : good e = true) (n : d ≠ e) : PyData.eqv d e = false := by
  cases q : PyData.eqv d e with
  | false => rfl
  | true => exact absurd ((eqv_eq d e g h).mp q) n
mutual
theorem good_lay : ∀ d : PyData, good d = true → d.canLay0 = true
  | .int _, _ => by simp [PyData.canLay0]
  | .str x, h => by simpa [good, PyData.canLay0] using h
  | .tuple xs, h => by
    rw [PyData.canLay0]
    exact goodAll_lay xs (by simpa [good] using h)
  | .none, h => by simp [good] at h
  | .bool _, h => by simp [good] at h
  | .list _, h => by simp [good] at h
  | .dict _, h => by simp [good] at h
theorem goodAll_lay : ∀ ds : List PyData, goodAll ds = true → PyData.canLayAll0 ds = true
  | [], _ => by simp [PyData.canLayAll0]
  | d :: ds, h => by
    rw [goodAll, Bool.and_eq_true] at h
    rw [PyData.canLayAll0, good_lay d h.1, goodAll_lay ds h.2]; rfl
end
mutual
theorem fit_depth : ∀ (n : Nat) (d : PyData), fit n d = true → d.depth ≤ n
  | 0, _, h => by simp [fit] at h
  | _ + 1, .int _, _ => by simp [PyData.depth]
  | _ + 1, .str x, h => by simp [PyData.depth]
  | n + 1, .tuple xs, h => by
    rw [fit, Bool.and_eq_true, decide_eq_true_eq] at h
    have h1 := fitAll_depth n xs h.2
    simp only [PyData.depth]; omega
  | _ + 1, .none, h => by simp [fit] at h
  | _ + 1, .bool _, h => by simp [fit] at h
  | _ + 1, .list _, h => by simp [fit] at h
  | _ + 1, .dict _, h => by simp [fit] at h
theorem fitAll_depth : ∀ (n : Nat) (ds : List PyData), fitAll n ds = true → PyData.depthAll ds ≤ n
  | _, [], _ => by simp [PyData.depthAll]
  | n, d :: ds, h => by
    rw [fitAll, Bool.and_eq_true] at h
    have h1 := fit_depth n d h.1
    have h3 := fitAll_depth n ds h.2
    simp only [PyData.depthAll]; omega
end
theorem shaped_of {d : PyData} (g : good d = true) (h : d.depth ≤ 64) : SeqAt.shaped d = true := by
  unfold SeqAt.shaped
  rw [good_lay d g, decide_eq_true h]; rfl
theorem shaped_fit {n : Nat} {d : PyData} (h : fit n d = true) (hn : n ≤ 64) : SeqAt.shaped d = true := shaped_of (fit_good n d h) (Nat.le_trans (fit_depth n d h) hn)
theorem depthAll_le {n : Nat} : ∀ {ds : List PyData}, (∀ d ∈ ds, d.depth ≤ n) → PyData.depthAll ds ≤ n
  | [], _ => by simp [PyData.depthAll]
  | d :: ds, h => by
    have h1 := h d List.mem_cons_self
    have h2 := depthAll_le fun x hx => h x (List.mem_cons_of_mem d hx)
    simp only [PyData.depthAll]; omega
/-- lists of texts -/
theorem goodAll_iff : ∀ {ds : List PyData}, goodAll ds = true ↔ ∀ d ∈ ds, good d = true
  | [] => by simp [goodAll]
  | d :: ds => by
    rw [goodAll, Bool.and_eq_true, goodAll_iff]
    simp
theorem texts_shaped {ks : List Str} (h : ∀ k ∈ ks, PyData.strOk k = true) : SeqAt.shaped (.list (ks.map .str)) = true ∧ PyData.eqv (.list (ks.map .str)) (.list (ks.map .str)) = true := by
  have g : goodAll (ks.map .str) = true := goodAll_iff.mpr fun d hd => by
    obtain ⟨k, hk, rfl⟩ := List.mem_map.mp hd
    exact h k hk
  constructor
  · unfold SeqAt.shaped
    have d1 : PyData.depthAll (ks.map .str) ≤ 0 := depthAll_le fun d hd => by
      obtain ⟨k, hk, rfl⟩ := List.mem_map.mp hd
      simp [PyData.depth]
    rw [PyData.canLay0, goodAll_lay _ g, decide_eq_true (by simp only [PyData.depth]; omega)]; rfl
  · rw [PyData.eqv]
    exact (eqvAll_eq _ _ g g).mpr rfl
end VN

/-! are_named, is_ascending, is_tree_of, is_tree, checked_tree. -/
namespace VN
open PySem PySem.Spec PyProof.Rows L2

/-! ### trees that are trees -/
def Asc (ns : List Str) : Prop := ns.Pairwise fun a b => ltS a b = true
def kids : Kids → List (Str × Tree)
  | .nil => []
  | .cons n ps sub rest => (n, ⟨ps, sub⟩) :: kids rest
theorem kNP_kids : ∀ ks : Kids, kNP ks = (kids ks).map fun x => (x.1, dTree x.2)
  | .nil => rfl
  | .cons n ps sub rest => by
    rw [kNP, kids, List.map_cons, kNP_kids rest]; rfl
structure PsOk (ps : List (Str × PVal)) : Prop where
  nm : ∀ p ∈ ps, nmB p.1 = true
  vl : ∀ p ∈ ps, valB p.2 = true
  asc : Asc (ps.map (·.1))
  len : ps.length ≤ 100
def TOk : Nat → Tree → Prop
  | 0, _ => False
  | n + 1, t => PsOk t.ps ∧ Asc ((kids t.ks).map (·.1)) ∧ (kids t.ks).length ≤ 3 ∧ ∀ x ∈ kids t.ks, nmB x.1 = true ∧ TOk n x.2
theorem TOk.up : ∀ {n : Nat} {t : Tree}, TOk n t → TOk (n + 1) t
  | 0, _, h => h.elim
  | n + 1, t, ⟨h1, h2, h3, h4⟩ => ⟨h1, h2, h3, fun x hx => ⟨(h4 x hx).1, TOk.up (h4 x hx).2⟩⟩
theorem TOk.le {n m : Nat} {t : Tree} (h : TOk n t) (le : n ≤ m) : TOk m t := by
  induction le with
  | refl => exact h
  | step _ ih => exact ih.up
theorem fit_pair {n : Nat} {x : NP} (h1 : nmB x.1 = true) (h2 : fit n x.2 = true) : fit (n + 1) (dPair x) = true := by
  show fit (n + 1) (.tuple [.str x.1, x.2]) = true
  rw [fit, Bool.and_eq_true]
  refine ⟨decide_eq_true (by show 2 ≤ 1000; omega), fitAll_iff.mpr fun d hd => ?_⟩
  rcases List.mem_cons.mp hd with rfl | hd
  · cases n with
    | zero => simp [fit] at h2
    | succ n => exact fit_name h1
  · rcases List.mem_cons.mp hd with rfl | hd
    · exact h2
    · cases hd
theorem fit_pairs {n : Nat} {l : List NP} (hl : l.length ≤ 1000) (h : ∀ x ∈ l, nmB x.1 = true ∧ fit n x.2 = true) : fit (n + 2) (.tuple (l.map dPair)) = true := by
  show fit (n + 1 + 1) _ = true
  rw [fit, Bool.and_eq_true, decide_eq_true_eq, List.length_map]
  refine ⟨hl, fitAll_iff.mpr fun d hd => ?_⟩
  obtain ⟨x, hx, rfl⟩ := List.mem_map.mp hd
  exact fit_pair (h x hx).1 (h x hx).2
theorem fit_node {n : Nat} {a b : List NP} (ha : a.length ≤ 1000) (hb : b.length ≤ 1000) (h1 : ∀ x ∈ a, nmB x.1 = true ∧ fit n x.2 = true) (h2 : ∀ x ∈ b, nmB x.1 = true ∧ fit n x.2 = true) : fit (n + 3) (dNode a b) = true := by
  show fit (n + 2 + 1) (.tuple [.tuple (a.map dPair), .tuple (b.map dPair)]) = true
  rw [fit, Bool.and_eq_true]
  refine ⟨decide_eq_true (by show 2 ≤ 1000; omega), fitAll_iff.mpr fun d hd => ?_⟩
  rcases List.mem_cons.mp hd with rfl | hd
  · exact fit_pairs ha h1
  · rcases List.mem_cons.mp hd with rfl | hd
    · exact fit_pairs hb h2
    · cases hd
theorem fit_vPs {ps : List (Str × PVal)} (h : PsOk ps) {n : Nat} (hn : 3 ≤ n) : ∀ x ∈ vPs ps, nmB x.1 = true ∧ fit n x.2 = true := fun x hx => by
  obtain ⟨p, hp, rfl⟩ := List.mem_map.mp hx
  exact ⟨h.nm p hp, fit_le (fit_val (n := 0) (h.vl p hp)) hn⟩
theorem fit_tree : ∀ {n : Nat} {t : Tree}, TOk n t → fit (3 * n + 3) (dTree t) = true
  | 0, _, h => h.elim
  | n + 1, t, ⟨h1, h2, h3, h4⟩ => by
    show fit (3 * n + 3 + 3) (dNode (vPs t.ps) (kNP t.ks)) = true
    refine fit_node ?_ ?_ (fit_vPs h1 (by omega)) fun x hx => ?_
    · show (List.map _ _).length ≤ 1000
      rw [List.length_map]; have := h1.len; omega
    · rw [kNP_kids, List.length_map]; omega
    · rw [kNP_kids] at hx
      obtain ⟨y, hy, rfl⟩ := List.mem_map.mp hx
      exact ⟨(h4 y hy).1, fit_tree (h4 y hy).2⟩

/-! ### ascending names -/
theorem asc_nodup {ns : List Str} (h : Asc ns) : ns.Nodup := List.Pairwise.imp (fun {a b} hab e => by rw [e, ltS_irr] at hab; cases hab) h
theorem sorted_eq {a b : List Str} (p : a.Perm b) (ha : a.Pairwise fun x y => ltS y x = false) (hb : b.Pairwise fun x y => ltS y x = false) : a = b := by
  refine List.Perm.eq_of_pairwise (le := fun x y => ltS y x = false) (fun x y _ _ h1 h2 => ltS_eq h2 h1) ha hb p
theorem asc_sorted {ns : List Str} (h : Asc ns) : ns.Pairwise fun x y => ltS y x = false := List.Pairwise.imp (fun hab => ltS_asym hab) h

def spPairs (K : PySem.W.Frag) (C : List NP → Prop) : Sp := fun vs H Q _ => ∃ v l, vs = [v] ∧ Da K H v (.tuple (l.map dPair)) ∧ l.length ≤ 1000 ∧ (∀ x ∈ l, nmB x.1 = true) ∧ C l ∧ ∀ H', Same H H' → Q (.bl true) H'
theorem pairs_at {K : PySem.W.Frag} {H : Hp} {xs : List V} {l : List NP} (h : Paired (Da K H) xs (l.map dPair)) {i : Nat} {x : NP} (e : l[i]? = some x) : ∃ a v, xs[i]? = some (.ref a) ∧ SqT K H a [.str x.1, v] ∧ Da K H v x.2 := by
  have e2 : (l.map dPair)[i]? = some (dPair x) := by rw [List.getElem?_map, e]; rfl
  have hl := Paired.length h
  have hi : i < xs.length := by
    have := (List.getElem?_eq_some_iff.mp e2).1
    omega
  obtain ⟨y, hy, hd⟩ := LiI.paired_get h (List.getElem?_eq_getElem hi)
  rw [e2] at hy
  cases hy
  obtain ⟨a, x1, x2, e3, hs, d1, d2⟩ := (show Da K H xs[i] (.tuple [.str x.1, x.2]) from hd).tup2
  obtain rfl := d1.strI
  exact ⟨a, x2, by rw [List.getElem?_eq_getElem hi, e3], hs, d2⟩
theorem strs_of : ∀ {ys : List V} {cs : List Str}, Paired (fun v (c : Str) => v = .str c) ys cs → ys = cs.map V.str
  | _, _, .nil => rfl
  | _, _, .cons h t => by rw [h, strs_of t]; rfl
theorem strs_dp {K : PySem.W.Frag} {H : Hp} : ∀ ks : List Str, DpAll K H (ks.map V.str) (ks.map .str)
  | [] => .nil
  | k :: ks => .cons (.str k) (strs_dp ks)
section
variable {P : Program} {w : World} {K : PySem.W.Frag} {mg : Str → Option Value} {base : Heap} {k : Nat}
abbrev nAn : List Str := ["pairs", "pair"]
theorem scAn : FnScope nAn ["pairs"] (defScope (top 15)) := ⟨rfl, rfl, rfl, by decide +kernel, rfl, by decide +kernel, by decide +kernel⟩
theorem ok_named (D : Def K mg "are_named" (top 15) ["pairs"]) (T : Txt mg) (C : Cal P w K mg base 1 "is_name" ["value"] (spName K)) : Cal P w K mg base 2 "are_named" ["pairs"] (spPairs K fun _ => True) := by
  refine D.cal scAn (fun vs H Q E h => ?_) (fun f cdv A outer s H vs Q E hr h => ?_)
  · obtain ⟨v, p, rfl, _⟩ := h
    rfl
  obtain ⟨v, l, rfl, hd, hl, hn, _, q⟩ := h
  refine ⟨_, pss_cons (ps_if (pt_not (pt_val (pe_callB call_isi rfl T.isi b_isi (pa_cons (pv 0) (pa_cons (pe_bltn rfl T.tuple b_tuple (v := .ty "tuple") rfl) pa_nil))))) (pss_one (ps_ret pe_bl)) pss_nil)
    (pss_one (ps_ret (pe_callB (cr_all rfl) rfl T.all b_all (pa_cons (pe_lc (own := [("pair", 1)]) (g := gName 1) (tt := tYes) rfl scAn.nd (pi_tup (pv 0)) (blkOk_by (N := nAn) (sc := defScope (top 15)) (by decide +kernel))
        (fun _ _ _ _ _ => pg_name (i := 1) scAn.nd rfl (Or.inl rfl)) (fun _ _ _ _ _ => pts_nil)
        (fun _ _ _ _ _ => pe_and (pe_callB (r := rIsi K) call_isi rfl T.isi b_isi (pa_cons (pv 1) (pa_cons (pe_bltn rfl T.tuple b_tuple (v := .ty "tuple") rfl) pa_nil)))
          (pe_and (pe_cmpR op_eq (pe_callB (r := rLen K) c_len rfl T.len b_len (pa_cons (pv 1) pa_nil)) pe_int (nomark _))
            (pe_one (pe_c C hr rfl (pa_cons (pe_ix (r := rIxT K) ix_tup (pv 1) pe_int (fun _ _ => rfl)) pa_nil)))))) pa_nil)))), ?_⟩
  obtain ⟨a, xs, rfl, hs, hp⟩ := hd.tupI
  refine ⟨_, rfl, _, _, _, _, _, rfl, .ty _, tyT hs, kit1 (r := true) (by decide +kernel), true, rfl, ?_⟩
  refine ⟨_, rfl, a, rfl, ⟨_, hs⟩, fun L hL => ?_⟩
  have lx : xs.length = l.length := by rw [Paired.length hp, List.length_map]
  refine lc_map (walk_tup (xs := xs)) l (fun _ => true) (fun _ v c => v = .bl c) stays_bl hL lx.symm (by omega) (fun H2 s1 => SqT.sm s1 hs) yat_same (fun i y e H2 H3 N he s1 hy n => ?_) (fun H2 ys s1 e hys => ?_)
  · obtain ⟨rfl, hy⟩ := hy
    obtain ⟨b, x2, h1, h2, h3⟩ := pairs_at hp he
    rw [hy] at h1
    cases h1
    have h2' := SqT.sm s1 h2
    refine ⟨rfl, _, rfl, _, _, _, _, _, rfl, .ty _, tyT h2', kit1 (r := true) (by decide +kernel), true, rfl, ?_⟩
    refine ⟨_, rfl, b, _, rfl, .inr h2', rfl, _, rfl, ?_⟩
    exact ⟨_, rfl, b, _, _, _, rfl, rfl, h2', rfl, .inl ⟨_, rfl, hn e (List.mem_of_getElem? he), fun H' s4 => n _ _ s4 rfl⟩⟩
  · rw [bls_of hys] at e
    refine ⟨L, _, rfl, SqL.of e, ?_⟩
    have : (List.map (fun _ => true) l).all id = true := by simp
    rw [this]
    exact q _ s1
abbrev nAs2 : List Str := ["pairs", "names", "pair"]
theorem scAs2 : FnScope nAs2 ["pairs"] (defScope (top 16)) := ⟨rfl, rfl, rfl, by decide +kernel, rfl, by decide +kernel, by decide +kernel⟩
theorem ok_asc (D : Def K mg "is_ascending" (top 16) ["pairs"]) (T : Txt mg) : Cal P w K mg base 1 "is_ascending" ["pairs"] (spPairs K fun l => Asc (l.map (·.1))) := by
  refine D.cal scAs2 (fun vs H Q E h => ?_) (fun f cdv A outer s H vs Q E hr h => ?_)
  · obtain ⟨v, p, rfl, _⟩ := h
    rfl
  obtain ⟨v, l, rfl, hd, hl, hn, hasc, q⟩ := h
  refine ⟨_, pss_cons (ps_setLc (i := 1) (own := [("pair", 2)]) (g := gName 2) (tt := tYes) rfl scAs2.nd rfl rfl (sw_true rfl rfl rfl (by decide +kernel)) (pi_tup (pv 0)) (blkOk_by (N := nAs2) (sc := defScope (top 16)) (by decide +kernel))
        (fun _ _ _ _ _ => pg_name (i := 2) scAs2.nd rfl (Or.inl rfl)) (fun _ _ _ _ _ => pts_nil) (fun _ _ _ _ _ => pe_ix (r := rIxT K) ix_tup (pv 2) pe_int (fun _ _ => rfl)))
    (pss_one (ps_ret (pe_cmpR (op_eqD hr.units) (pv 1) (pe_callB (cr_sortTx rfl) rfl T.sorted b_sorted (pa_cons (pe_callTy (cr_setTx rfl) rfl T.set b_set (pa_cons (pv 1) pa_nil)) pa_nil)) (nomark _)))), ?_⟩
  obtain ⟨a, xs, rfl, hs, hp⟩ := hd.tupI
  refine ⟨_, rfl, a, rfl, ⟨_, hs⟩, fun L hL => ?_⟩
  have lx : xs.length = l.length := by rw [Paired.length hp, List.length_map]
  refine lc_map (walk_tup (xs := xs)) l (·.1) (fun _ v c => v = .str c) (fun _ _ _ _ _ _ _ _ h => h) hL lx.symm (by omega) (fun H2 s1 => SqT.sm s1 hs) yat_same (fun i y e H2 H3 N he s1 hy n => ?_) (fun H2 ys s1 e hys => ?_)
  · obtain ⟨rfl, hy⟩ := hy
    obtain ⟨b, x2, h1, h2, h3⟩ := pairs_at hp he
    rw [hy] at h1
    cases h1
    have h2' := SqT.sm s1 h2
    exact ⟨rfl, _, rfl, b, _, _, _, rfl, rfl, h2', rfl, n _ _ (Same.refl _) rfl⟩
  · have eys : ys = (l.map (·.1)).map V.str := by
      exact strs_of hys
    subst eys
    have nd := asc_nodup hasc
    have len1 : (l.map (·.1)).length ≤ 1000 := by rw [List.length_map]; omega
    refine ⟨_, rfl, _, rfl, L, _, rfl, SqL.of e, nd, len1, fun S hS => ?_⟩
    refine ⟨S, _, rfl, upd_same, List.pairwise_reverse.mpr (List.Pairwise.imp (fun h => Ne.symm h) nd), by rw [List.length_reverse]; exact len1, fun zs Z pz hz hZ => ?_⟩
    have ez : zs = l.map (·.1) := sorted_eq (pz.trans (List.reverse_perm _)) hz (asc_sorted hasc)
    subst ez
    have ok : ∀ k ∈ l.map (·.1), PyData.strOk k = true := fun k hk => by
      obtain ⟨x, hx, rfl⟩ := List.mem_map.mp hk
      exact nmB_ok (hn x hx)
    obtain ⟨sh, eq⟩ := texts_shaped ok
    have s2 : Same H2 (L2.upd (L2.upd H2 S (TxO P w S (l.map (·.1)).reverse)) Z (.lst ((l.map (·.1)).map V.str))) := (Same.new hS _).trans (Same.new hZ _)
    refine ⟨_, _, .lst (SqL.of (s2 _ _ e)) (strs_dp _), .lst (SqL.of upd_same) (strs_dp _), sh, sh, ?_⟩
    rw [eq]
    exact q _ (s1.trans s2)
end
end VN

/-! is_tree_of, is_tree, checked_tree, paths_of, nodes. -/
namespace VN
open PySem PySem.Spec PyProof.Rows L2

def spTreeOf (K : PySem.W.Frag) (n : Nat) : Sp := fun vs H Q _ => ∃ v l t, vs = [v, .int l] ∧ Da K H v (dTree t) ∧ TOk n t ∧ (n : Int) ≤ l + 1 ∧ ∀ H', Same H H' → Q (.bl true) H'
def spIsTree (K : PySem.W.Frag) : Sp := fun vs H Q _ => ∃ v t, vs = [v] ∧ Da K H v (dTree t) ∧ TOk 9 t ∧ ∀ H', Same H H' → Q (.bl true) H'
def spChkT (K : PySem.W.Frag) : Sp := fun vs H Q _ => ∃ v t, vs = [v] ∧ Da K H v (dTree t) ∧ TOk 9 t ∧ ∀ r H', Same H H' → Pl H' r (dTree t) → Q r H'

theorem vps_names {ps : List (Str × PVal)} : (vPs ps).map (·.1) = ps.map (·.1) := by unfold vPs; rw [List.map_map]; rfl
theorem knp_names {ks : Kids} : (kNP ks).map (·.1) = (kids ks).map (·.1) := by rw [kNP_kids, List.map_map]; rfl
theorem node_ps {n : Nat} {t : Tree} (h : TOk (n + 1) t) : (vPs t.ps).length ≤ 1000 ∧ (∀ x ∈ vPs t.ps, nmB x.1 = true) ∧ Asc ((vPs t.ps).map (·.1)) := by
  refine ⟨by unfold vPs; rw [List.length_map]; have := h.1.len; omega, fun x hx => ?_, by rw [vps_names]; exact h.1.asc⟩
  obtain ⟨p, hp, rfl⟩ := List.mem_map.mp hx
  exact h.1.nm p hp
theorem node_ks {n : Nat} {t : Tree} (h : TOk (n + 1) t) : (kNP t.ks).length ≤ 3 ∧ (∀ x ∈ kNP t.ks, nmB x.1 = true) ∧ Asc ((kNP t.ks).map (·.1)) := by
  refine ⟨by rw [kNP_kids, List.length_map]; exact h.2.2.1, fun x hx => ?_, by rw [knp_names]; exact h.2.1⟩
  rw [kNP_kids] at hx
  obtain ⟨p, hp, rfl⟩ := List.mem_map.mp hx
  exact (h.2.2.2 p hp).1
section
variable {P : Program} {w : World} {K : PySem.W.Frag} {mg : Str → Option Value} {base : Heap} {k : Nat}
abbrev nTo : List Str := ["value", "levels", "pairs", "pair"]
theorem scTo : FnScope nTo ["value", "levels"] (defScope (top 17)) := ⟨rfl, rfl, rfl, by decide +kernel, rfl, by decide +kernel, by decide +kernel⟩
theorem ok_treeOf {n : Nat} (D : Def K mg "is_tree_of" (top 17) ["value", "levels"]) (T : Txt mg) (CN : Cal P w K mg base 2 "are_named" ["pairs"] (spPairs K fun _ => True)) (CA : Cal P w K mg base 1 "is_ascending" ["pairs"] (spPairs K fun l => Asc (l.map (·.1))))
    (CV : Cal P w K mg base 4 "is_value" ["value"] (spVal K)) (C : Cal P w K mg base (n + 4) "is_tree_of" ["value", "levels"] (spTreeOf K n)) : Cal P w K mg base (n + 5) "is_tree_of" ["value", "levels"] (spTreeOf K (n + 1)) := by
  refine D.cal scTo (fun vs H Q E h => ?_) (fun f cdv A outer s H vs Q E hr h => ?_)
  · obtain ⟨v, l, t, rfl, _⟩ := h
    rfl
  obtain ⟨v, l, t, rfl, hd, ht, hl, q⟩ := h
  have hr1 : Room 1 _ := hr.mono (by omega)
  have hr2 : Room 2 _ := hr.mono (by omega)
  have hr4 : Room 4 _ := hr.mono (by omega)
  refine ⟨_, pss_cons (ps_if (PW.pt (pw_or (pt_cmpR op_lt (pv 1) pe_int (nomark _)) (pw_or (pt_not (pt_val (pe_callB call_isi rfl T.isi b_isi (pa_cons (pv 0) (pa_cons (pe_bltn rfl T.tuple b_tuple (v := .ty "tuple") rfl) pa_nil)))))
      (pw_or1 (pt_cmpR op_ne (pe_callB (r := rLen K) c_len rfl T.len b_len (pa_cons (pv 0) pa_nil)) pe_int (nomark _)))))) (pss_one (ps_ret pe_bl)) pss_nil)
    (pss_cons (ps_if (pt_not (pt_val (pe_callB (cr_all rfl) rfl T.all b_all (pa_cons (pe_lc (own := [("pairs", 2)]) (g := gName 2) (tt := tYes) rfl scTo.nd (pi_tup (pv 0)) (blkOk_by (N := nTo) (sc := defScope (top 17)) (by decide +kernel))
        (fun _ _ _ _ _ => pg_name (i := 2) scTo.nd rfl (Or.inl rfl)) (fun _ _ _ _ _ => pts_nil)
        (fun _ _ _ _ _ => pe_and (pe_c CN hr2 rfl (pa_cons (pv 2) pa_nil)) (pe_one (pe_c CA hr1 rfl (pa_cons (pv 2) pa_nil))))) pa_nil)))) (pss_one (ps_ret pe_bl)) pss_nil)
    (pss_cons (ps_if (pt_not (pt_val (pe_callB (cr_all rfl) rfl T.all b_all (pa_cons (pe_lc (own := [("pair", 3)]) (g := gName 3) (tt := tYes) rfl scTo.nd (pi_tup (pe_ix ix_tup (pv 0) pe_int (fun _ _ => rfl))) (blkOk_by (N := nTo) (sc := defScope (top 17)) (by decide +kernel))
        (fun _ _ _ _ _ => pg_name (i := 3) scTo.nd rfl (Or.inl rfl)) (fun _ _ _ _ _ => pts_nil)
        (fun _ _ _ _ _ => pe_c CV hr4 rfl (pa_cons (pe_ix (r := rIxT K) ix_tup (pv 3) pe_int (fun _ _ => rfl)) pa_nil))) pa_nil)))) (pss_one (ps_ret pe_bl)) pss_nil)
    (pss_one (ps_ret (pe_callB (cr_all rfl) rfl T.all b_all (pa_cons (pe_lc (own := [("pair", 3)]) (g := gName 3) (tt := tYes) rfl scTo.nd (pi_tup (pe_ix ix_tup (pv 0) pe_int (fun _ _ => rfl))) (blkOk_by (N := nTo) (sc := defScope (top 17)) (by decide +kernel))
        (fun _ _ _ _ _ => pg_name (i := 3) scTo.nd rfl (Or.inl rfl)) (fun _ _ _ _ _ => pts_nil)
        (fun _ _ _ _ _ => pe_c C hr rfl (pa_cons (pe_ix (r := rIxT K) ix_tup (pv 3) pe_int (fun _ _ => rfl)) (pa_cons (pe_op (r := rI0 fun i j => .int (i - j)) op_sub (pv 1) pe_int) pa_nil)))) pa_nil)))))), ?_⟩
  obtain ⟨a, x1, x2, rfl, hs, d1, d2⟩ := (show Da K H v (.tuple [.tuple ((vPs t.ps).map dPair), .tuple ((kNP t.ks).map dPair)]) from hd).tup2
  obtain ⟨p1, p2, p3⟩ := node_ps ht
  obtain ⟨q1, q2, q3⟩ := node_ks ht
  refine ⟨_, rfl, _, _, rfl, rfl, _, rfl, iteN (by omega) ?_⟩
  refine ⟨_, rfl, _, _, _, _, _, rfl, .ty _, tyT hs, kit1 (r := true) (by decide +kernel), true, rfl, ?_⟩
  refine ⟨_, rfl, a, _, rfl, .inr hs, rfl, _, rfl, ?_⟩
  -- all([are_named(pairs) and is_ascending(pairs) for pairs in value])
  refine ⟨_, rfl, a, rfl, ⟨_, hs⟩, fun L hL => ?_⟩
  refine lc_map (walk_tup (xs := [x1, x2])) [vPs t.ps, kNP t.ks] (fun _ => true) (fun _ v c => v = .bl c) stays_bl hL rfl (by show 2 ≤ 1000; omega) (fun H2 s1 => SqT.sm s1 hs) yat_same (fun i y e H2 H3 N he s1 hy n => ?_) (fun H2 ys s1 e hys => ?_)
  · obtain ⟨rfl, hy⟩ := hy
    have fact : Da K H y (.tuple (e.map dPair)) ∧ e.length ≤ 1000 ∧ (∀ x ∈ e, nmB x.1 = true) ∧ Asc (e.map (·.1)) := by
      match i, hy, he with
      | 0, hy, he => cases hy; cases he; exact ⟨d1, p1, p2, p3⟩
      | 1, hy, he => cases hy; cases he; exact ⟨d2, by omega, q2, q3⟩
    obtain ⟨f1, f2, f3, f4⟩ := fact
    exact ⟨rfl, _, rfl, y, e, rfl, f1.sm s1, f2, f3, trivial, fun H4 s4 => ⟨true, rfl, _, rfl, y, e, rfl, f1.sm (s1.trans s4), f2, f3, f4, fun H5 s5 => n _ _ (s4.trans s5) rfl⟩⟩
  rw [bls_of hys] at e
  refine ⟨L, _, rfl, SqL.of e, true, rfl, ?_⟩
  -- all([is_value(pair[1]) for pair in value[0]])
  have hs2 := SqT.sm s1 hs
  obtain ⟨b1, xs1, rfl, hb1, hp1⟩ := (d1.sm s1).tupI
  refine ⟨_, rfl, a, _, _, _, rfl, rfl, hs2, rfl, b1, rfl, ⟨_, hb1⟩, fun L2 hL2 => ?_⟩
  have lx1 : xs1.length = (vPs t.ps).length := by rw [Paired.length hp1, List.length_map]
  refine lc_map (walk_tup (xs := xs1)) (vPs t.ps) (fun _ => true) (fun _ v c => v = .bl c) stays_bl hL2 lx1.symm (by omega) (fun H2 s1 => SqT.sm s1 hb1) yat_same (fun i y e H4 H3 N he s3 hy n => ?_) (fun H3 ys s3 e hys => ?_)
  · obtain ⟨rfl, hy⟩ := hy
    obtain ⟨b, x2, h1, h2, h3⟩ := pairs_at hp1 he
    rw [hy] at h1
    cases h1
    have h2' := SqT.sm s3 h2
    obtain ⟨pv', hpv, epv⟩ : ∃ p, p ∈ t.ps ∧ e = (p.1, dVal p.2) := by
      have := List.mem_of_getElem? he
      obtain ⟨p, hp, rfl⟩ := List.mem_map.mp this
      exact ⟨p, hp, rfl⟩
    subst epv
    exact ⟨rfl, _, rfl, b, _, _, _, rfl, rfl, h2', rfl, _, pv'.2, rfl, h3.sm s3, ht.1.vl _ hpv, fun H' s4 => n _ _ s4 rfl⟩
  rw [bls_of hys] at e
  refine ⟨L2, _, rfl, SqL.of e, ?_⟩
  have e1 : (List.map (fun _ => true) (vPs t.ps)).all id = true := by simp
  refine ⟨_, rfl, ?_⟩
  rw [e1]
  -- all([is_tree_of(pair[1], levels - 1) for pair in value[1]])
  have s13 := s1.trans s3
  have hs3 := SqT.sm s13 hs
  obtain ⟨b2, xs2, rfl, hb2, hp2⟩ := (d2.sm s13).tupI
  refine ⟨_, rfl, a, _, _, _, rfl, rfl, hs3, rfl, b2, rfl, ⟨_, hb2⟩, fun L3 hL3 => ?_⟩
  have lx2 : xs2.length = (kids t.ks).length := by rw [Paired.length hp2, List.length_map, kNP_kids, List.length_map]
  refine lc_map (walk_tup (xs := xs2)) (kids t.ks) (fun _ => true) (fun _ v c => v = .bl c) stays_bl hL3 lx2.symm (by have := ht.2.2.1; omega) (fun H2 s1 => SqT.sm s1 hb2) yat_same (fun i y e H4 H5 N he s4 hy n => ?_) (fun H5 ys s4 e hys => ?_)
  · obtain ⟨rfl, hy⟩ := hy
    have he2 : (kNP t.ks)[i]? = some (e.1, dTree e.2) := by rw [kNP_kids, List.getElem?_map, he]; rfl
    obtain ⟨b, x2, h1, h2, h3⟩ := pairs_at hp2 he2
    rw [hy] at h1
    cases h1
    have h2' := SqT.sm s4 h2
    exact ⟨rfl, _, rfl, b, _, _, _, rfl, rfl, h2', rfl, _, rfl, _, _, rfl, rfl, x2, l - 1, e.2, rfl, h3.sm s4, (ht.2.2.2 e (List.mem_of_getElem? he)).2, by omega, fun H' s5 => n _ _ s5 rfl⟩
  rw [bls_of hys] at e
  refine ⟨L3, _, rfl, SqL.of e, ?_⟩
  have e1 : (List.map (fun _ => true) (kids t.ks)).all id = true := by simp
  rw [e1]
  exact q _ (s13.trans s4)
theorem treeOf_all (D : Def K mg "is_tree_of" (top 17) ["value", "levels"]) (T : Txt mg) (CN : Cal P w K mg base 2 "are_named" ["pairs"] (spPairs K fun _ => True)) (CA : Cal P w K mg base 1 "is_ascending" ["pairs"] (spPairs K fun l => Asc (l.map (·.1))))
    (CV : Cal P w K mg base 4 "is_value" ["value"] (spVal K)) : ∀ n : Nat, Cal P w K mg base (n + 4) "is_tree_of" ["value", "levels"] (spTreeOf K n)
  | 0 => (D.zero fun vs H Q E h => by
    obtain ⟨v, l, t, _, _, h, _⟩ := h
    exact h.elim).mono (Nat.zero_le _)
  | n + 1 => ok_treeOf D T CN CA CV (treeOf_all D T CN CA CV n)
abbrev nIt : List Str := ["value"]
theorem scIt : FnScope nIt ["value"] (defScope (top 18)) := ⟨rfl, rfl, rfl, by decide +kernel, rfl, by decide +kernel, by decide +kernel⟩
theorem ok_isTree (D : Def K mg "is_tree" (top 18) ["value"]) (T : Txt mg) (C : Cal P w K mg base 13 "is_tree_of" ["value", "levels"] (spTreeOf K 9)) : Cal P w K mg base 14 "is_tree" ["value"] (spIsTree K) := by
  refine D.cal scIt (fun vs H Q E h => ?_) (fun f cdv A outer s H vs Q E hr h => ?_)
  · obtain ⟨v, t, rfl, _⟩ := h
    rfl
  obtain ⟨v, t, rfl, hd, ht, q⟩ := h
  obtain ⟨tm, hMost⟩ := T.most
  exact ⟨_, pss_one (ps_ret (pe_c C hr rfl (pa_cons (pv 0) (pa_cons (pe_glob (v := .int 8) rfl hMost ⟨_, rfl⟩) pa_nil)))), _, rfl, v, 8, t, rfl, hd, ht, by omega, q⟩
abbrev nCt : List Str := ["value", "found"]
theorem scCt : FnScope nCt ["value"] (defScope (top 19)) := ⟨rfl, rfl, rfl, by decide +kernel, rfl, by decide +kernel, by decide +kernel⟩
theorem ok_chkT (D : Def K mg "checked_tree" (top 19) ["value"]) (T : Txt mg) (CA : Cal P w K mg base 40 "as_tuples" ["thing"] (spAs K 40)) (C : Cal P w K mg base 14 "is_tree" ["value"] (spIsTree K)) : Cal P w K mg base 41 "checked_tree" ["value"] (spChkT K) := by
  refine D.cal scCt (fun vs H Q E h => ?_) (fun f cdv A outer s H vs Q E hr h => ?_)
  · obtain ⟨v, t, rfl, _⟩ := h
    rfl
  obtain ⟨v, t, rfl, hd, ht, q⟩ := h
  have hr14 : Room 14 _ := hr.mono (by decide)
  refine ⟨_, pss_cons (ps_set (i := 1) scCt.nd rfl (Or.inl rfl) (pe_c CA hr rfl (pa_cons (pv 0) pa_nil)))
    (pss_cons (ps_if (pt_not (pt_val (pe_c C hr14 rfl (pa_cons (pv 1) pa_nil)))) (pss_one ps_never) pss_nil) (pss_one (ps_ret (pv 1)))), ?_⟩
  have hf := fit_tree ht
  refine ⟨_, rfl, v, dTree t, rfl, hd.dp, fit_le hf (by omega), fun r H2 s2 hr2 => ?_⟩
  refine ⟨_, rfl, r, t, rfl, ⟨hr2.dp, hd.gd⟩, ht, fun H3 s3 => ⟨true, rfl, ?_⟩⟩
  exact ⟨_, rfl, q _ _ (s2.trans s3) (hr2.keep s3)⟩
end
end VN

/-! paths_of, nodes. -/
namespace VN
open PySem PySem.Spec PyProof.Rows L2

theorem daTup {K : PySem.W.Frag} {H : Hp} {a : Addr} : ∀ {xs : List V} {ds : List PyData}, SqT K H a xs → Paired (Da K H) xs ds → Da K H (.ref a) (.tuple ds) := fun {xs ds} hs h => by
  have h1 : DpAll K H xs ds ∧ goodAll ds = true := by
    clear hs
    induction h with
    | nil => exact ⟨.nil, rfl⟩
    | cons h _ ih => exact ⟨.cons h.dp ih.1, by rw [goodAll, h.gd, ih.2]; rfl⟩
  exact ⟨.tup hs h1.1, h1.2⟩
theorem daStr {K : PySem.W.Frag} {H : Hp} {x : Str} (h : PyData.strOk x = true) : Da K H (.str x) (.str x) := ⟨.str x, h⟩
theorem daInt {K : PySem.W.Frag} {H : Hp} {i : Int} : Da K H (.int i) (.int i) := ⟨.int i, rfl⟩
def okP (p : Path) : Prop := ∀ x ∈ p, PyData.strOk x = true
theorem daPath {K : PySem.W.Frag} {H : Hp} {a : Addr} {p : Path} (hs : SqT K H a (p.map V.str)) (ok : okP p) : Da K H (.ref a) (dPath p) := daTup hs (by
  clear hs
  induction p with
  | nil => exact .nil
  | cons x p ih => exact .cons (daStr (ok x List.mem_cons_self)) (ih fun y hy => ok y (List.mem_cons_of_mem _ hy)))
theorem path_ok {p : Path} (h : good (dPath p) = true) : okP p := fun x hx => by
  have h : goodAll (p.map .str) = true := h
  exact goodAll_iff.mp h (.str x) (List.mem_map.mpr ⟨x, hx, rfl⟩)
theorem pathB_ok {p : Path} (h : pathB p = true) : okP p := fun x hx => by
  unfold pathB at h
  rw [Bool.and_eq_true, List.all_eq_true] at h
  exact nmB_ok (h.2 x hx)
/-- p + q -/
theorem cat_path {K : PySem.W.Frag} {H : Hp} {Q : VK} {x y : V} {p q : Path} (hx : Da K H x (dPath p)) (hy : Da K H y (dPath q)) (hl : p.length + q.length ≤ 1000) (k : ∀ r H', Same H H' → Da K H' r (dPath (p ++ q)) → Q r H') : rCatA K x y H Q := by
  obtain ⟨a, rfl, ha⟩ := hx.pathI
  obtain ⟨b, rfl, hb⟩ := hy.pathI
  refine ⟨a, b, _, _, rfl, rfl, ha, hb, by rw [List.length_map, List.length_map, sizeLine_eq]; omega, fun e => ?_, fun e1 e2 => ?_, fun e1 e2 r hr => ?_⟩
  · have : p = [] := List.map_eq_nil_iff.mp e
    subst this
    exact k _ _ (Same.refl _) hy
  · have : q = [] := List.map_eq_nil_iff.mp e2
    subst this
    exact k _ _ (Same.refl _) (by rw [List.append_nil]; exact hx)
  · refine k _ _ (Same.new hr _) (daPath (SqT.of ?_) fun z hz => ?_)
    · rw [upd_same, List.map_append]
    · rcases List.mem_append.mp hz with h | h
      · exact path_ok hx.gd z h
      · exact path_ok hy.gd z h
/-- (name,) -/
theorem one_path {K : PySem.W.Frag} {H : Hp} {a : Addr} {x : Str} (ok : PyData.strOk x = true) : Da K (L2.upd H a (.tup [.str x])) (.ref a) (dPath [x]) := daPath (p := [x]) (SqT.of upd_same) fun y hy => by
  rcases List.mem_cons.mp hy with rfl | hy
  · exact ok
  · cases hy

/-! ### the paths of a tree -/
def pathsK : Kids → Path → List Path
  | .nil, _ => []
  | .cons n _ sub rest, p => ((p ++ [n]) :: pathsK sub (p ++ [n])) ++ pathsK rest p
def pathsT (t : Tree) (p : Path) : List Path := p :: pathsK t.ks p
theorem pathsK_kids : ∀ (ks : Kids) (p : Path), pathsK ks p = (kids ks).flatMap fun x => pathsT x.2 (p ++ [x.1])
  | .nil, _ => rfl
  | .cons n ps sub rest, p => by
    rw [pathsK, kids, List.flatMap_cons, pathsK_kids rest p]; rfl
def pc : Nat → Nat
  | 0 => 0
  | n + 1 => 1 + 3 * pc n
theorem flat_le {α β : Type} (f : α → List β) (b : Nat) : ∀ l : List α, (∀ x ∈ l, (f x).length ≤ b) → (l.flatMap f).length ≤ l.length * b
  | [], _ => by simp
  | x :: l, h => by
    rw [List.flatMap_cons, List.length_append, List.length_cons, Nat.succ_mul]
    have h1 := h x List.mem_cons_self
    have h2 := flat_le f b l fun y hy => h y (List.mem_cons_of_mem _ hy)
    omega
theorem paths_len : ∀ {n : Nat} {t : Tree} {p : Path}, TOk n t → (pathsT t p).length ≤ pc n
  | 0, _, _, h => h.elim
  | n + 1, t, p, h => by
    show (p :: pathsK t.ks p).length ≤ 1 + 3 * pc n
    rw [List.length_cons, pathsK_kids]
    have h1 := flat_le (fun x : Str × Tree => pathsT x.2 (p ++ [x.1])) (pc n) (kids t.ks) fun x hx => paths_len (h.2.2.2 x hx).2
    have h2 : (kids t.ks).length * pc n ≤ 3 * pc n := Nat.mul_le_mul_right _ h.2.2.1
    omega
theorem paths_in : ∀ {n : Nat} {t : Tree} {p : Path}, TOk n t → ∀ q ∈ pathsT t p, ∃ r, q = p ++ r ∧ r.length + 1 ≤ n ∧ ∀ x ∈ r, nmB x = true
  | 0, _, _, h, _, _ => h.elim
  | n + 1, t, p, h, q, hq => by
    rcases List.mem_cons.mp hq with rfl | hq
    · exact ⟨[], (List.append_nil _).symm, by show 0 + 1 ≤ n + 1; omega, fun _ hx => by cases hx⟩
    · rw [pathsK_kids] at hq
      obtain ⟨x, hx, hq⟩ := List.mem_flatMap.mp hq
      obtain ⟨r, e, hl, hr⟩ := paths_in (h.2.2.2 x hx).2 q hq
      refine ⟨x.1 :: r, by rw [e, List.append_assoc]; rfl, by rw [List.length_cons]; omega, fun y hy => ?_⟩
      rcases List.mem_cons.mp hy with rfl | hy
      · exact (h.2.2.2 x hx).1
      · exact hr y hy
theorem paired_append {α β : Type} {F : α → β → Prop} : ∀ {xs ys : List α} {us ws : List β}, Paired F xs us → Paired F ys ws → Paired F (xs ++ ys) (us ++ ws)
  | _, _, _, _, .nil, h => h
  | _, _, _, _, .cons r t, h => .cons r (paired_append t h)
def spPathsOf (K : PySem.W.Frag) (n : Nat) : Sp := fun vs H Q _ => ∃ v t u p, vs = [v, u] ∧ Da K H v (dTree t) ∧ TOk n t ∧ Da K H u (dPath p) ∧ p.length + n ≤ 100 ∧
  ∀ (L : Addr) (ys : List V) (H' : Hp), Same H H' → H' L = some (.lst ys) → H L = none → Paired (Da K H') ys ((pathsT t p).map dPath) → Q (.ref L) H'
section
variable {P : Program} {w : World} {K : PySem.W.Frag} {mg : Str → Option Value} {base : Heap} {k : Nat}
abbrev nPo : List Str := ["part", "path", "found", "name", "child"]
theorem scPo : FnScope nPo ["part", "path"] (defScope (top 20)) := ⟨rfl, rfl, rfl, by decide +kernel, rfl, by decide +kernel, by decide +kernel⟩
theorem pc_small : ∀ n, n ≤ 6 → pc n ≤ 364 := by decide
theorem ok_pathsOf {n : Nat} (hn6 : n < 6) (D : Def K mg "paths_of" (top 20) ["part", "path"]) (C : Cal P w K mg base n "paths_of" ["part", "path"] (spPathsOf K n)) : Cal P w K mg base (n + 1) "paths_of" ["part", "path"] (spPathsOf K (n + 1)) := by
  refine D.cal scPo (fun vs H Q E h => ?_) (fun f cdv A outer s H vs Q E hr h => ?_)
  · obtain ⟨v, t, u, p, rfl, _⟩ := h
    rfl
  obtain ⟨v, t, u, p, rfl, hd, ht, hp, hpl, q⟩ := h
  refine ⟨_, pss_cons (ps_set (i := 2) scPo.nd rfl (Or.inl rfl) (pe_lst (pa_cons (pv 1) pa_nil)))
    (pss_cons (ps_for PassesOwn.never rfl (pi_tup (pe_ix ix_tup (pv 0) pe_int (fun _ _ => rfl))) (pg_tup rfl (pgs_cons (pg_name (i := 3) scPo.nd rfl (Or.inl rfl)) (pgs_cons (pg_name (i := 4) scPo.nd rfl (Or.inl rfl)) pgs_nil)))
      (pss_one (ps_aug (i := 2) scPo.nd rfl (Or.inl rfl) (pe_c C hr rfl (pa_cons (pv 4) (pa_cons (pe_op op_catA (pv 1) (pe_tup (pa_cons (pv 3) pa_nil))) pa_nil))) iop_ext)))
    (pss_one (ps_ret (pv 2)))), ?_⟩
  obtain ⟨a, x1, x2, rfl, hs, d1, d2⟩ := (show Da K H v (.tuple [.tuple ((vPs t.ps).map dPair), .tuple ((kNP t.ks).map dPair)]) from hd).tup2
  refine ⟨_, rfl, by show 1 ≤ sizeLine; decide, fun L hL => ?_⟩
  have s0 : Same H (L2.upd H L (.lst [u])) := Same.new hL _
  obtain ⟨b2, xs2, rfl, hb2, hp2⟩ := d2.tupI
  refine ⟨_, rfl, a, _, _, _, rfl, rfl, SqT.sm s0 hs, rfl, b2, rfl, ⟨_, SqT.sm s0 hb2⟩, ?_⟩
  have lx2 : xs2.length = (kids t.ks).length := by rw [Paired.length hp2, List.length_map, kNP_kids, List.length_map]
  refine for_it (walk_tup (xs := xs2)) (fun i σ H' => ∃ o3 o4 ys, σ = [some (.ref a), some u, some (.ref L), o3, o4] ∧ KB L H H' ∧ H' L = some (.lst ys) ∧ Paired (Da K H') ys ((p :: ((kids t.ks).take i).flatMap fun x => pathsT x.2 (p ++ [x.1])).map dPath))
    ⟨_, _, [u], rfl, (KB.refl _ _).upd _, upd_same, .cons (hp.sm s0) .nil⟩ (fun i σ H' _ p => ?_) (fun i x σ H2 H3 hi p y => ?_) (fun σ H' p => ?_)
  · obtain ⟨_, _, _, _, kb, _⟩ := p
    exact SqT.sm (kb.all hL) hb2
  · obtain ⟨rfl, hy⟩ := y
    obtain ⟨o3, o4, ys, rfl, kb, hL2, hys⟩ := p
    obtain ⟨e, he⟩ : ∃ e, (kids t.ks)[i]? = some e := ⟨_, List.getElem?_eq_getElem (by omega)⟩
    have he2 : (kNP t.ks)[i]? = some (e.1, dTree e.2) := by rw [kNP_kids, List.getElem?_map, he]; rfl
    obtain ⟨b, z2, h1, h2, h3⟩ := pairs_at hp2 he2
    rw [hy] at h1
    cases h1
    have sm := kb.all hL
    have hte := ht.2.2.2 e (List.mem_of_getElem? he)
    refine ⟨b, _, rfl, SqT.sm sm h2, rfl, .str e.1, [z2], rfl, z2, [], rfl, rfl, ?_⟩
    refine ⟨_, rfl, _, rfl, _, rfl, _, rfl, by show 1 ≤ sizeLine; decide, fun r hr1 => ?_⟩
    have s3 : Same H3 (L2.upd H3 r (.tup [.str e.1])) := Same.new hr1 _
    refine cat_path ((hp.sm sm).sm s3) (one_path (nmB_ok hte.1)) (by show p.length + 1 ≤ 1000; omega) fun z H4 s4 hz => ?_
    refine ⟨z2, e.2, z, p ++ [e.1], rfl, ((h3.sm sm).sm s3).sm s4, hte.2, hz, by rw [List.length_append]; show p.length + 1 + n ≤ 100; omega, fun M zs H5 s5 hM hM0 hzs => ?_⟩
    have s35 : Same H3 H5 := s3.trans (s4.trans s5)
    have hL5 := s35 _ _ hL2
    have nLM : L ≠ M := ne_of_none (s4 _ _ (s3 _ _ hL2)) hM0
    have hl1 : ys.length ≤ 1 + 3 * pc n := by
      rw [Paired.length hys, List.length_map, List.length_cons]
      have h1 := flat_le (fun x : Str × Tree => pathsT x.2 (p ++ [x.1])) (pc n) ((kids t.ks).take i) fun x hx => paths_len (ht.2.2.2 x (List.mem_of_mem_take hx)).2
      have h2 : ((kids t.ks).take i).length * pc n ≤ 3 * pc n := Nat.mul_le_mul_right _ (by rw [List.length_take]; have := ht.2.2.1; omega)
      omega
    have hl2 : zs.length ≤ pc n := by
      rw [Paired.length hzs, List.length_map]
      exact paths_len hte.2
    have hpcn := pc_small n (by omega)
    refine ⟨L, M, ys, zs, rfl, rfl, hL5, hM, by rw [sizeLine_eq]; omega, ?_⟩
    have tk : TK H5 (L2.upd H5 L (.lst (ys ++ zs))) := ((KB.refl L H5).upd _).tk hL5
    refine ⟨_, _, ys ++ zs, rfl, ((kb.same s35).upd _), upd_same, ?_⟩
    have ex : (kids t.ks).take (i + 1) = (kids t.ks).take i ++ [e] := by rw [List.take_add_one, he]; rfl
    rw [ex, List.flatMap_append, ← List.cons_append, List.map_append]
    refine paired_append (Paired.mapP hys fun v c h => (h.sm s35).tk tk) ?_
    rw [List.flatMap_cons, List.flatMap_nil, List.append_nil]
    exact Paired.mapP hzs fun v c h => h.tk tk
  · obtain ⟨o3, o4, ys, rfl, kb, hL2, hys⟩ := p
    refine ⟨_, rfl, ?_⟩
    rw [lx2, List.take_length, ← pathsK_kids] at hys
    exact q L ys _ (kb.all hL) hL2 hL hys
theorem pathsOf_all (D : Def K mg "paths_of" (top 20) ["part", "path"]) : ∀ n : Nat, n ≤ 6 → Cal P w K mg base n "paths_of" ["part", "path"] (spPathsOf K n)
  | 0, _ => D.zero fun vs H Q E h => by
    obtain ⟨v, t, u, p, _, _, h, _⟩ := h
    exact h.elim
  | n + 1, h => ok_pathsOf (by omega) D (pathsOf_all D n (by omega))
def spNodes (K : PySem.W.Frag) : Sp := fun vs H Q _ => ∃ v t, vs = [v] ∧ Da K H v (dTree t) ∧ TOk 3 t ∧
  ∀ (L : Addr) (ys : List V) (H' : Hp), Same H H' → H' L = some (.lst ys) → Paired (Da K H') ys ((pathsT t []).map dPath) → Q (.ref L) H'
abbrev nNo : List Str := ["tree"]
theorem scNo : FnScope nNo ["tree"] (defScope (top 21)) := ⟨rfl, rfl, rfl, by decide +kernel, rfl, by decide +kernel, by decide +kernel⟩
theorem ok_nodes (D : Def K mg "nodes" (top 21) ["tree"]) (CC : Cal P w K mg base 41 "checked_tree" ["value"] (spChkT K)) (CP : Cal P w K mg base 3 "paths_of" ["part", "path"] (spPathsOf K 3)) : Cal P w K mg base 42 "nodes" ["tree"] (spNodes K) := by
  refine D.cal scNo (fun vs H Q E h => ?_) (fun f cdv A outer s H vs Q E hr h => ?_)
  · obtain ⟨v, t, rfl, _⟩ := h
    rfl
  obtain ⟨v, t, rfl, hd, ht, q⟩ := h
  have hr3 : Room 3 _ := hr.mono (by decide)
  refine ⟨_, pss_one (ps_ret (pe_c CP hr3 rfl (pa_cons (pe_c CC hr rfl (pa_cons (pv 0) pa_nil)) (pa_cons (pe_tup pa_nil) pa_nil)))), ?_⟩
  refine ⟨_, rfl, v, t, rfl, hd, ht.le (by omega), fun r H2 s2 hr2 => ⟨Nat.zero_le _, fun e he => ?_⟩⟩
  have s3 : Same H2 (L2.upd H2 e (.tup [])) := Same.new he _
  refine ⟨r, t, .ref e, [], rfl, (⟨hr2.dp, hd.gd⟩ : Da K H2 r (dTree t)).sm s3, ht, daPath (p := []) (SqT.of upd_same) (fun _ hx => by cases hx), by decide, fun L ys H4 s4 hL _ hys => ?_⟩
  exact q L ys _ (s2.trans (s3.trans s4)) hL hys
end
end VN

/-! is_put, is_entry, made_key. -/
namespace VN
open PySem PySem.Spec PyProof.Rows L2

/-- an entry that is one -/
def EOk : Ent → Prop
  | .drop p n => pathB p = true ∧ nmB n = true
  | .hide p => pathB p = true ∧ p ≠ []
  | .put p t => pathB p = true ∧ p ≠ [] ∧ TOk 3 t ∧ p.length ≤ 6
  | .set p n v => pathB p = true ∧ nmB n = true ∧ valB v = true
theorem EOk.path {e : Ent} (h : EOk e) : pathB e.path = true := by cases e <;> exact h.1
theorem EOk.fit {e : Ent} (h : EOk e) : fit 13 e.data = true := by
  have t4 : ∀ l : List PyData, l.length ≤ 4 → (∀ d ∈ l, VN.fit 12 d = true) → VN.fit 13 (.tuple l) = true := fun l hl hd => by
    show VN.fit (12 + 1) _ = true
    rw [VN.fit, Bool.and_eq_true]
    exact ⟨decide_eq_true (by omega), fitAll_iff.mpr hd⟩
  have st : ∀ x : Str, PyData.strOk x = true → VN.fit 12 (.str x) = true := fun x hx => by
    show VN.fit (11 + 1) _ = true
    rw [VN.fit]; exact hx
  cases e with
  | drop p n =>
    refine t4 [.str "drop", dPath p, .str n] (by show 3 ≤ 4; omega) fun d hd => ?_
    simp only [List.mem_cons, List.not_mem_nil, or_false] at hd
    rcases hd with rfl | rfl | rfl
    · exact st _ (by decide +kernel)
    · exact fit_path (n := 10) h.1
    · exact st _ (nmB_ok h.2)
  | hide p =>
    refine t4 [.str "hide", dPath p] (by show 2 ≤ 4; omega) fun d hd => ?_
    simp only [List.mem_cons, List.not_mem_nil, or_false] at hd
    rcases hd with rfl | rfl
    · exact st _ (by decide +kernel)
    · exact fit_path (n := 10) h.1
  | put p t =>
    refine t4 [.str "put", dPath p, dTree t] (by show 3 ≤ 4; omega) fun d hd => ?_
    simp only [List.mem_cons, List.not_mem_nil, or_false] at hd
    rcases hd with rfl | rfl | rfl
    · exact st _ (by decide +kernel)
    · exact fit_path (n := 10) h.1
    · exact fit_tree h.2.2.1
  | set p n v =>
    refine t4 [.str "set", dPath p, .str n, dVal v] (by show 4 ≤ 4; omega) fun d hd => ?_
    simp only [List.mem_cons, List.not_mem_nil, or_false] at hd
    rcases hd with rfl | rfl | rfl | rfl
    · exact st _ (by decide +kernel)
    · exact fit_path (n := 10) h.1
    · exact st _ (nmB_ok h.2.1)
    · exact fit_val (n := 9) h.2.2

def spPut (K : PySem.W.Frag) : Sp := fun vs H Q _ => ∃ v p t, vs = [v] ∧ Da K H v (Ent.put p t).data ∧ EOk (.put p t) ∧ ∀ H', Same H H' → Q (.bl true) H'
def spEntry (K : PySem.W.Frag) : Sp := fun vs H Q _ => ∃ v e, vs = [v] ∧ Da K H v e.data ∧ EOk e ∧ ∀ H', Same H H' → Q (.bl true) H'
def spKey (K : PySem.W.Frag) : Sp := fun vs H Q _ => ∃ v e, vs = [v] ∧ Da K H v e.data ∧ EOk e ∧ ∀ r H', Same H H' → Ky K H' r e.key → Q r H'
theorem da_nil {K : PySem.W.Frag} {H : Hp} {a : Addr} : Da K (L2.upd H a (.tup [])) (.ref a) (.tuple []) := daTup (SqT.of upd_same) .nil
/-- p == () of a path that isn't empty -/
theorem ne_nil {p : Path} (h : p ≠ []) (g : good (dPath p) = true) : PyData.eqv (dPath p) (.tuple []) = false := eqv_ne g rfl fun e => by
  have e : PyData.tuple (p.map .str) = .tuple [] := e
  injection e with e
  exact h (List.map_eq_nil_iff.mp e)
section
variable {P : Program} {w : World} {K : PySem.W.Frag} {mg : Str → Option Value} {base : Heap} {k : Nat}
abbrev nPu : List Str := ["value", "path", "tree", "behind"]
theorem scPu : FnScope nPu ["value"] (defScope (top 23)) := ⟨rfl, rfl, rfl, by decide +kernel, rfl, by decide +kernel, by decide +kernel⟩
theorem ok_put (D : Def K mg "is_put" (top 23) ["value"]) (T : Txt mg) (CP : Cal P w K mg base 2 "is_path" ["value"] (spPath K)) (CT : Cal P w K mg base 14 "is_tree" ["value"] (spIsTree K)) (CN : Cal P w K mg base 42 "nodes" ["tree"] (spNodes K)) :
    Cal P w K mg base 43 "is_put" ["value"] (spPut K) := by
  refine D.cal scPu (fun vs H Q E h => ?_) (fun f cdv A outer s H vs Q E hr h => ?_)
  · obtain ⟨v, p, t, rfl, _⟩ := h
    rfl
  have hr2 : Room 2 _ := hr.mono (by decide)
  have hr14 : Room 14 _ := hr.mono (by decide)
  obtain ⟨v, p, t, rfl, hd, ⟨hp, hp0, ht, hpl⟩, q⟩ := h
  refine ⟨_, pss_cons (ps_asg (pe_slice sl_tupA (pv 0) (po_some pe_int) po_none) (pg_tup rfl (pgs_cons (pg_name (i := 1) scPu.nd rfl (Or.inr rfl)) (pgs_cons (pg_name (i := 2) scPu.nd rfl (Or.inl rfl)) pgs_nil))))
    (pss_cons (ps_if (PW.pt (pw_or (pt_not (pt_val (pe_c CP hr2 rfl (pa_cons (pv 1) pa_nil)))) (pw_or (pt_cmpR (op_eqD hr.units) (pv 1) (pe_tup pa_nil) (nomark _)) (pw_or1 (pt_not (pt_val (pe_c CT hr14 rfl (pa_cons (pv 2) pa_nil)))))))) (pss_one (ps_ret pe_bl)) pss_nil)
    (pss_one (ps_ret (pe_callB (cr_all rfl) rfl T.all b_all (pa_cons (pe_lc (own := [("behind", 3)]) (g := gName 3) (tt := tYes) rfl scPu.nd (pi_list (pe_c CN hr rfl (pa_cons (pv 2) pa_nil))) (blkOk_by (N := nPu) (sc := defScope (top 23)) (by decide +kernel))
        (fun _ _ _ _ _ => pg_name (i := 3) scPu.nd rfl (Or.inl rfl)) (fun _ _ _ _ _ => pts_nil)
        (fun _ _ _ _ _ => pe_c CP hr2 rfl (pa_cons (pe_op (r := rCatA K) op_catA (pv 1) (pv 3)) pa_nil))) pa_nil))))), ?_⟩
  obtain ⟨a, x1, x2, x3, rfl, hs, d1, d2, d3⟩ := (show Da K H v (.tuple [.str "put", dPath p, dTree t]) from hd).tup3
  refine ⟨_, rfl, _, rfl, a, _, rfl, hs, fun h => absurd (show (1 : Nat) = 0 from h.1) (by decide), fun _ b hb => ?_⟩
  have s1 : Same H (L2.upd H b (.tup [x2, x3])) := Same.new hb _
  refine ⟨b, [x2, x3], rfl, SqT.of upd_same, rfl, x2, [x3], rfl, x3, [], rfl, rfl, ?_⟩
  refine ⟨_, rfl, x2, p, rfl, d2.sm s1, hp, fun H2 s2 => ⟨true, rfl, ?_⟩⟩
  have s12 := s1.trans s2
  refine ⟨_, rfl, Nat.zero_le _, fun c hc => ?_⟩
  have s3 : Same H2 (L2.upd H2 c (.tup [])) := Same.new hc _
  refine ⟨dPath p, .tuple [], ((d2.sm s12).sm s3).dp, da_nil.dp, shaped_fit (fit_path (n := 0) hp) (by omega), by decide +kernel, ?_⟩
  rw [ne_nil hp0 d2.gd]
  refine ⟨false, rfl, ?_⟩
  refine ⟨_, rfl, x3, t, rfl, d3.sm (s12.trans s3), ht.le (by omega), fun H4 s4 => ⟨true, rfl, ?_⟩⟩
  have s14 := (s12.trans s3).trans s4
  refine ⟨_, rfl, x3, t, rfl, d3.sm s14, ht, fun L ys H5 s5 hL hys => ?_⟩
  have s15 := s14.trans s5
  refine ⟨L, rfl, ⟨_, SqL.of hL⟩, fun M hM => ?_⟩
  have lys : (pathsT t []).length = ys.length := by rw [Paired.length hys, List.length_map]
  have lp := paths_len (p := []) ht
  refine lc_map (walk_list (xs := ys)) (pathsT t []) (fun _ => true) (fun _ v c => v = .bl c) stays_bl hM lys (by rw [← lys]; exact Nat.le_trans lp (by decide)) (fun H2 s1 => s1.seq (SqL.of hL)) yat_same (fun i y e H6 H7 N he s6 hy n => ?_) (fun H6 zs s6 e hzs => ?_)
  · obtain ⟨rfl, hy⟩ := hy
    obtain ⟨z, hz, hdz⟩ := LiI.paired_get hys hy
    rw [List.getElem?_map, he] at hz
    cases hz
    obtain ⟨r, er, hrl, hrn⟩ := paths_in ht e (List.mem_of_getElem? he)
    have er : e = r := er
    subst er
    refine ⟨rfl, _, rfl, _, rfl, cat_path (d2.sm (s15.trans s6)) (hdz.sm s6) (by omega) fun u H8 s8 hu => ?_⟩
    refine ⟨u, p ++ e, rfl, hu, ?_, fun H9 s9 => n _ _ (s8.trans s9) rfl⟩
    unfold pathB at hp ⊢
    rw [Bool.and_eq_true, List.all_eq_true] at hp
    rw [Bool.and_eq_true, List.all_eq_true, decide_eq_true_eq, List.length_append]
    refine ⟨by omega, fun z hz => ?_⟩
    rcases List.mem_append.mp hz with h | h
    · exact hp.2 z h
    · exact hrn z h
  · rw [bls_of hzs] at e
    refine ⟨M, _, rfl, SqL.of e, ?_⟩
    have e1 : (List.map (fun _ => true) (pathsT t [])).all id = true := by simp
    rw [e1]
    exact q _ (s15.trans s6)
end
end VN

/-! is_entry, made_key. -/
namespace VN
open PySem PySem.Spec PyProof.Rows L2

theorem datas_text : ∀ p : Path, NestedKey.datas (p.map .text) = p.map .str
  | [] => rfl
  | x :: p => by
    show NestedKey.data (.text x) :: NestedKey.datas (p.map .text) = _
    rw [datas_text p]; rfl
theorem okKeys_text {p : Path} (h : okP p) : okKeys (p.map .text) = true := by
  induction p with
  | nil => rfl
  | cons x p ih =>
    show (okKey (.text x) && okKeys (p.map .text)) = true
    rw [ih fun y hy => h y (List.mem_cons_of_mem _ hy), Bool.and_true]
    exact h x List.mem_cons_self
theorem depth_text : ∀ p : Path, NestedKey.depthAll (p.map .text) ≤ 0
  | [] => Nat.le_refl _
  | x :: p => by
    show NestedKey.depthAll (.text x :: p.map .text) ≤ 0
    have := depth_text p
    simp only [NestedKey.depthAll, NestedKey.depth]
    omega
theorem key_data : ∀ e : Ent, e.key.data = match e with
    | .drop p n => .tuple [.str "prop", dPath p, .str n]
    | .hide p => .tuple [.str "hide", dPath p]
    | .put p _ => .tuple [.str "put", dPath p]
    | .set p n _ => .tuple [.str "prop", dPath p, .str n]
  | .drop p n => by show PyData.tuple [.str "prop", .tuple (NestedKey.datas (p.map .text)), .str n] = _; rw [datas_text]; rfl
  | .hide p => by show PyData.tuple [.str "hide", .tuple (NestedKey.datas (p.map .text))] = _; rw [datas_text]; rfl
  | .put p _ => by show PyData.tuple [.str "put", .tuple (NestedKey.datas (p.map .text))] = _; rw [datas_text]; rfl
  | .set p n _ => by show PyData.tuple [.str "prop", .tuple (NestedKey.datas (p.map .text)), .str n] = _; rw [datas_text]; rfl
theorem keyOk2 {a : Str} {p : Path} (ha : PyData.strOk a = true) (h : okP p) : KeyOk (.tup [.text a, .tup (p.map .text)]) := by
  refine ⟨?_, ?_⟩
  · show (okKey (.text a) && (okKey (.tup (p.map .text)) && true)) = true
    rw [show okKey (.text a) = PyData.strOk a from rfl, ha, show okKey (.tup (p.map .text)) = okKeys (p.map .text) from rfl, okKeys_text h]; rfl
  · have := depth_text p
    simp only [NestedKey.depth, NestedKey.depthAll]; omega
theorem keyOk3 {a n : Str} {p : Path} (ha : PyData.strOk a = true) (hn : PyData.strOk n = true) (h : okP p) : KeyOk (.tup [.text a, .tup (p.map .text), .text n]) := by
  refine ⟨?_, ?_⟩
  · show (okKey (.text a) && (okKey (.tup (p.map .text)) && (okKey (.text n) && true))) = true
    rw [show okKey (.text a) = PyData.strOk a from rfl, ha, show okKey (.tup (p.map .text)) = okKeys (p.map .text) from rfl, okKeys_text h, show okKey (.text n) = PyData.strOk n from rfl, hn]; rfl
  · have := depth_text p
    simp only [NestedKey.depth, NestedKey.depthAll]; omega
theorem key_ok {e : Ent} (h : EOk e) : KeyOk e.key := by
  cases e with
  | drop p n => exact keyOk3 (by decide +kernel) (nmB_ok h.2) (pathB_ok h.1)
  | hide p => exact keyOk2 (by decide +kernel) (pathB_ok h.1)
  | put p t => exact keyOk2 (by decide +kernel) (pathB_ok h.1)
  | set p n v => exact keyOk3 (by decide +kernel) (nmB_ok h.2.1) (pathB_ok h.1)
theorem ent_tup (e : Ent) : ∃ x xs, e.data = .tuple (x :: xs) := by cases e <;> exact ⟨_, _, rfl⟩
theorem eqv_cons_nil {x : PyData} {xs : List PyData} : PyData.eqv (.tuple (x :: xs)) (.tuple []) = false := by simp [PyData.eqv, PyData.eqvAll]
section
variable {P : Program} {w : World} {K : PySem.W.Frag} {mg : Str → Option Value} {base : Heap} {k : Nat}
abbrev nEn : List Str := ["value"]
theorem scEn : FnScope nEn ["value"] (defScope (top 24)) := ⟨rfl, rfl, rfl, by decide +kernel, rfl, by decide +kernel, by decide +kernel⟩
theorem ok_entry (D : Def K mg "is_entry" (top 24) ["value"]) (T : Txt mg) (CP : Cal P w K mg base 2 "is_path" ["value"] (spPath K)) (CN : Cal P w K mg base 1 "is_name" ["value"] (spName K)) (CV : Cal P w K mg base 4 "is_value" ["value"] (spVal K)) (CU : Cal P w K mg base 43 "is_put" ["value"] (spPut K)) :
    Cal P w K mg base 44 "is_entry" ["value"] (spEntry K) := by
  refine D.cal scEn (fun vs H Q E h => ?_) (fun f cdv A outer s H vs Q E hr h => ?_)
  · obtain ⟨v, e, rfl, _⟩ := h
    rfl
  have hr1 : Room 1 _ := hr.mono (by decide)
  have hr2 : Room 2 _ := hr.mono (by decide)
  have hr4 : Room 4 _ := hr.mono (by decide)
  obtain ⟨v, e, rfl, hd, he, q⟩ := h
  refine ⟨_, pss_cons (ps_if (PW.pt (pw_or (pt_not (pt_val (pe_callB call_isi rfl T.isi b_isi (pa_cons (pv 0) (pa_cons (pe_bltn rfl T.tuple b_tuple (v := .ty "tuple") rfl) pa_nil)))))
        (pw_or (pt_cmpR (op_eqD hr.units) (pv 0) (pe_tup pa_nil) (nomark _)) (pw_or1 (pt_not (pt_val (pe_callB call_isi rfl T.isi b_isi (pa_cons (pe_ix ix_tup (pv 0) pe_int (fun _ _ => rfl)) (pa_cons (pe_bltn rfl T.str b_str (v := .ty "str") rfl) pa_nil))))))))) (pss_one (ps_ret pe_bl)) pss_nil)
    (pss_cons (ps_if (pt_cmpR op_eq (pe_ix ix_tup (pv 0) pe_int (fun _ _ => rfl)) pe_str (nomark _)) (pss_one (ps_ret (pe_and (pe_cmpR op_eq (pe_callB c_len rfl T.len b_len (pa_cons (pv 0) pa_nil)) pe_int (nomark _))
        (pe_and (pe_c CP hr2 rfl (pa_cons (pe_ix ix_tup (pv 0) pe_int (fun _ _ => rfl)) pa_nil)) (pe_one (pe_cmpR (op_neD hr.units) (pe_ix ix_tup (pv 0) pe_int (fun _ _ => rfl)) (pe_tup pa_nil) (nomark _))))))) pss_nil)
    (pss_cons (ps_if (pt_cmpR op_eq (pe_ix ix_tup (pv 0) pe_int (fun _ _ => rfl)) pe_str (nomark _)) (pss_one (ps_ret (pe_and (pe_cmpR op_eq (pe_callB c_len rfl T.len b_len (pa_cons (pv 0) pa_nil)) pe_int (nomark _))
        (pe_one (pe_c CU hr rfl (pa_cons (pv 0) pa_nil)))))) pss_nil)
    (pss_cons (ps_if (pt_cmpR op_eq (pe_ix ix_tup (pv 0) pe_int (fun _ _ => rfl)) pe_str (nomark _)) (pss_one (ps_ret (pe_and (pe_cmpR op_eq (pe_callB c_len rfl T.len b_len (pa_cons (pv 0) pa_nil)) pe_int (nomark _))
        (pe_and (pe_c CP hr2 rfl (pa_cons (pe_ix ix_tup (pv 0) pe_int (fun _ _ => rfl)) pa_nil)) (pe_one (pe_c CN hr1 rfl (pa_cons (pe_ix ix_tup (pv 0) pe_int (fun _ _ => rfl)) pa_nil))))))) pss_nil)
    (pss_cons (ps_if (PW.pt (pw_or (pt_cmpR op_ne (pe_ix ix_tup (pv 0) pe_int (fun _ _ => rfl)) pe_str (nomark _)) (pw_or1 (pt_cmpR op_ne (pe_callB c_len rfl T.len b_len (pa_cons (pv 0) pa_nil)) pe_int (nomark _))))) (pss_one (ps_ret pe_bl)) pss_nil)
    (pss_one (ps_ret (pe_and (pe_c CP hr2 rfl (pa_cons (pe_ix ix_tup (pv 0) pe_int (fun _ _ => rfl)) pa_nil)) (pe_and (pe_c CN hr1 rfl (pa_cons (pe_ix ix_tup (pv 0) pe_int (fun _ _ => rfl)) pa_nil)) (pe_one (pe_c CV hr4 rfl (pa_cons (pe_ix ix_tup (pv 0) pe_int (fun _ _ => rfl)) pa_nil))))))))))), ?_⟩
  have sh := shaped_fit he.fit (by omega)
  cases e with
  | hide p =>
    obtain ⟨a, x1, x2, rfl, hs, d1, d2⟩ := (show Da K H v (.tuple [.str "hide", dPath p]) from hd).tup2
    obtain rfl := d1.strI
    refine ⟨_, rfl, _, _, _, _, _, rfl, .ty _, tyT hs, kit1 (r := true) (by decide +kernel), true, rfl, ?_⟩
    refine ⟨_, rfl, Nat.zero_le _, fun c hc => ?_⟩
    have s1 : Same H (L2.upd H c (.tup [])) := Same.new hc _
    have hs1 := SqT.sm s1 hs
    refine ⟨_, .tuple [], (hd.sm s1).dp, da_nil.dp, sh, by decide +kernel, ?_⟩
    refine ⟨false, by rw [show (Ent.hide p).data = .tuple [.str "hide", dPath p] from rfl, eqv_cons_nil], ?_⟩
    refine ⟨_, rfl, a, _, _, _, rfl, rfl, hs1, rfl, _, _, _, _, _, rfl, .ty _, .base (.str _), kit1 (r := true) (by decide +kernel), true, rfl, ?_⟩
    refine ⟨_, rfl, a, _, _, _, rfl, rfl, hs1, rfl, rfl, ?_⟩
    refine ⟨_, rfl, ?_⟩
    refine iteD rfl ?_
    refine ⟨_, rfl, a, _, rfl, .inr hs1, rfl, _, rfl, ?_⟩
    refine ⟨_, rfl, a, _, _, _, rfl, rfl, hs1, rfl, x2, p, rfl, d2.sm s1, he.1, fun H2 s2 => ⟨true, rfl, ?_⟩⟩
    have s12 := s1.trans s2
    refine ⟨_, rfl, a, _, _, _, rfl, rfl, SqT.sm s12 hs, rfl, Nat.zero_le _, fun b hb => ?_⟩
    have s3 : Same H2 (L2.upd H2 b (.tup [])) := Same.new hb _
    refine ⟨dPath p, .tuple [], ((d2.sm s12).sm s3).dp, da_nil.dp, shaped_fit (fit_path (n := 0) he.1) (by omega), by decide +kernel, ?_⟩
    rw [ne_nil he.2 d2.gd]
    exact q _ (s12.trans s3)
  | put p t =>
    obtain ⟨a, x1, x2, x3, rfl, hs, d1, d2, d3⟩ := (show Da K H v (.tuple [.str "put", dPath p, dTree t]) from hd).tup3
    obtain rfl := d1.strI
    refine ⟨_, rfl, _, _, _, _, _, rfl, .ty _, tyT hs, kit1 (r := true) (by decide +kernel), true, rfl, ?_⟩
    refine ⟨_, rfl, Nat.zero_le _, fun c hc => ?_⟩
    have s1 : Same H (L2.upd H c (.tup [])) := Same.new hc _
    have hs1 := SqT.sm s1 hs
    refine ⟨_, .tuple [], (hd.sm s1).dp, da_nil.dp, sh, by decide +kernel, ?_⟩
    refine ⟨false, by rw [show (Ent.put p t).data = .tuple [.str "put", dPath p, dTree t] from rfl, eqv_cons_nil], ?_⟩
    refine ⟨_, rfl, a, _, _, _, rfl, rfl, hs1, rfl, _, _, _, _, _, rfl, .ty _, .base (.str _), kit1 (r := true) (by decide +kernel), true, rfl, ?_⟩
    refine ⟨_, rfl, a, _, _, _, rfl, rfl, hs1, rfl, rfl, ?_⟩
    refine ⟨_, rfl, ?_⟩
    refine iteN (by decide +kernel) ?_
    refine ⟨_, rfl, a, _, _, _, rfl, rfl, hs1, rfl, rfl, ?_⟩
    refine ⟨_, rfl, ?_⟩
    refine iteD rfl ?_
    refine ⟨_, rfl, a, _, rfl, .inr hs1, rfl, _, rfl, ?_⟩
    exact ⟨_, rfl, _, p, t, rfl, hd.sm s1, he, fun H2 s2 => q _ (s1.trans s2)⟩
  | drop p n =>
    obtain ⟨a, x1, x2, x3, rfl, hs, d1, d2, d3⟩ := (show Da K H v (.tuple [.str "drop", dPath p, .str n]) from hd).tup3
    obtain rfl := d3.strI
    obtain rfl := d1.strI
    refine ⟨_, rfl, _, _, _, _, _, rfl, .ty _, tyT hs, kit1 (r := true) (by decide +kernel), true, rfl, ?_⟩
    refine ⟨_, rfl, Nat.zero_le _, fun c hc => ?_⟩
    have s1 : Same H (L2.upd H c (.tup [])) := Same.new hc _
    have hs1 := SqT.sm s1 hs
    refine ⟨_, .tuple [], (hd.sm s1).dp, da_nil.dp, sh, by decide +kernel, ?_⟩
    refine ⟨false, by rw [show (Ent.drop p n).data = .tuple [.str "drop", dPath p, .str n] from rfl, eqv_cons_nil], ?_⟩
    refine ⟨_, rfl, a, _, _, _, rfl, rfl, hs1, rfl, _, _, _, _, _, rfl, .ty _, .base (.str _), kit1 (r := true) (by decide +kernel), true, rfl, ?_⟩
    refine ⟨_, rfl, a, _, _, _, rfl, rfl, hs1, rfl, rfl, ?_⟩
    refine ⟨_, rfl, ?_⟩
    refine iteN (by decide +kernel) ?_
    refine ⟨_, rfl, a, _, _, _, rfl, rfl, hs1, rfl, rfl, ?_⟩
    refine ⟨_, rfl, ?_⟩
    refine iteN (by decide +kernel) ?_
    refine ⟨_, rfl, a, _, _, _, rfl, rfl, hs1, rfl, rfl, ?_⟩
    refine ⟨_, rfl, ?_⟩
    refine iteD rfl ?_
    refine ⟨_, rfl, a, _, rfl, .inr hs1, rfl, _, rfl, ?_⟩
    refine ⟨_, rfl, a, _, _, _, rfl, rfl, hs1, rfl, x2, p, rfl, d2.sm s1, he.1, fun H2 s2 => ⟨true, rfl, ?_⟩⟩
    have s12 := s1.trans s2
    exact ⟨_, rfl, a, _, _, _, rfl, rfl, SqT.sm s12 hs, rfl, .inl ⟨n, rfl, he.2, fun H3 s3 => q _ (s12.trans s3)⟩⟩
  | set p n v =>
    obtain ⟨a, x1, x2, x3, x4, rfl, hs, d1, d2, d3, d4⟩ := (show Da K H _ (.tuple [.str "set", dPath p, .str n, dVal v]) from hd).tup4
    obtain rfl := d3.strI
    obtain rfl := d1.strI
    refine ⟨_, rfl, _, _, _, _, _, rfl, .ty _, tyT hs, kit1 (r := true) (by decide +kernel), true, rfl, ?_⟩
    refine ⟨_, rfl, Nat.zero_le _, fun c hc => ?_⟩
    have s1 : Same H (L2.upd H c (.tup [])) := Same.new hc _
    have hs1 := SqT.sm s1 hs
    refine ⟨_, .tuple [], (hd.sm s1).dp, da_nil.dp, sh, by decide +kernel, ?_⟩
    refine ⟨false, by rw [show (Ent.set p n v).data = .tuple [.str "set", dPath p, .str n, dVal v] from rfl, eqv_cons_nil], ?_⟩
    refine ⟨_, rfl, a, _, _, _, rfl, rfl, hs1, rfl, _, _, _, _, _, rfl, .ty _, .base (.str _), kit1 (r := true) (by decide +kernel), true, rfl, ?_⟩
    refine ⟨_, rfl, a, _, _, _, rfl, rfl, hs1, rfl, rfl, ?_⟩
    refine ⟨_, rfl, ?_⟩
    refine iteN (by decide +kernel) ?_
    refine ⟨_, rfl, a, _, _, _, rfl, rfl, hs1, rfl, rfl, ?_⟩
    refine ⟨_, rfl, ?_⟩
    refine iteN (by decide +kernel) ?_
    refine ⟨_, rfl, a, _, _, _, rfl, rfl, hs1, rfl, rfl, ?_⟩
    refine ⟨_, rfl, ?_⟩
    refine iteN (by decide +kernel) ?_
    refine ⟨_, rfl, a, _, _, _, rfl, rfl, hs1, rfl, rfl, _, rfl, ?_⟩
    refine ⟨_, rfl, a, _, rfl, .inr hs1, rfl, _, rfl, ?_⟩
    refine ⟨_, rfl, a, _, _, _, rfl, rfl, hs1, rfl, x2, p, rfl, d2.sm s1, he.1, fun H2 s2 => ⟨true, rfl, ?_⟩⟩
    have s12 := s1.trans s2
    refine ⟨_, rfl, a, _, _, _, rfl, rfl, SqT.sm s12 hs, rfl, .inl ⟨n, rfl, he.2.1, fun H3 s3 => ⟨true, rfl, ?_⟩⟩⟩
    have s13 := s12.trans s3
    exact ⟨_, rfl, a, _, _, _, rfl, rfl, SqT.sm s13 hs, rfl, x4, v, rfl, d4.sm s13, he.2.2, fun H4 s4 => q _ (s13.trans s4)⟩
abbrev nMk : List Str := ["entry"]
theorem scMk : FnScope nMk ["entry"] (defScope (top 25)) := ⟨rfl, rfl, rfl, by decide +kernel, rfl, by decide +kernel, by decide +kernel⟩
theorem ok_key (D : Def K mg "made_key" (top 25) ["entry"]) : Cal P w K mg base 1 "made_key" ["entry"] (spKey K) := by
  refine D.cal scMk (fun vs H Q E h => ?_) (fun f cdv A outer s H vs Q E hr h => ?_)
  · obtain ⟨v, e, rfl, _⟩ := h
    rfl
  obtain ⟨v, e, rfl, hd, he, q⟩ := h
  refine ⟨_, pss_one (ps_ret (pe_ifExp (pt_cmpR op_in_seq (pe_ix ix_tup (pv 0) pe_int (fun _ _ => rfl)) (pe_tup (pa_cons pe_str (pa_cons pe_str pa_nil))) (by rfl))
    (pe_tup (pa_cons pe_str (pa_cons (pe_ix ix_tup (pv 0) pe_int (fun _ _ => rfl)) (pa_cons (pe_ix ix_tup (pv 0) pe_int (fun _ _ => rfl)) pa_nil)))) (pe_slice sl_tupA (pv 0) po_none (po_some pe_int)))), ?_⟩
  have key3 : ∀ {H1 : Hp} {p : Path} {n : Str} {x2 : V}, Same H H1 → Da K H x2 (dPath p) → nmB n = true → ∀ r, H1 r = none → e.key = .tup [.text "prop", .tup (p.map .text), .text n] → Q (.ref r) (L2.upd H1 r (.tup [.str "prop", x2, .str n])) := fun {H1 p n x2} s1 d2 hn r hr e1 => by
    have s2 : Same H1 (L2.upd H1 r (.tup [.str "prop", x2, .str n])) := Same.new hr _
    refine q _ _ (s1.trans s2) ⟨key_ok he, ⟨_, rfl⟩, ?_⟩
    rw [e1]
    show Dp K _ _ (.tuple [.str "prop", .tuple (NestedKey.datas (p.map .text)), .str n])
    rw [datas_text]
    exact (daTup (SqT.of upd_same) (.cons (daStr (by decide +kernel)) (.cons (d2.sm (s1.trans s2)) (.cons (daStr (nmB_ok hn)) .nil)))).dp
  have key2 : ∀ {H1 : Hp} {p : Path} {a : Str} {x2 : V}, Same H H1 → Da K H x2 (dPath p) → PyData.strOk a = true → ∀ r, SqT K H1 r [.str a, x2] → e.key = .tup [.text a, .tup (p.map .text)] → Q (.ref r) H1 := fun {H1 p a x2} s1 d2 ha r hr e1 => by
    refine q _ _ s1 ⟨key_ok he, ⟨_, rfl⟩, ?_⟩
    rw [e1]
    show Dp K _ _ (.tuple [.str a, .tuple (NestedKey.datas (p.map .text))])
    rw [datas_text]
    exact (daTup hr (.cons (daStr ha) (.cons (d2.sm s1) .nil))).dp
  cases e with
  | hide p =>
    obtain ⟨a, x1, x2, rfl, hs, d1, d2⟩ := (show Da K H v (.tuple [.str "hide", dPath p]) from hd).tup2
    obtain rfl := d1.strI
    refine ⟨_, rfl, a, _, _, _, rfl, rfl, hs, rfl, by show 2 ≤ sizeLine; decide, fun c hc => ?_⟩
    have s1 : Same H (L2.upd H c (.tup [.str "set", .str "drop"])) := Same.new hc _
    refine ⟨c, _, rfl, .inr (SqT.of upd_same), rfl, rfl, false, by decide +kernel, ?_⟩
    refine ⟨_, rfl, 2, rfl, a, _, rfl, SqT.sm s1 hs, fun _ => key2 s1 d2 (by decide +kernel) a (SqT.sm s1 hs) rfl, fun h => absurd ⟨rfl, rfl⟩ h⟩
  | put p t =>
    obtain ⟨a, x1, x2, x3, rfl, hs, d1, d2, d3⟩ := (show Da K H v (.tuple [.str "put", dPath p, dTree t]) from hd).tup3
    obtain rfl := d1.strI
    refine ⟨_, rfl, a, _, _, _, rfl, rfl, hs, rfl, by show 2 ≤ sizeLine; decide, fun c hc => ?_⟩
    have s1 : Same H (L2.upd H c (.tup [.str "set", .str "drop"])) := Same.new hc _
    refine ⟨c, _, rfl, .inr (SqT.of upd_same), rfl, rfl, false, by decide +kernel, ?_⟩
    refine ⟨_, rfl, 2, rfl, a, _, rfl, SqT.sm s1 hs, fun h => absurd (show (2 : Nat) = 3 from h.2) (by decide), fun _ r hr => ?_⟩
    have s2 : Same (L2.upd H c (.tup [.str "set", .str "drop"])) (L2.upd (L2.upd H c (.tup [.str "set", .str "drop"])) r (.tup [.str "put", x2])) := Same.new hr _
    exact key2 (s1.trans s2) d2 (by decide +kernel) r (SqT.of upd_same) rfl
  | drop p n =>
    obtain ⟨a, x1, x2, x3, rfl, hs, d1, d2, d3⟩ := (show Da K H v (.tuple [.str "drop", dPath p, .str n]) from hd).tup3
    obtain rfl := d1.strI
    obtain rfl := d3.strI
    refine ⟨_, rfl, a, _, _, _, rfl, rfl, hs, rfl, by show 2 ≤ sizeLine; decide, fun c hc => ?_⟩
    have s1 : Same H (L2.upd H c (.tup [.str "set", .str "drop"])) := Same.new hc _
    have hs1 := SqT.sm s1 hs
    refine ⟨c, _, rfl, .inr (SqT.of upd_same), rfl, rfl, true, by decide +kernel, ?_⟩
    exact ⟨_, rfl, a, _, _, _, rfl, rfl, hs1, rfl, _, rfl, a, _, _, _, rfl, rfl, hs1, rfl, by show 3 ≤ sizeLine; decide, fun r hr => key3 s1 d2 he.2 r hr rfl⟩
  | set p n v =>
    obtain ⟨a, x1, x2, x3, x4, rfl, hs, d1, d2, d3, d4⟩ := (show Da K H _ (.tuple [.str "set", dPath p, .str n, dVal v]) from hd).tup4
    obtain rfl := d1.strI
    obtain rfl := d3.strI
    refine ⟨_, rfl, a, _, _, _, rfl, rfl, hs, rfl, by show 2 ≤ sizeLine; decide, fun c hc => ?_⟩
    have s1 : Same H (L2.upd H c (.tup [.str "set", .str "drop"])) := Same.new hc _
    have hs1 := SqT.sm s1 hs
    refine ⟨c, _, rfl, .inr (SqT.of upd_same), rfl, rfl, true, by decide +kernel, ?_⟩
    exact ⟨_, rfl, a, _, _, _, rfl, rfl, hs1, rfl, _, rfl, a, _, _, _, rfl, rfl, hs1, rfl, by show 3 ≤ sizeLine; decide, fun r hr => key3 s1 d2 he.2.1 r hr rfl⟩
end
end VN

/-! in_key_order. -/
namespace VN
open PySem PySem.Spec PyProof.Rows L2
open PySem.W (AllAlike Sortable dataLe alike alikeAll)

theorem alike_texts : ∀ p q : Path, alikeAll (p.map PyData.str) (q.map PyData.str) = true
  | [], _ => by simp [alikeAll]
  | _ :: _, [] => by simp [alikeAll]
  | x :: p, y :: q => by
    show alikeAll (.str x :: p.map .str) (.str y :: q.map .str) = true
    rw [alikeAll, alike_texts p q]
    simp [alike]
theorem alike_key (e f : Ent) : alike e.key.data f.key.data = true := by
  have ap : ∀ p q : Path, alike (dPath p) (dPath q) = true := fun p q => by
    show alike (.tuple (p.map .str)) (.tuple (q.map .str)) = true
    rw [alike]; exact alike_texts p q
  rw [key_data, key_data]
  cases e <;> cases f <;> simp [alike, alikeAll, ap]
theorem keys_alike (es : List Ent) : AllAlike (es.map fun e => e.key.data) := fun d hd d' hd' => by
  obtain ⟨e, _, rfl⟩ := List.mem_map.mp hd
  obtain ⟨f, _, rfl⟩ := List.mem_map.mp hd'
  exact alike_key e f
theorem keys_sortable (es : List Ent) : Sortable (es.map fun e => e.key.data) := .inl fun d hd => by
  obtain ⟨e, _, rfl⟩ := List.mem_map.mp hd
  rw [key_data]
  cases e <;> exact ⟨_, _, rfl⟩
def leK (a b : Ent) : Bool := dataLe false (fun e : Ent => e.key.data) a b
/-- a table: entries in the order of their keys, each key once -/
structure TbOk (es : List Ent) : Prop where
  ok : ∀ e ∈ es, EOk e
  nd : (es.map Ent.key).Nodup
  so : es.Pairwise fun a b => leK a b = true
  len : es.length ≤ 60
theorem TbOk.filter {es : List Ent} (h : TbOk es) (f : Ent → Bool) : TbOk (es.filter f) where
  ok e he := h.ok e ((List.mem_filter.mp he).1)
  nd := List.Nodup.sublist (List.filter_sublist.map _) h.nd
  so := List.Pairwise.sublist List.filter_sublist h.so
  len := Nat.le_trans (List.length_filter_le _ _) h.len
def dTab (es : List Ent) : PyData := .tuple (es.map Ent.data)
mutual
theorem Pl.kbx {D : Addr} {H H' : Hp} (k : KB D H H') (h1 : ∀ xs, H D ≠ some (.tup xs)) (h2 : ∀ o u, H D ≠ some (.frz o u)) : ∀ {v : V} {d : PyData}, Pl H v d → Pl H' v d
  | _, _, .int i => .int i
  | _, _, .str x => .str x
  | _, _, .tup ⟨o, h, e⟩ t => .tup ⟨o, k _ _ (fun z => by subst z; exact h2 _ _ h) h, e⟩ (PlAll.kbx k h1 h2 t)
theorem PlAll.kbx {D : Addr} {H H' : Hp} (k : KB D H H') (h1 : ∀ xs, H D ≠ some (.tup xs)) (h2 : ∀ o u, H D ≠ some (.frz o u)) : ∀ {vs : List V} {ds : List PyData}, PlAll H vs ds → PlAll H' vs ds
  | _, _, .nil => .nil
  | _, _, .cons h t => .cons (Pl.kbx k h1 h2 h) (PlAll.kbx k h1 h2 t)
end

/-- an entry in plain tuples -/
def PE1 (H : Hp) (v : V) (e : Ent) : Prop := Pl H v e.data ∧ EOk e
theorem PE1.sm {H H' : Hp} {v : V} {e : Ent} (s : Same H H') (h : PE1 H v e) : PE1 H' v e := ⟨h.1.keep s, h.2⟩
theorem PE1.da {K : PySem.W.Frag} {H : Hp} {v : V} {e : Ent} (h : PE1 H v e) : Da K H v e.data := ⟨h.1.dp, fit_good _ _ h.2.fit⟩
theorem pe1_all {H : Hp} : ∀ {ys : List V} {es : List Ent}, Paired (PE1 H) ys es → PlAll H ys (es.map Ent.data)
  | _, _, .nil => .nil
  | _, _, .cons h t => .cons h.1 (pe1_all t)
def spOrder (K : PySem.W.Frag) : Sp := fun vs H Q _ => ∃ L ys es, vs = [.ref L] ∧ SqL K H L ys ∧ Paired (PE1 H) ys es ∧ TbOk es ∧ ∀ r H', Same H H' → Pl H' r (dTab es) → Q r H'
section
variable {P : Program} {w : World} {K : PySem.W.Frag} {mg : Str → Option Value} {base : Heap} {k : Nat}
abbrev nOr : List Str := ["entries"]
theorem scOr : FnScope nOr ["entries"] (defScope (top 26)) := ⟨rfl, rfl, rfl, by decide +kernel, rfl, by decide +kernel, by decide +kernel⟩
theorem ok_order (D : Def K mg "in_key_order" (top 26) ["entries"]) (T : Txt mg) (C : Cal P w K mg base 1 "made_key" ["entry"] (spKey K)) : Cal P w K mg base 4 "in_key_order" ["entries"] (spOrder K) := by
  refine D.cal scOr (fun vs H Q E h => ?_) (fun f cdv A outer s H vs Q E hr h => ?_)
  · obtain ⟨L, ys, es, rfl, _⟩ := h
    rfl
  obtain ⟨L, ys, es, rfl, hL, hys, ht, q⟩ := h
  obtain ⟨g, gd, G, mG, kG, bG⟩ := C.ex
  refine ⟨_, pss_one (ps_ret (pe_callTy cr_tupP rfl T.tuple b_tuple (pa_cons (pe_callBK (cr_sortKey G hr bG PE1 Ent.key (fun _ _ _ _ s h => h.sm s) (fun H v e Q E h n => ⟨v, e, rfl, h.da, h.2, fun r H' s hk => n H' r s hk⟩)) rfl T.sorted b_sorted (pa_cons (pv 0) pa_nil)
    (pk_cons (pe_glob (v := .ref g) rfl mG rfl) pk_nil)) pa_nil))), ?_⟩
  refine ⟨_, rfl, L, ys, es, rfl, rfl, hL, hys, by have := ht.len; omega, fun e he => (key_ok (ht.ok e he)).dep, keys_alike es, keys_sortable es, fun H2 p zs s2 hp hzs => ?_⟩
  have e1 : es.mergeSort (dataLe false fun e : Ent => e.key.data) = es := List.mergeSort_of_pairwise ht.so
  rw [e1] at hzs
  refine ⟨p, zs, rfl, SqL.of hp, fun l o hl ho => ?_⟩
  have s3 : Same H2 (L2.upd H2 l (.frz o (.tup zs))) := Same.new hl _
  exact q _ _ (s2.trans s3) (.tup ⟨o, upd_same, ho⟩ (PlAll.keep s3 (pe1_all hzs)))
end
end VN

/-! checked_table (printed by gen_tab4.py). -/
namespace VN
open PySem PySem.Spec PyProof.Rows L2

theorem valV_fresh {kvs : List (NestedKey × V)} {k : NestedKey} (h : k ∉ kvs.map (·.1)) : valV kvs k = none := by
  induction kvs with
  | nil => rfl
  | cons p kvs ih =>
    rw [List.map_cons, List.mem_cons, not_or] at h
    rw [valV_neg (fun e => h.1 e.symm)]
    exact ih h.2
theorem putK_fresh {kvs : List (NestedKey × V)} {k : NestedKey} {v : V} (h : k ∉ kvs.map (·.1)) : putK kvs k v = kvs ++ [(k, v)] := by
  have e : (kvs.any fun kv => decide (kv.1 = k)) = false := by
    rw [valV_any, valV_fresh h]; rfl
  unfold putK
  rw [e]; rfl
theorem ND.sm {P : Program} {w : World} {K : PySem.W.Frag} {H H' : Hp} (s : Same H H') {a : Addr} {kvs : List (NestedKey × V)} (h : ND P w K H a kvs) : ND P w K H' a kvs := by
  obtain ⟨xs, e, _⟩ := id h
  exact h.keep (TK.of s) ((s _ _ e).trans e.symm)
theorem nodup_take {α : Type} {l : List α} (nd : l.Nodup) {i : Nat} {x : α} (h : l[i]? = some x) : x ∉ l.take i := by
  have e : l.take (i + 1) = l.take i ++ [x] := by rw [List.take_add_one, h]; rfl
  have nd1 : (l.take (i + 1)).Nodup := List.Nodup.sublist (List.take_sublist _ _) nd
  rw [e, List.nodup_append] at nd1
  exact fun hm => nd1.2.2 x hm x (List.mem_singleton.mpr rfl) rfl
def spChk (K : PySem.W.Frag) : Sp := fun vs H Q _ => ∃ a ys es, vs = [.ref a] ∧ (SqL K H a ys ∨ SqT K H a ys) ∧ Paired (Da K H) ys (es.map Ent.data) ∧ TbOk es ∧ ∀ r H', Same H H' → Pl H' r (dTab es) → Q r H'
section
variable {P : Program} {w : World} {K : PySem.W.Frag} {mg : Str → Option Value} {base : Heap} {k : Nat}
abbrev nCk : List Str := ["entries", "things", "entry", "index", "thing", "found", "key"]
theorem scCk : FnScope nCk ["entries"] (defScope (top 27)) := ⟨rfl, rfl, rfl, by decide +kernel, rfl, by decide +kernel, by decide +kernel⟩
theorem ok_chk (D : Def K mg "checked_table" (top 27) ["entries"]) (T : Txt mg) (CA : Cal P w K mg base 40 "as_tuples" ["thing"] (spAs K 40)) (CE : Cal P w K mg base 44 "is_entry" ["value"] (spEntry K)) (CK : Cal P w K mg base 1 "made_key" ["entry"] (spKey K))
    (CO : Cal P w K mg base 4 "in_key_order" ["entries"] (spOrder K)) : Cal P w K mg base 45 "checked_table" ["entries"] (spChk K) := by
  refine D.cal scCk (fun vs H Q E h => ?_) (fun f cdv A outer s H vs Q E hr h => ?_)
  · obtain ⟨a, ys, es, rfl, _⟩ := h
    rfl
  have hr1 : Room 1 _ := hr.mono (by decide)
  have hr4 : Room 4 _ := hr.mono (by decide)
  have hr40 : Room 40 _ := hr.mono (by decide)
  obtain ⟨a, xs, es, rfl, hs, hp, ht, q⟩ := h
  have lx : xs.length = es.length := by rw [Paired.length hp, List.length_map]
  have len := ht.len
  rcases hs with hs | hs
  · refine ⟨_, pss_cons (ps_setLc (i := 1) (own := [("entry", 2)]) (g := gName 2) (tt := tYes) rfl scCk.nd rfl rfl (sw_true rfl rfl rfl (by decide +kernel)) (pi_list (pv 0)) (blkOk_by (N := nCk) (sc := defScope (top 27)) (by decide +kernel))
          (fun _ _ _ _ _ => pg_name (i := 2) scCk.nd rfl (Or.inl rfl)) (fun _ _ _ _ _ => pts_nil) (fun _ _ _ _ _ => pe_c CA hr40 rfl (pa_cons (pv 2) pa_nil)))
      (pss_cons (ps_for PassesOwn.never rfl (pi_enum rfl T.enumerate (pa_cons (pv 1) pa_nil)) (pg_tup rfl (pgs_cons (pg_name (i := 3) scCk.nd rfl (Or.inl rfl)) (pgs_cons (pg_name (i := 4) scCk.nd rfl (Or.inl rfl)) pgs_nil)))
          (pss_one (ps_if (pt_not (pt_val (pe_c CE hr rfl (pa_cons (pv 4) pa_nil)))) (pss_one ps_never) pss_nil)))
      (pss_cons (ps_set (i := 5) scCk.nd rfl (Or.inl rfl) pe_nnew)
      (pss_cons (ps_for PassesOwn.never rfl (pi_list (pv 1)) (pg_name (i := 4) scCk.nd rfl (Or.inl rfl))
          (pss_cons (ps_set (i := 6) scCk.nd rfl (Or.inl rfl) (pe_c CK hr1 rfl (pa_cons (pv 4) pa_nil)))
          (pss_cons (ps_if (pt_cmpR (op_nin hr.units) (pv 6) (pv 5) (by rfl)) (pss_one ps_never) pss_nil)
          (pss_one (ps_nput hr.units (pv 5) (pv 6) (pv 4) rfl)))))
      (pss_one (ps_ret (pe_c CO hr4 rfl (pa_cons (pv 1) pa_nil))))))), ?_⟩
    refine ⟨_, rfl, a, rfl, ⟨_, hs⟩, fun L hL => ?_⟩
    refine lc_map (walk_list (xs := xs)) es (fun e => e) PE1 (fun D H H' ys v c hD k h => ⟨h.1.kb k hD, h.2⟩) hL lx.symm (by omega) (fun H2 s1 => s1.seq hs) yat_same (fun i y e H2 H3 N he s1 hy n => ?_) (fun H1 ys s1 hL1 hys => ?_)
    · obtain ⟨rfl, hy⟩ := hy
      obtain ⟨d, hd, hyd⟩ := LiI.paired_get hp hy
      rw [List.getElem?_map, he] at hd
      cases hd
      have ok := ht.ok e (List.mem_of_getElem? he)
      exact ⟨rfl, _, rfl, y, e.data, rfl, (hyd.sm s1).dp, fit_le ok.fit (by omega), fun r H4 s4 hr4 => n _ _ s4 ⟨hr4, ok⟩⟩
    rw [List.map_id'] at hys
    -- for index, thing in enumerate(things)
    refine ⟨_, rfl, L, ys, rfl, SqL.of hL1, ?_⟩
    have ly : ys.length = es.length := Paired.length hys
    refine for_it (walk_enum (xs := ys)) (fun i σ H' => ∃ o2 o3 o4 o5 o6, σ = [some (.ref a), some (.ref L), o2, o3, o4, o5, o6] ∧ Same H1 H')
      ⟨_, _, _, _, _, rfl, Same.refl _⟩ (fun i σ H' _ p => ?_) (fun i x σ H2 H3 hi p y => ?_) (fun σ H2 p => ?_)
    · obtain ⟨_, _, _, _, _, _, s2⟩ := p
      exact s2.seq (SqL.of hL1)
    · obtain ⟨_, _, _, _, _, rfl, s2⟩ := p
      obtain ⟨t, x0, y0, rfl, ht0, rfl, e1, e2⟩ := y
      cases e1
      have s3 : Same H2 (L2.upd H2 t (.tup [.int (i : Nat), y0])) := Same.new ht0 _
      obtain ⟨e, he, hye⟩ := LiI.paired_get hys e2
      refine ⟨t, _, rfl, SqT.of upd_same, rfl, .int (i : Nat), [y0], rfl, y0, [], rfl, rfl, ?_⟩
      refine ⟨_, rfl, y0, e, rfl, (hye.sm (s2.trans s3)).da, hye.2, fun H4 s4 => ⟨true, rfl, ?_⟩⟩
      exact ⟨_, _, _, _, _, rfl, s2.trans (s3.trans s4)⟩
    obtain ⟨o2, o3, o4, o5, o6, rfl, s2⟩ := p
    -- found = {}
    intro d H3 hd h3 nd3
    have k3 : KB d H2 H3 := fun b u hb e => by rw [h3 b hb]; exact e
    refine ⟨_, rfl, L, rfl, ⟨_, (s2.trans (k3.all hd)).seq (SqL.of hL1)⟩, ?_⟩
    refine for_it (walk_list (xs := ys)) (fun i σ H' => ∃ o2 o3 o4 o6 kvs, σ = [some (.ref a), some (.ref L), o2, o3, o4, some (.ref d), o6] ∧ KB d H2 H' ∧ ND P w K H' d kvs ∧ kvs.map (·.1) = (es.take i).map Ent.key)
      ⟨_, _, _, _, _, rfl, k3, nd3, rfl⟩ (fun i σ H' _ p => ?_) (fun i x σ H4 H5 hi p y => ?_) (fun σ H4 p => ?_)
    · obtain ⟨_, _, _, _, _, _, kb, _⟩ := p
      exact (s2.trans (kb.all hd)).seq (SqL.of hL1)
    · obtain ⟨_, _, _, _, kvs, rfl, kb, nd, hk⟩ := p
      obtain ⟨rfl, hy⟩ := y
      obtain ⟨e, he, hye⟩ := LiI.paired_get hys hy
      have s5 := s2.trans (kb.all hd)
      refine ⟨_, rfl, x, e, rfl, (hye.sm s5).da, hye.2, fun r H6 s6 hk6 => ?_⟩
      have nd6 := nd.sm s6
      have fr : e.key ∉ kvs.map (·.1) := by
        rw [hk, List.map_take]
        exact nodup_take ht.nd (by rw [List.getElem?_map, he]; rfl)
      refine ⟨_, rfl, _, rfl, e.key, d, kvs, hk6, rfl, nd6, ?_⟩
      refine ⟨false, by rw [valV_fresh fr]; rfl, ?_⟩
      refine ⟨_, rfl, _, rfl, _, rfl, d, e.key, kvs, rfl, hk6, nd6, ?_, fun H7 h7 tk7 nd7 => ?_⟩
      · have := congrArg List.length hk
        rw [List.length_map, List.length_map, List.length_take] at this
        rw [sizeLine_eq]; omega
      · rw [putK_fresh fr] at nd7
        refine ⟨_, _, _, _, _, rfl, (kb.same s6).trans fun b u hb e => by rw [h7 b hb]; exact e, nd7, ?_⟩
        have ex : es.take (i + 1) = es.take i ++ [e] := by rw [List.take_add_one, he]; rfl
        rw [List.map_append, hk, ex, List.map_append]; rfl
    · obtain ⟨_, _, _, _, kvs, rfl, kb, nd, hk⟩ := p
      have s5 := s2.trans (kb.all hd)
      exact ⟨_, rfl, L, ys, es, rfl, s5.seq (SqL.of hL1), Paired.mapP hys fun v e h => h.sm s5, ht, fun r H6 s6 hr6 => q _ _ (s1.trans (s5.trans s6)) hr6⟩
  · refine ⟨_, pss_cons (ps_setLc (i := 1) (own := [("entry", 2)]) (g := gName 2) (tt := tYes) rfl scCk.nd rfl rfl (sw_true rfl rfl rfl (by decide +kernel)) (pi_tup (pv 0)) (blkOk_by (N := nCk) (sc := defScope (top 27)) (by decide +kernel))
          (fun _ _ _ _ _ => pg_name (i := 2) scCk.nd rfl (Or.inl rfl)) (fun _ _ _ _ _ => pts_nil) (fun _ _ _ _ _ => pe_c CA hr40 rfl (pa_cons (pv 2) pa_nil)))
      (pss_cons (ps_for PassesOwn.never rfl (pi_enum rfl T.enumerate (pa_cons (pv 1) pa_nil)) (pg_tup rfl (pgs_cons (pg_name (i := 3) scCk.nd rfl (Or.inl rfl)) (pgs_cons (pg_name (i := 4) scCk.nd rfl (Or.inl rfl)) pgs_nil)))
          (pss_one (ps_if (pt_not (pt_val (pe_c CE hr rfl (pa_cons (pv 4) pa_nil)))) (pss_one ps_never) pss_nil)))
      (pss_cons (ps_set (i := 5) scCk.nd rfl (Or.inl rfl) pe_nnew)
      (pss_cons (ps_for PassesOwn.never rfl (pi_list (pv 1)) (pg_name (i := 4) scCk.nd rfl (Or.inl rfl))
          (pss_cons (ps_set (i := 6) scCk.nd rfl (Or.inl rfl) (pe_c CK hr1 rfl (pa_cons (pv 4) pa_nil)))
          (pss_cons (ps_if (pt_cmpR (op_nin hr.units) (pv 6) (pv 5) (by rfl)) (pss_one ps_never) pss_nil)
          (pss_one (ps_nput hr.units (pv 5) (pv 6) (pv 4) rfl)))))
      (pss_one (ps_ret (pe_c CO hr4 rfl (pa_cons (pv 1) pa_nil))))))), ?_⟩
    refine ⟨_, rfl, a, rfl, ⟨_, hs⟩, fun L hL => ?_⟩
    refine lc_map (walk_tup (xs := xs)) es (fun e => e) PE1 (fun D H H' ys v c hD k h => ⟨h.1.kb k hD, h.2⟩) hL lx.symm (by omega) (fun H2 s1 => SqT.sm s1 hs) yat_same (fun i y e H2 H3 N he s1 hy n => ?_) (fun H1 ys s1 hL1 hys => ?_)
    · obtain ⟨rfl, hy⟩ := hy
      obtain ⟨d, hd, hyd⟩ := LiI.paired_get hp hy
      rw [List.getElem?_map, he] at hd
      cases hd
      have ok := ht.ok e (List.mem_of_getElem? he)
      exact ⟨rfl, _, rfl, y, e.data, rfl, (hyd.sm s1).dp, fit_le ok.fit (by omega), fun r H4 s4 hr4 => n _ _ s4 ⟨hr4, ok⟩⟩
    rw [List.map_id'] at hys
    -- for index, thing in enumerate(things)
    refine ⟨_, rfl, L, ys, rfl, SqL.of hL1, ?_⟩
    have ly : ys.length = es.length := Paired.length hys
    refine for_it (walk_enum (xs := ys)) (fun i σ H' => ∃ o2 o3 o4 o5 o6, σ = [some (.ref a), some (.ref L), o2, o3, o4, o5, o6] ∧ Same H1 H')
      ⟨_, _, _, _, _, rfl, Same.refl _⟩ (fun i σ H' _ p => ?_) (fun i x σ H2 H3 hi p y => ?_) (fun σ H2 p => ?_)
    · obtain ⟨_, _, _, _, _, _, s2⟩ := p
      exact s2.seq (SqL.of hL1)
    · obtain ⟨_, _, _, _, _, rfl, s2⟩ := p
      obtain ⟨t, x0, y0, rfl, ht0, rfl, e1, e2⟩ := y
      cases e1
      have s3 : Same H2 (L2.upd H2 t (.tup [.int (i : Nat), y0])) := Same.new ht0 _
      obtain ⟨e, he, hye⟩ := LiI.paired_get hys e2
      refine ⟨t, _, rfl, SqT.of upd_same, rfl, .int (i : Nat), [y0], rfl, y0, [], rfl, rfl, ?_⟩
      refine ⟨_, rfl, y0, e, rfl, (hye.sm (s2.trans s3)).da, hye.2, fun H4 s4 => ⟨true, rfl, ?_⟩⟩
      exact ⟨_, _, _, _, _, rfl, s2.trans (s3.trans s4)⟩
    obtain ⟨o2, o3, o4, o5, o6, rfl, s2⟩ := p
    -- found = {}
    intro d H3 hd h3 nd3
    have k3 : KB d H2 H3 := fun b u hb e => by rw [h3 b hb]; exact e
    refine ⟨_, rfl, L, rfl, ⟨_, (s2.trans (k3.all hd)).seq (SqL.of hL1)⟩, ?_⟩
    refine for_it (walk_list (xs := ys)) (fun i σ H' => ∃ o2 o3 o4 o6 kvs, σ = [some (.ref a), some (.ref L), o2, o3, o4, some (.ref d), o6] ∧ KB d H2 H' ∧ ND P w K H' d kvs ∧ kvs.map (·.1) = (es.take i).map Ent.key)
      ⟨_, _, _, _, _, rfl, k3, nd3, rfl⟩ (fun i σ H' _ p => ?_) (fun i x σ H4 H5 hi p y => ?_) (fun σ H4 p => ?_)
    · obtain ⟨_, _, _, _, _, _, kb, _⟩ := p
      exact (s2.trans (kb.all hd)).seq (SqL.of hL1)
    · obtain ⟨_, _, _, _, kvs, rfl, kb, nd, hk⟩ := p
      obtain ⟨rfl, hy⟩ := y
      obtain ⟨e, he, hye⟩ := LiI.paired_get hys hy
      have s5 := s2.trans (kb.all hd)
      refine ⟨_, rfl, x, e, rfl, (hye.sm s5).da, hye.2, fun r H6 s6 hk6 => ?_⟩
      have nd6 := nd.sm s6
      have fr : e.key ∉ kvs.map (·.1) := by
        rw [hk, List.map_take]
        exact nodup_take ht.nd (by rw [List.getElem?_map, he]; rfl)
      refine ⟨_, rfl, _, rfl, e.key, d, kvs, hk6, rfl, nd6, ?_⟩
      refine ⟨false, by rw [valV_fresh fr]; rfl, ?_⟩
      refine ⟨_, rfl, _, rfl, _, rfl, d, e.key, kvs, rfl, hk6, nd6, ?_, fun H7 h7 tk7 nd7 => ?_⟩
      · have := congrArg List.length hk
        rw [List.length_map, List.length_map, List.length_take] at this
        rw [sizeLine_eq]; omega
      · rw [putK_fresh fr] at nd7
        refine ⟨_, _, _, _, _, rfl, (kb.same s6).trans fun b u hb e => by rw [h7 b hb]; exact e, nd7, ?_⟩
        have ex : es.take (i + 1) = es.take i ++ [e] := by rw [List.take_add_one, he]; rfl
        rw [List.map_append, hk, ex, List.map_append]; rfl
    · obtain ⟨_, _, _, _, kvs, rfl, kb, nd, hk⟩ := p
      have s5 := s2.trans (kb.all hd)
      exact ⟨_, rfl, L, ys, es, rfl, s5.seq (SqL.of hL1), Paired.mapP hys fun v e h => h.sm s5, ht, fun r H6 s6 hr6 => q _ _ (s1.trans (s5.trans s6)) hr6⟩
end
end VN

/-! A dict from paths to lists, filled by d.setdefault(path, []).append(x). -/
namespace VN
open PySem PySem.Spec PyProof.Rows L2

def kyP (q : Path) : NestedKey := .tup (q.map .text)
theorem kyP_inj {p q : Path} (h : kyP p = kyP q) : p = q := by
  unfold kyP at h
  injection h with h
  exact map_text_inj h
theorem kyP_ok {p : Path} (h : okP p) : KeyOk (kyP p) := by
  refine ⟨?_, ?_⟩
  · show okKeys (p.map .text) = true
    exact okKeys_text h
  · have := depth_text p
    unfold kyP
    simp only [NestedKey.depth]; omega
theorem kyP_data (p : Path) : (kyP p).data = dPath p := by
  show PyData.tuple (NestedKey.datas (p.map .text)) = .tuple (p.map .str)
  rw [datas_text]
theorem Da.ky {K : PySem.W.Frag} {H : Hp} {v : V} {p : Path} (h : Da K H v (dPath p)) : Ky K H v (kyP p) := by
  obtain ⟨a, rfl, _⟩ := h.pathI
  exact ⟨kyP_ok (path_ok h.gd), ⟨a, rfl⟩, by rw [kyP_data]; exact h.dp⟩
theorem Ky.da {K : PySem.W.Frag} {H : Hp} {v : V} {p : Path} (h : Ky K H v (kyP p)) : Da K H v (dPath p) := by
  have h1 := h.2.2
  have h2 := good_key _ h.1.ok
  rw [kyP_data] at h1 h2
  exact ⟨h1, h2⟩

def addF (f : Path → List V) (q0 : Path) (v : V) : Path → List V := fun q => if q = q0 then f q0 ++ [v] else f q
structure MM (P : Program) (w : World) (K : PySem.W.Frag) (H0 H : Hp) (d : Addr) (kvs : List (NestedKey × V)) (f : Path → List V) (n : Nat) : Prop where
  nd : ND P w K H d kvs
  kb : KB d H0 H
  at' : ∀ q, (valV kvs (kyP q) = none ∧ f q = []) ∨ ∃ l, valV kvs (kyP q) = some (.ref l) ∧ H l = some (.lst (f q)) ∧ H0 l = none
  inj : ∀ q q' l, valV kvs (kyP q) = some (.ref l) → valV kvs (kyP q') = some (.ref l) → q = q'
  fewK : kvs.length ≤ n
  fewL : ∀ q, (f q).length ≤ n
section
variable {P : Program} {w : World} {K : PySem.W.Frag} {H0 H : Hp} {d : Addr} {kvs : List (NestedKey × V)} {f : Path → List V} {n : Nat}
theorem MM.start (h : ND P w K H d []) : MM P w K H H d [] (fun _ => []) 0 :=
  ⟨h, KB.refl _ _, fun q => .inl ⟨rfl, rfl⟩, (fun q q' l h => by cases h), Nat.le_refl _, (fun _ => Nat.le_refl _)⟩
theorem ND.obj {a : Addr} (h : ND P w K H a kvs) : ∃ xs, H a = some (NDO P w a xs) := let ⟨xs, e, _⟩ := h; ⟨xs, e⟩
theorem MM.dne (M : MM P w K H0 H d kvs f n) {l : Addr} {xs : List V} (h : H l = some (.lst xs)) : l ≠ d := by
  obtain ⟨ys, e⟩ := M.nd.obj
  exact ne_of h e (by intro z; cases z)
theorem MM.sm {H' : Hp} (s : Same H H') (M : MM P w K H0 H d kvs f n) : MM P w K H0 H' d kvs f n where
  nd := M.nd.sm s
  kb := M.kb.same s
  at' q := by
    rcases M.at' q with h | ⟨l, h1, h2, h3⟩
    · exact .inl h
    · exact .inr ⟨l, h1, s _ _ h2, h3⟩
  inj := M.inj
  fewK := M.fewK
  fewL := M.fewL
theorem MM.old (M : MM P w K H0 H d kvs f n) {q0 : Path} {l : Addr} (hl : valV kvs (kyP q0) = some (.ref l)) (v : V) : MM P w K H0 (L2.upd H l (.lst (f q0 ++ [v]))) d kvs (addF f q0 v) (n + 1) := by
  obtain ⟨_, h⟩ | ⟨l', h1, h2, h3⟩ := M.at' q0
  · rename_i e; rw [hl] at e; cases e
  rw [hl] at h1
  cases h1
  have dl := M.dne h2
  refine ⟨M.nd.keep (TK.upd h2 (fun _ z => nomatch z) (fun _ _ z => nomatch z)) (upd_ne (Ne.symm dl)), fun b u hb e => ?_, fun q => ?_, M.inj, Nat.le_succ_of_le M.fewK, fun q => ?_⟩
  · have : b ≠ l := fun z => by rw [z, h3] at e; cases e
    rw [upd_ne this]
    exact M.kb b u hb e
  · unfold addF
    by_cases e : q = q0
    · subst e
      exact .inr ⟨l, hl, by rw [upd_same, if_pos rfl], h3⟩
    · rw [if_neg e]
      rcases M.at' q with h | ⟨l2, g1, g2, g3⟩
      · exact .inl h
      · refine .inr ⟨l2, g1, ?_, g3⟩
        have : l2 ≠ l := fun z => by subst z; exact e (M.inj _ _ _ g1 hl)
        rw [upd_ne this]; exact g2
  · unfold addF
    split
    · rw [List.length_append]; have := M.fewL q0; show _ + 1 ≤ n + 1; omega
    · exact Nat.le_succ_of_le (M.fewL q)
theorem MM.new (M : MM P w K H0 H d kvs f n) {q0 : Path} (hn : valV kvs (kyP q0) = none) {l : Addr} (hl : H l = none) (h0 : H0 l = none) {H4 : Hp} (h4 : ∀ c, c ≠ d → H4 c = L2.upd H l (.lst []) c) (tk : TK H H4) (nd : ND P w K H4 d (putK kvs (kyP q0) (.ref l))) (v : V) :
    MM P w K H0 (L2.upd H4 l (.lst [v])) d (putK kvs (kyP q0) (.ref l)) (addF f q0 v) (n + 1) := by
  have dl : l ≠ d := fun z => by
    obtain ⟨xs, e⟩ := M.nd.obj
    rw [← z, hl] at e; cases e
  have h4l : H4 l = some (.lst []) := by rw [h4 l dl, upd_same]
  have vv : ∀ q, valV (putK kvs (kyP q0) (.ref l)) (kyP q) = if q = q0 then some (.ref l) else valV kvs (kyP q) := fun q => by
    rw [valV_put]
    by_cases e : q = q0
    · rw [if_pos e, if_pos (by rw [e])]
    · rw [if_neg e, if_neg (fun z => e (kyP_inj z))]
  have notl : ∀ q l', valV kvs (kyP q) = some (.ref l') → l' ≠ l := fun q l' h z => by
    rcases M.at' q with ⟨g, _⟩ | ⟨l2, g1, g2, _⟩
    · rw [g] at h; cases h
    · rw [g1] at h; cases h; rw [z, hl] at g2; cases g2
  refine ⟨nd.keep (TK.upd h4l (fun _ z => nomatch z) (fun _ _ z => nomatch z)) (upd_ne (Ne.symm dl)), fun b u hb e => ?_, fun q => ?_, fun q q' l' g1 g2 => ?_, ?_, fun q => ?_⟩
  · have : b ≠ l := fun z => by rw [z, h0] at e; cases e
    rw [upd_ne this, h4 b hb, upd_ne this]
    exact M.kb b u hb e
  · rw [vv]
    unfold addF
    by_cases e : q = q0
    · subst e
      refine .inr ⟨l, by rw [if_pos rfl], ?_, h0⟩
      rw [upd_same, if_pos rfl]
      rcases M.at' q with ⟨_, g⟩ | ⟨_, g, _⟩
      · rw [g]; rfl
      · rw [hn] at g; cases g
    · rw [if_neg e, if_neg e]
      rcases M.at' q with h | ⟨l2, g1, g2, g3⟩
      · exact .inl h
      · refine .inr ⟨l2, g1, ?_, g3⟩
        have n2 := notl q l2 g1
        rw [upd_ne n2, h4 l2 (M.dne g2), upd_ne n2]
        exact g2
  · rw [vv] at g1 g2
    by_cases e1 : q = q0
    · by_cases e2 : q' = q0
      · rw [e1, e2]
      · rw [if_pos e1] at g1
        rw [if_neg e2] at g2
        cases g1
        exact absurd rfl (notl _ _ g2)
    · rw [if_neg e1] at g1
      by_cases e2 : q' = q0
      · rw [if_pos e2] at g2
        cases g2
        exact absurd rfl (notl _ _ g1)
      · rw [if_neg e2] at g2
        exact M.inj _ _ _ g1 g2
  · have := length_putK kvs (kyP q0) (.ref l)
    have := M.fewK
    omega
  · unfold addF
    split
    · rw [List.length_append]; have := M.fewL q0; show _ + 1 ≤ n + 1; omega
    · exact Nat.le_succ_of_le (M.fewL q)
/-- d.setdefault(y, []).append(v) -/
theorem mm_step {td ty : TE} {t : TA} {σ : L2.St} {Q : VK} (M : MM P w K H0 H d kvs f n) (hn : n < 1000) (q0 : Path) (v : V) (htd : ∀ N : VK, N (.ref d) H → td σ H N) (hty : ∀ N : VK, (∀ y H2, Same H H2 → Da K H2 y (dPath q0) → N y H2) → ty σ H N)
    (ht : ∀ (H2 : Hp) (N : List V → Hp → Prop), TK H H2 → N [v] H2 → t σ H2 N) (q : ∀ kvs' H', MM P w K H0 H' d kvs' (addF f q0 v) (n + 1) → TK H H' → Q .non H') :
    tBM K "list" rAppend (tNSetd P w K td ty (tLst tNil)) t σ H Q := by
  refine htd _ ⟨d, rfl, ⟨kvs, M.nd⟩, hty _ fun y H2 s2 hy => ⟨Nat.zero_le _, fun l hl => ?_⟩⟩
  have M2 := M.sm s2
  have s3 : Same H2 (L2.upd H2 l (.lst [])) := Same.new hl _
  have h0l : H0 l = none := by
    cases e : H0 l with
    | none => rfl
    | some o =>
      have dl : l ≠ d := fun z => by
        obtain ⟨xs, e⟩ := M2.nd.obj
        rw [← z, hl] at e; cases e
      have := M2.kb l o dl e
      rw [hl] at this; cases this
  refine ⟨kyP q0, kvs, (hy.sm s3).ky, M2.nd.sm s3, fun v' hv' => ?_, fun hnone => ?_⟩
  · rcases M2.at' q0 with ⟨g, _⟩ | ⟨l2, g1, g2, g3⟩
    · rw [g] at hv'; cases hv'
    · rw [g1] at hv'
      cases hv'
      have g4 := s3 _ _ g2
      refine ⟨.inl ⟨rfl, _, SqL.of g4⟩, ht _ _ (TK.of (s2.trans s3)) ⟨l2, f q0, v, rfl, rfl, g4, ?_, ?_⟩⟩
      · have := M.fewL q0; rw [sizeLine_eq]; omega
      · exact q _ _ ((M2.sm s3).old g1 v) ((TK.of (s2.trans s3)).trans (TK.upd g4 (fun _ z => nomatch z) (fun _ _ z => nomatch z)))
  · refine ⟨by have := M.fewK; rw [sizeLine_eq]; omega, fun H4 h4 tk4 nd4 => ?_⟩
    have dl : l ≠ d := fun z => by
      obtain ⟨xs, e⟩ := M2.nd.obj
      rw [← z, hl] at e; cases e
    have g4 : H4 l = some (.lst []) := by rw [h4 l dl, upd_same]
    have tkA : TK H2 H4 := (TK.of s3).trans tk4
    refine ⟨.inl ⟨rfl, _, SqL.of g4⟩, ht _ _ ((TK.of s2).trans tkA) ⟨l, [], v, rfl, rfl, g4, by rw [sizeLine_eq]; show 0 < 16777216; omega, ?_⟩⟩
    exact q _ _ (M2.new hnone hl h0l h4 tkA nd4 v) (((TK.of s2).trans tkA).trans (TK.upd g4 (fun _ z => nomatch z) (fun _ _ z => nomatch z)))
end
end VN

/-! {k(x): v(x) for x in .. if t(x)}, pure. -/
namespace VN
open PySem PySem.Spec PyProof.Rows L2

theorem KB.tkx {D : Addr} {H H' : Hp} (k : KB D H H') (h1 : ∀ xs, H D ≠ some (.tup xs)) (h2 : ∀ o u, H D ≠ some (.frz o u)) : TK H H' := fun b xs h => by
  rcases h with h | ⟨o, h⟩
  · exact .inl (k _ _ (fun z => by subst z; exact h1 _ h) h)
  · exact .inr ⟨o, k _ _ (fun z => by subst z; exact h2 _ _ h) h⟩
theorem ND.tkx {P : Program} {w : World} {K : PySem.W.Frag} {D : Addr} {H H' : Hp} {kvs : List (NestedKey × V)} (nd : ND P w K H D kvs) (k : KB D H H') : TK H H' := by
  obtain ⟨xs, e⟩ := nd.obj
  exact k.tkx (fun ys z => by rw [e] at z; cases z) (fun o u z => by rw [e] at z; cases z)
theorem paired_keys {γ : Type} {F : V → γ → Prop} {kf : γ → NestedKey} : ∀ {kvs : List (NestedKey × V)} {cs : List γ}, Paired (fun kv c => kv.1 = kf c ∧ F kv.2 c) kvs cs → kvs.map (·.1) = cs.map kf
  | _, _, .nil => rfl
  | _, _, .cons h t => by rw [List.map_cons, List.map_cons, h.1, paired_keys t]
section
variable {P : Program} {w : World} {K : PySem.W.Frag}
theorem nc_gen {J : It} {n : Nat} {G : Hp → Prop} {Y : Nat → Hp → V → Hp → Prop} (wk : Walk J n G Y) {β γ : Type} (es : List β) (sel : β → Option γ) (kf : γ → NestedKey) (RV : Hp → V → γ → Prop) (st : ∀ H H' v c, TK H H' → RV H v c → RV H' v c)
    {g : TG} {tt : TT} {tk tv : TE} {vs : List Nat} {σ : L2.St} {H1 H0 : Hp} {D : Addr} {Qd : Hp → Prop} (hD : H1 D = none) (h0 : ∀ b, b ≠ D → H0 b = H1 b) (nd0 : ND P w K H0 D []) (hn : es.length = n) (h1000 : n ≤ 1000) (hG : ∀ H, Same H1 H → G H) (hY : ∀ i H x H', Y i H x H' → Same H H')
    (ndk : ((es.filterMap sel).map kf).Nodup)
    (step : ∀ i x e H H' (M : V → V → Hp → Prop) (N : Hp → Prop), es[i]? = some e → Same H1 H → Y i H x H' → (∀ c y z H5, sel e = some c → Same H' H5 → Ky K H5 y (kf c) → RV H5 z c → M y z H5) → (sel e = none → ∀ H3, Same H' H3 → N H3) →
      g x (wipe σ vs) H' fun σ2 H2 => wipe σ2 vs = wipe σ vs ∧ tt σ2 H2 fun b H3 => if b = true then tk σ2 H3 fun y H4 => tv σ2 H4 fun z H5 => M y z H5 else N H3)
    (done : ∀ H kvs, Same H1 H → ND P w K H D kvs → Paired (fun kv c => kv.1 = kf c ∧ RV H kv.2 c) kvs (es.filterMap sel) → Qd H) :
    ∃ W : Nat → Nat → Hp → Prop, (∃ m, W 0 m H0) ∧ ∀ i m H, W i m H →
      (J.stop i H ∧ Qd H) ∨ (J.go i H ∧ ∃ Nx : Hp → Prop, (∀ H', Nx H' → ∃ m', m' < m ∧ W (i + 1) m' H') ∧ ∀ x H', J.yld i H x H' → g x (wipe σ vs) H' fun σ2 H2 => wipe σ2 vs = wipe σ vs ∧ tt σ2 H2 fun b H3 =>
        if b = true then tk σ2 H3 fun y H4 => tv σ2 H4 fun z H5 => ∃ kvs k, Ky K H5 y k ∧ ND P w K H5 D kvs ∧ NPut P w K H5 D kvs k z Nx else Nx H3) := by
  have Inv0 : ∃ I : Nat → Hp → Prop, I = fun i H => ∃ kvs, KB D H1 H ∧ ND P w K H D kvs ∧ Paired (fun kv c => kv.1 = kf c ∧ RV H kv.2 c) kvs ((es.take i).filterMap sel) := ⟨_, rfl⟩
  obtain ⟨I, hI⟩ := Inv0
  refine ⟨fun i m H => m = n - i ∧ i ≤ n ∧ I i H, ⟨n, by simp, Nat.zero_le _, ?_⟩, ?_⟩
  · rw [hI]
    exact ⟨[], fun b u hb e => by rw [h0 b hb]; exact e, nd0, .nil⟩
  rintro i m H ⟨rfl, hi, p⟩
  have p' := p
  rw [hI] at p'
  obtain ⟨kvs, kb, nd, hp⟩ := p'
  have sm := kb.all hD
  by_cases hlt : i < n
  · refine .inr ⟨wk.goes i H hlt (hG _ sm), I (i + 1), fun H' p' => ⟨n - (i + 1), by omega, rfl, hlt, p'⟩, fun x H' y => ?_⟩
    obtain ⟨e, he⟩ : ∃ e, es[i]? = some e := ⟨_, List.getElem?_eq_getElem (by omega)⟩
    have yy := wk.yields i H x H' hlt (hG _ sm) y
    have s1 := hY _ _ _ _ yy
    have ex : es.take (i + 1) = es.take i ++ [e] := by rw [List.take_add_one, he]; rfl
    refine step i x e H H' _ _ he sm yy (fun c y z H5 hc s5 hk hv => ?_) fun hc H3 s3 => ?_
    · have s15 := s1.trans s5
      have nd5 := nd.sm s15
      have ec : (es.take (i + 1)).filterMap sel = (es.take i).filterMap sel ++ [c] := by
        rw [ex, List.filterMap_append, List.filterMap_cons_some hc]; rfl
      have fr : kf c ∉ kvs.map (·.1) := by
        rw [paired_keys hp]
        have sub : ((es.take (i + 1)).filterMap sel).map kf = ((es.take i).filterMap sel).map kf ++ [kf c] := by rw [ec, List.map_append]; rfl
        have nd1 : (((es.take (i + 1)).filterMap sel).map kf).Nodup := List.Nodup.sublist (((List.take_sublist (i + 1) es).filterMap sel).map kf) ndk
        rw [sub, List.nodup_append] at nd1
        exact fun hm => nd1.2.2 _ hm _ (List.mem_singleton.mpr rfl) rfl
      refine ⟨kvs, kf c, hk, nd5, ?_, fun H6 h6 tk6 nd6 => ?_⟩
      · have l1 := Paired.length hp
        have l2 := List.length_filterMap_le sel (es.take i)
        rw [List.length_take] at l2
        rw [sizeLine_eq]; omega
      · rw [hI]
        rw [putK_fresh fr] at nd6
        have kb6 : KB D H H6 := fun b u hb e => by rw [h6 b hb]; exact s15 _ _ e
        refine ⟨_, kb.trans kb6, nd6, ?_⟩
        rw [ec]
        exact Paired.snoc (Paired.mapP hp fun kv c h => ⟨h.1, st _ _ _ _ (nd.tkx kb6) h.2⟩) ⟨rfl, st _ _ _ _ tk6 hv⟩
    · rw [hI]
      have s13 := s1.trans s3
      have ec : (es.take (i + 1)).filterMap sel = (es.take i).filterMap sel := by
        rw [ex, List.filterMap_append, List.filterMap_cons_none hc]; simp
      refine ⟨kvs, kb.same s13, nd.sm s13, ?_⟩
      rw [ec]
      exact Paired.mapP hp fun kv c h => ⟨h.1, st _ _ _ _ (TK.of s13) h.2⟩
  · have e : i = n := by omega
    subst e
    refine .inl ⟨wk.stops H (hG _ sm), done H kvs sm nd ?_⟩
    rw [← hn, List.take_length] at hp
    exact hp
end
end VN

/-! Rules.__init__. -/
namespace VN
open PySem PySem.Spec PyProof.Rows L2

/-! ### the instance's fields -/
theorem n_hp : ¬ (("hides" : Str) = "puts") := by decide +kernel
theorem n_hb : ¬ (("hides" : Str) = "below") := by decide +kernel
theorem n_hr : ¬ (("hides" : Str) = "props") := by decide +kernel
theorem n_pb : ¬ (("puts" : Str) = "below") := by decide +kernel
theorem n_pr : ¬ (("puts" : Str) = "props") := by decide +kernel
theorem n_br : ¬ (("below" : Str) = "props") := by decide +kernel
def rf1 (dh : Addr) : List (Str × V) := putF "hides" (.ref dh) []
def rf2 (dh dp : Addr) : List (Str × V) := putF "puts" (.ref dp) (rf1 dh)
def rf3 (dh dp db : Addr) : List (Str × V) := putF "below" (.ref db) (rf2 dh dp)
def rf4 (dh dp db dr : Addr) : List (Str × V) := putF "props" (.ref dr) (rf3 dh dp db)
theorem rf_len (dh dp db dr : Addr) : (rf1 dh).length ≤ 1 ∧ (rf2 dh dp).length ≤ 2 ∧ (rf3 dh dp db).length ≤ 3 ∧ (rf4 dh dp db dr).length ≤ 4 := by
  have h1 := length_putF "hides" (.ref dh) []
  have h2 := length_putF "puts" (.ref dp) (rf1 dh)
  have h3 := length_putF "below" (.ref db) (rf2 dh dp)
  have h4 := length_putF "props" (.ref dr) (rf3 dh dp db)
  have e1 : (rf1 dh).length = (putF "hides" (.ref dh) []).length := rfl
  have e2 : (rf2 dh dp).length = (putF "puts" (.ref dp) (rf1 dh)).length := rfl
  have e3 : (rf3 dh dp db).length = (putF "below" (.ref db) (rf2 dh dp)).length := rfl
  have e4 : (rf4 dh dp db dr).length = (putF "props" (.ref dr) (rf3 dh dp db)).length := rfl
  simp only [List.length_nil] at h1
  omega
theorem rf3_puts (dh dp db : Addr) : (rf3 dh dp db).lookup ("puts" : Str) = some (.ref dp) := by
  unfold rf3 rf2
  rw [lookup_putF, if_neg n_pb, lookup_putF, if_pos rfl]
theorem rf3_below (dh dp db : Addr) : (rf3 dh dp db).lookup ("below" : Str) = some (.ref db) := by
  unfold rf3
  rw [lookup_putF, if_pos rfl]
theorem rf4_hides (dh dp db dr : Addr) : (rf4 dh dp db dr).lookup ("hides" : Str) = some (.ref dh) := by
  unfold rf4 rf3 rf2 rf1
  rw [lookup_putF, if_neg n_hr, lookup_putF, if_neg n_hb, lookup_putF, if_neg n_hp, lookup_putF, if_pos rfl]
theorem rf4_puts (dh dp db dr : Addr) : (rf4 dh dp db dr).lookup ("puts" : Str) = some (.ref dp) := by
  unfold rf4
  rw [lookup_putF, if_neg n_pr, rf3_puts]
theorem rf4_below (dh dp db dr : Addr) : (rf4 dh dp db dr).lookup ("below" : Str) = some (.ref db) := by
  unfold rf4
  rw [lookup_putF, if_neg n_br, rf3_below]
theorem rf4_props (dh dp db dr : Addr) : (rf4 dh dp db dr).lookup ("props" : Str) = some (.ref dr) := by
  unfold rf4
  rw [lookup_putF, if_pos rfl]

/-- what is known of the class -/
structure RTxt (K : PySem.W.Frag) (mg : Str → Option Value) (C : Addr) : Prop where
  cl : Cls K C
  nH : NoAttr K C "hides"
  nP : NoAttr K C "puts"
  nB : NoAttr K C "below"
  nR : NoAttr K C "props"
  mgC : mg "Rules" = some (.ref C)

/-- paths to lists, as it stands -/
def MMs (P : Program) (w : World) (K : PySem.W.Frag) (H : Hp) (d : Addr) (kvs : List (NestedKey × V)) (f : Path → List V) : Prop :=
  ND P w K H d kvs ∧ ∀ q, (valV kvs (kyP q) = none ∧ f q = []) ∨ ∃ l, valV kvs (kyP q) = some (.ref l) ∧ H l = some (.lst (f q))
theorem MMs.mv {P : Program} {w : World} {K : PySem.W.Frag} {H H' : Hp} {d : Addr} {kvs : List (NestedKey × V)} {f : Path → List V} (tk : TK H H') (k : ∀ b o, ((∃ xs, o = .lst xs) ∨ (b = d ∧ ∃ xs, o = NDO P w d xs)) → H b = some o → H' b = some o) (h : MMs P w K H d kvs f) : MMs P w K H' d kvs f := by
  obtain ⟨nd, h⟩ := h
  obtain ⟨xs, e⟩ := nd.obj
  refine ⟨nd.keep tk ((k d _ (.inr ⟨rfl, xs, rfl⟩) e).trans e.symm), fun q => ?_⟩
  rcases h q with h | ⟨l, h1, h2⟩
  · exact .inl h
  · exact .inr ⟨l, h1, k l _ (.inl ⟨_, rfl⟩) h2⟩
/-- the rules of the entries es stand at p -/
structure RulesAt (P : Program) (w : World) (K : PySem.W.Frag) (C : Addr) (H : Hp) (p : Addr) (es : List Ent) : Prop where
  ex : ∃ (dx dh dp db dr : Addr) (kh kp kb kr : List (NestedKey × V)) (fr : Path → List V), H p = some (.ins C dx (rf4 dh dp db dr)) ∧
    ND P w K H dh kh ∧ (∀ q, (valV kh (kyP q)).isSome = hid es q) ∧
    ND P w K H dp kp ∧ (∀ q t, putTree es q = some t → ∃ v, valV kp (kyP q) = some v ∧ Da K H v (dTree t)) ∧
    MMs P w K H db kb (fun q => (belowOf es q).map V.str) ∧
    MMs P w K H dr kr fr ∧ ∀ q, Paired (Da K H) (fr q) ((propsOf es q).map Ent.data)
theorem RulesAt.sm {P : Program} {w : World} {K : PySem.W.Frag} {C : Addr} {H H' : Hp} {p : Addr} {es : List Ent} (s : Same H H') (h : RulesAt P w K C H p es) : RulesAt P w K C H' p es := by
  obtain ⟨dx, dh, dp, db, dr, kh, kp, kb, kr, fr, h1, h2, h3, h4, h5, h6, h7, h8⟩ := h.ex
  refine ⟨dx, dh, dp, db, dr, kh, kp, kb, kr, fr, s _ _ h1, h2.sm s, h3, h4.sm s, fun q t e => ?_, h6.mv (TK.of s) fun b o _ e => s _ _ e, h7.mv (TK.of s) fun b o _ e => s _ _ e, fun q => Paired.mapP (h8 q) fun v d h => h.sm s⟩
  obtain ⟨v, g1, g2⟩ := h5 q t e
  exact ⟨v, g1, g2.sm s⟩
def selH : Ent → Option Path
  | .hide p => some p
  | _ => none
def selP : Ent → Option (Path × Tree)
  | .put p t => some (p, t)
  | _ => none
theorem hides_eq (es : List Ent) : hidesOf es = es.filterMap selH := by
  unfold hidesOf
  congr 1
theorem puts_eq (es : List Ent) : putsOf es = es.filterMap selP := by
  unfold putsOf
  congr 1
end VN

/-! Rules.__init__: the walk. -/
namespace VN
open PySem PySem.Spec PyProof.Rows L2

def tagOf : Ent → Str
  | .drop _ _ => "drop"
  | .hide _ => "hide"
  | .put _ _ => "put"
  | .set _ _ _ => "set"
/-- an entry that stands at x: its tag, its path, the rest -/
theorem ent_at {K : PySem.W.Frag} {H : Hp} {x : V} {e : Ent} (h : Da K H x e.data) : ∃ b x2 rest, x = .ref b ∧ SqT K H b (.str (tagOf e) :: x2 :: rest) ∧ Da K H x2 (dPath e.path) := by
  cases e with
  | drop p n =>
    obtain ⟨a, x1, x2, x3, rfl, hs, d1, d2, d3⟩ := (show Da K H x (.tuple [.str "drop", dPath p, .str n]) from h).tup3
    obtain rfl := d1.strI
    exact ⟨a, x2, _, rfl, hs, d2⟩
  | hide p =>
    obtain ⟨a, x1, x2, rfl, hs, d1, d2⟩ := (show Da K H x (.tuple [.str "hide", dPath p]) from h).tup2
    obtain rfl := d1.strI
    exact ⟨a, x2, _, rfl, hs, d2⟩
  | put p t =>
    obtain ⟨a, x1, x2, x3, rfl, hs, d1, d2, d3⟩ := (show Da K H x (.tuple [.str "put", dPath p, dTree t]) from h).tup3
    obtain rfl := d1.strI
    exact ⟨a, x2, _, rfl, hs, d2⟩
  | set p n v =>
    obtain ⟨a, x1, x2, x3, x4, rfl, hs, d1, d2, d3, d4⟩ := (show Da K H x (.tuple [.str "set", dPath p, .str n, dVal v]) from h).tup4
    obtain rfl := d1.strI
    exact ⟨a, x2, _, rfl, hs, d2⟩
theorem cut_init (xs : List V) : cutV xs none (some (-1)) = xs.dropLast := by
  have e : HT.sIx xs.length xs.length (some (-1)) = xs.length - 1 := by
    show (if (-1 : Int) < 0 then ((-1 : Int) + (xs.length : Int)).toNat else min (-1 : Int).toNat xs.length) = _
    rw [if_pos (by decide)]
    omega
  unfold cutV
  rw [e, HT.sIx_none, List.dropLast_eq_take, List.drop_zero]
  rfl
theorem cut_part {xs : List V} (h : xs ≠ []) : ¬ (HT.sIx xs.length 0 none = 0 ∧ HT.sIx xs.length xs.length (some (-1)) = xs.length) := by
  rintro ⟨_, h2⟩
  have h2 : (if (-1 : Int) < 0 then ((-1 : Int) + (xs.length : Int)).toNat else min (-1 : Int).toNat xs.length) = xs.length := h2
  rw [if_pos (by decide)] at h2
  have : 0 < xs.length := List.length_pos_iff.mpr h
  omega
/-- path[:-1] -/
theorem slice_init {K : PySem.W.Frag} {H : Hp} {v : V} {p : Path} (h : Da K H v (dPath p)) (hp : p ≠ []) {N : VK} (n : ∀ y H2, Same H H2 → Da K H2 y (dPath p.dropLast) → N y H2) : rSlA K v none (some (-1)) H N := by
  obtain ⟨a, rfl, hs⟩ := h.pathI
  have hne : p.map V.str ≠ [] := fun e => hp (List.map_eq_nil_iff.mp e)
  refine ⟨a, _, rfl, hs, fun h => absurd h (cut_part hne), fun _ r hr => ?_⟩
  refine n _ _ (Same.new hr _) (daPath (SqT.of ?_) fun x hx => path_ok h.gd x (List.dropLast_subset p hx))
  rw [upd_same, cut_init, List.map_dropLast]
/-- path[-1] -/
theorem at_last {p : Path} (hp : p ≠ []) : atI (p.map V.str) (-1) = some (.str (p.getLast hp)) := by
  have e : p = p.dropLast ++ [p.getLast hp] := (List.dropLast_concat_getLast hp).symm
  have e2 : p.map V.str = (p.dropLast.map V.str) ++ [.str (p.getLast hp)] := by
    conv => lhs; rw [e]
    rw [List.map_append]; rfl
  rw [e2, atI_last]
theorem TK.unlock {H : Hp} {d : Addr} {od : Obj} {u : HO} (h : H d = some (.frz od u)) (hu : ∀ xs, u ≠ .tup xs) : TK H (L2.upd H d u) := fun b xs q => by
  have ne : b ≠ d := fun e => by
    subst e
    rcases q with q | ⟨ob, q⟩
    · rw [h] at q; cases q
    · rw [h] at q
      cases q
      exact hu _ rfl
  rcases q with q | ⟨ob, q⟩
  · exact .inl (by rw [upd_ne ne]; exact q)
  · exact .inr ⟨ob, by rw [upd_ne ne]; exact q⟩
theorem TK.lock {H : Hp} {d : Addr} {od : Obj} {u : HO} (h : H d = some u) (h1 : ∀ xs, u ≠ .tup xs) (h2 : ∀ o v, u ≠ .frz o v) : TK H (L2.upd H d (.frz od u)) := fun b xs q => by
  have ne : b ≠ d := fun e => by
    subst e
    rcases q with q | ⟨ob, q⟩
    · rw [h] at q; exact h1 _ (Option.some.inj q)
    · rw [h] at q; exact h2 _ _ (Option.some.inj q)
  rcases q with q | ⟨ob, q⟩
  · exact .inl (by rw [upd_ne ne]; exact q)
  · exact .inr ⟨ob, by rw [upd_ne ne]; exact q⟩
/-- a field is set -/
theorem TK.ins {H : Hp} {p C dx : Addr} {fs gs : List (Str × V)} (h : H p = some (.ins C dx fs)) : TK H (L2.upd H p (.ins C dx gs)) := TK.upd h (fun _ z => nomatch z) (fun _ _ z => nomatch z)
theorem ND.ins {P : Program} {w : World} {K : PySem.W.Frag} {H : Hp} {p C dx d : Addr} {fs gs : List (Str × V)} {kvs : List (NestedKey × V)} (h : H p = some (.ins C dx fs)) (nd : ND P w K H d kvs) : ND P w K (L2.upd H p (.ins C dx gs)) d kvs := by
  obtain ⟨xs, e⟩ := nd.obj
  exact nd.keep (TK.ins h) (upd_ne (ne_of e h (by intro z; cases z)))
theorem KB.ins {H H' : Hp} {p C dx : Addr} {gs : List (Str × V)} (k : KB p H H') : KB p H (L2.upd H' p (.ins C dx gs)) := k.upd _
/-- a new thing at d -/
theorem same_of_new {H H' : Hp} {d : Addr} (hd : H d = none) (h : ∀ b, b ≠ d → H' b = H b) : Same H H' := fun b u e => by rw [h b (ne_of_none e hd)]; exact e
/-- the dicts' values -/
theorem hid_val {kh : List (NestedKey × V)} {F : V → Path → Prop} : ∀ {hs : List Path}, Paired (fun kv (c : Path) => kv.1 = kyP c ∧ F kv.2 c) kh hs → ∀ q, (valV kh (kyP q)).isSome = decide (q ∈ hs) := by
  intro hs h
  induction h with
  | nil => intro q; rfl
  | @cons kv c kvs cs h t ih =>
    intro q
    by_cases e : kv.1 = kyP q
    · have : c = q := kyP_inj (h.1.symm.trans e)
      rw [valV_pos e, decide_eq_true (by rw [this]; exact List.mem_cons_self)]; rfl
    · rw [valV_neg e, ih q]
      refine decide_eq_decide.mpr ⟨fun m => List.mem_cons_of_mem _ m, fun m => ?_⟩
      rcases List.mem_cons.mp m with z | m
      · exact absurd (h.1.trans (by rw [z])) e
      · exact m
theorem put_val {K : PySem.W.Frag} {H : Hp} {kp : List (NestedKey × V)} : ∀ {ps : List (Path × Tree)}, Paired (fun kv (c : Path × Tree) => kv.1 = kyP c.1 ∧ Da K H kv.2 (dTree c.2)) kp ps → ∀ q t, (ps.find? fun x => decide (x.1 = q)).map (·.2) = some t → ∃ v, valV kp (kyP q) = some v ∧ Da K H v (dTree t) := by
  intro ps h
  induction h with
  | nil => intro q t e; cases e
  | @cons kv c kvs cs h t ih =>
    intro q u e
    by_cases e1 : c.1 = q
    · rw [List.find?_cons_of_pos (by simpa using e1)] at e
      have e : c.2 = u := by simpa using e
      exact ⟨kv.2, valV_pos (by rw [h.1, e1]), by rw [← e]; exact h.2⟩
    · rw [List.find?_cons_of_neg (by simpa using e1)] at e
      obtain ⟨v, g1, g2⟩ := ih q u e
      exact ⟨v, by rw [valV_neg (fun z => e1 (kyP_inj (h.1.symm.trans z)))]; exact g1, g2⟩
def spInit (P : Program) (w : World) (K : PySem.W.Frag) (C : Addr) : Sp := fun vs H Q _ => ∃ p dx v es, vs = [.ref p, v] ∧ H p = some (.ins C dx []) ∧ Da K H v (dTab es) ∧ TbOk es ∧ ∀ H', KB p H H' → RulesAt P w K C H' p es → Q .non H'
end VN

/-! Rules.__init__: the walk. -/
namespace VN
open PySem PySem.Spec PyProof.Rows L2

theorem nd_sel {γ : Type} (sel : Ent → Option γ) (kf : γ → NestedKey) (h : ∀ e f c d, sel e = some c → sel f = some d → kf c = kf d → e.key = f.key) : ∀ es : List Ent, (es.map Ent.key).Nodup → ((es.filterMap sel).map kf).Nodup
  | [], _ => by simp
  | e :: es, nd => by
    rw [List.map_cons, List.nodup_cons] at nd
    cases he : sel e with
    | none => rw [List.filterMap_cons_none he]; exact nd_sel sel kf h es nd.2
    | some c =>
      rw [List.filterMap_cons_some he, List.map_cons, List.nodup_cons]
      refine ⟨fun hm => ?_, nd_sel sel kf h es nd.2⟩
      obtain ⟨d, hd, e1⟩ := List.mem_map.mp hm
      obtain ⟨f, hf, e2⟩ := List.mem_filterMap.mp hd
      exact nd.1 (List.mem_map.mpr ⟨f, hf, h f e d c e2 he e1⟩)
theorem nd_hides {es : List Ent} (h : (es.map Ent.key).Nodup) : ((es.filterMap selH).map kyP).Nodup := nd_sel selH kyP (fun e f c d h1 h2 h3 => by
  cases e <;> cases h1
  cases f <;> cases h2
  rw [kyP_inj h3]) es h
theorem nd_puts {es : List Ent} (h : (es.map Ent.key).Nodup) : ((es.filterMap selP).map fun x : Path × Tree => kyP x.1).Nodup := nd_sel selP (fun x : Path × Tree => kyP x.1) (fun e f c d h1 h2 h3 => by
  cases e <;> cases h1
  cases f <;> cases h2
  have := kyP_inj h3
  exact congrArg (fun p : Path => NestedKey.tup [.text "put", .tup (p.map .text)]) this) es h
/-- the children that stand below q among the first puts -/
def bel (ps : List (Path × Tree)) (q : Path) : List V := (ps.filterMap fun x => if x.1.dropLast = q then x.1.getLast? else none).map V.str
theorem bel_add (ps : List (Path × Tree)) {r : Path} {t : Tree} (hr : r ≠ []) : addF (bel ps) r.dropLast (.str (r.getLast hr)) = bel (ps ++ [(r, t)]) := by
  funext q
  unfold addF bel
  rw [List.filterMap_append, List.map_append]
  by_cases e : q = r.dropLast
  · subst e
    rw [if_pos rfl, List.filterMap_cons_some (b := r.getLast hr) (by rw [if_pos rfl]; exact List.getLast?_eq_some_getLast hr)]
    rfl
  · rw [if_neg e, List.filterMap_cons_none (by rw [if_neg (fun z => e z.symm)])]
    simp
/-- the entries' values that are props of q, among the first -/
def prp (zs : List (Ent × V)) (q : Path) : List V := zs.filterMap fun z => if z.1.isProp = true ∧ z.1.path = q then some z.2 else none
theorem prp_yes (zs : List (Ent × V)) {e : Ent} {x : V} (he : e.isProp = true) : addF (prp zs) e.path x = prp (zs ++ [(e, x)]) := by
  funext q
  unfold addF prp
  rw [List.filterMap_append]
  by_cases h : q = e.path
  · subst h
    rw [if_pos rfl, List.filterMap_cons_some (b := x) (by rw [if_pos ⟨he, rfl⟩])]
    rfl
  · rw [if_neg h, List.filterMap_cons_none (by rw [if_neg (fun z => h z.2.symm)])]
    simp
theorem prp_no (zs : List (Ent × V)) {e : Ent} {x : V} (he : e.isProp = false) : prp zs = prp (zs ++ [(e, x)]) := by
  funext q
  unfold prp
  rw [List.filterMap_append, List.filterMap_cons_none (by rw [if_neg (fun z => by rw [he] at z; cases z.1)])]
  simp
theorem prp_all {K : PySem.W.Frag} {H : Hp} : ∀ {es : List Ent} {xs : List V}, Paired (Da K H) xs (es.map Ent.data) → ∀ q, Paired (Da K H) (prp (es.zip xs) q) ((propsOf es q).map Ent.data)
  | [], _, h, q => by cases h; exact .nil
  | e :: es, _, h, q => by
    rw [List.map_cons] at h
    cases h with
    | @cons x _ xs _ h1 h2 =>
      have ih := prp_all h2 q
      unfold prp propsOf at ih ⊢
      rw [List.zip_cons_cons]
      by_cases c : e.isProp = true ∧ e.path = q
      · rw [List.filterMap_cons_some (b := x) (by rw [if_pos c]), List.filter_cons_of_pos (by rw [c.1, decide_eq_true c.2]; rfl), List.map_cons]
        exact .cons h1 ih
      · rw [List.filterMap_cons_none (by rw [if_neg c]), List.filter_cons_of_neg (fun z => c (by simpa using z))]
        exact ih
section
variable {P : Program} {w : World} {K : PySem.W.Frag} {mg : Str → Option Value} {base : Heap} {k : Nat}
abbrev nRi : List Str := ["self", "entries", "entry", "path"]
theorem scRi : FnScope nRi ["self", "entries"] (defScope (inClass (top 29) 0)) := ⟨rfl, rfl, rfl, by decide +kernel, rfl, by decide +kernel, by decide +kernel⟩
theorem ok_init {f C : Addr} {fd : FuncData} (F : Fun K "__init__" "Rules.__init__" (inClass (top 29) 0) f fd) (T : Txt mg) (R : RTxt K mg C) : FnOk P w K mg base CX0 1 f fd ["self", "entries"] (spInit P w K C) := by
  refine F.ok scRi (fun vs H Q E h => ?_) (fun cdv A outer s H vs Q E hr h => ?_)
  · obtain ⟨p, dx, v, es, rfl, _⟩ := h
    rfl
  obtain ⟨p, dx, v, es, rfl, hp, hd, ht, q⟩ := h
  refine ⟨_, pss_cons (ps_fld (pv 0) (pe_nc (own := [("entry", 2)]) (g := gName 2) hr.units rfl scRi.nd (pi_tup (pv 1)) (blkOk_by (N := nRi) (sc := defScope (inClass (top 29) 0)) (by decide +kernel)) (fun _ _ _ _ _ => pg_name (i := 2) scRi.nd rfl (Or.inl rfl))
        (fun _ _ _ _ _ => pts_one (pt_cmpR op_eq (pe_ix (r := rIxT K) ix_tup (pv 2) pe_int (fun _ _ => rfl)) pe_str (nomark _))) (fun _ _ _ _ _ => pe_ix (r := rIxT K) ix_tup (pv 2) pe_int (fun _ _ => rfl)) (fun _ _ _ _ _ => pe_bl)) rfl)
    (pss_cons (ps_fld (pv 0) (pe_nc (own := [("entry", 2)]) (g := gName 2) hr.units rfl scRi.nd (pi_tup (pv 1)) (blkOk_by (N := nRi) (sc := defScope (inClass (top 29) 0)) (by decide +kernel)) (fun _ _ _ _ _ => pg_name (i := 2) scRi.nd rfl (Or.inl rfl))
        (fun _ _ _ _ _ => pts_one (pt_cmpR op_eq (pe_ix (r := rIxT K) ix_tup (pv 2) pe_int (fun _ _ => rfl)) pe_str (nomark _))) (fun _ _ _ _ _ => pe_ix (r := rIxT K) ix_tup (pv 2) pe_int (fun _ _ => rfl)) (fun _ _ _ _ _ => pe_ix (r := rIxT K) ix_tup (pv 2) pe_int (fun _ _ => rfl))) rfl)
    (pss_cons (ps_fld (pv 0) pe_nnew rfl)
    (pss_cons (ps_lock (ps_for PassesOwn.never rfl (pi_nkeys (pe_fld (pv 0) rfl)) (pg_name (i := 3) scRi.nd rfl (Or.inl rfl))
        (pss_one (ps_expr (pe_bm PySem.F.plainAttrs_list PySem.F.slot_list_append PySem.F.type_list_append mt_append
          (pe_nsetd hr.units (pe_fld (pv 0) rfl) (pe_slice sl_tupA (pv 3) po_none (po_some (pe_un un_neg pe_int))) (pe_lst pa_nil) ⟨rfl, rfl, rfl, rfl⟩)
          (pa_cons (pe_ix ix_tup (pv 3) (pe_un un_neg pe_int) (fun _ _ => rfl)) pa_nil))))))
    (pss_cons (ps_fld (pv 0) pe_nnew rfl)
    (pss_one (ps_for PassesOwn.never rfl (pi_tup (pv 1)) (pg_name (i := 2) scRi.nd rfl (Or.inl rfl))
        (pss_one (ps_if (pt_cmpR op_in_seq (pe_ix ix_tup (pv 2) pe_int (fun _ _ => rfl)) (pe_tup (pa_cons pe_str (pa_cons pe_str pa_nil))) (by rfl))
          (pss_one (ps_expr (pe_bm PySem.F.plainAttrs_list PySem.F.slot_list_append PySem.F.type_list_append mt_append
            (pe_nsetd hr.units (pe_fld (pv 0) rfl) (pe_ix ix_tup (pv 2) pe_int (fun _ _ => rfl)) (pe_lst pa_nil) ⟨rfl, rfl, rfl, rfl⟩)
            (pa_cons (pv 2) pa_nil)))) pss_nil)))))))), ?_⟩
  obtain ⟨a, xs, rfl, hs, hx⟩ := (show Da K H v (.tuple (es.map Ent.data)) from hd).tupI
  have lx : xs.length = es.length := by rw [Paired.length hx, List.length_map]
  have len := ht.len
  -- an entry among them, later
  have at' : ∀ {i : Nat} {x : V} {e : Ent} {H' : Hp}, TK H H' → xs[i]? = some x → es[i]? = some e → Da K H' x e.data := fun {i x e H'} tk h1 h2 => by
    obtain ⟨d, hd, hxd⟩ := LiI.paired_get hx h1
    rw [List.getElem?_map, h2] at hd
    cases hd
    exact hxd.tk tk
  -- self.hides
  refine ⟨_, rfl, a, rfl, ⟨_, hs⟩, fun dh H0 hdh h0 nd0 => ?_⟩
  refine nc_gen (walk_tup (xs := xs)) es selH kyP (fun _ v _ => v = .bl true) (fun _ _ _ _ _ h => h) hdh h0 nd0 lx.symm (by omega) (fun H2 s1 => SqT.sm s1 hs) yat_same (nd_hides ht.nd) (fun i y e H2 H3 M N he s1 hy m n => ?_) (fun H1 kh s1 ndh hkh => ?_)
  · obtain ⟨rfl, hy⟩ := hy
    obtain ⟨b, x2, rest, rfl, hb, d2⟩ := ent_at (at' (TK.of s1) hy he)
    refine ⟨rfl, _, rfl, b, _, _, _, rfl, rfl, hb, atI_nat (j := 0) rfl, rfl, _, rfl, ?_⟩
    cases e with
    | hide p2 =>
      refine iteD rfl ?_
      exact ⟨_, rfl, b, _, _, _, rfl, rfl, hb, atI_nat (j := 1) rfl, m _ _ _ _ rfl (Same.refl _) d2.ky rfl⟩
    | drop _ _ => exact iteN (show ¬ V.str "drop" = V.str "hide" by decide +kernel) (n rfl _ (Same.refl _))
    | put _ _ => exact iteN (show ¬ V.str "put" = V.str "hide" by decide +kernel) (n rfl _ (Same.refl _))
    | set _ _ _ => exact iteN (show ¬ V.str "set" = V.str "hide" by decide +kernel) (n rfl _ (Same.refl _))
  have hp1 := s1 _ _ hp
  refine ⟨_, rfl, p, C, dx, _, rfl, hp1, R.cl, R.nH, by show 0 < 1000; omega, ?_⟩
  obtain ⟨A1, eA1⟩ : ∃ A, A = L2.upd H1 p (.ins C dx (rf1 dh)) := ⟨_, rfl⟩
  have kA1 : KB p H A1 := by rw [eA1]; exact (KB.of s1).upd _
  have tA1 : TK H A1 := by rw [eA1]; exact (TK.of s1).trans (TK.ins hp1)
  have pA1 : A1 p = some (.ins C dx (rf1 dh)) := by rw [eA1]; exact upd_same
  have ndhA1 : ND P w K A1 dh kh := by rw [eA1]; exact ndh.ins hp1
  show tSeq _ _ _ _ (L2.upd H1 p (.ins C dx (rf1 dh)))
  rw [← eA1]
  clear eA1
  -- self.puts
  refine ⟨_, rfl, a, rfl, ⟨_, tA1.sqT hs⟩, fun dp H0 hdp h0 nd0 => ?_⟩
  refine nc_gen (walk_tup (xs := xs)) es selP (fun x => kyP x.1) (fun H v c => Da K H v (dTree c.2)) (fun _ _ _ _ t h => h.tk t) hdp h0 nd0 lx.symm (by omega) (fun H2 s1 => SqT.sm s1 (tA1.sqT hs)) yat_same (nd_puts ht.nd) (fun i y e H2 H3 M N he s2 hy m n => ?_) (fun H2 kp s2 ndp hkp => ?_)
  · obtain ⟨rfl, hy⟩ := hy
    have hde := at' (tA1.trans (TK.of s2)) hy he
    cases e with
    | put p2 t2 =>
      obtain ⟨b, x1, x2, x3, rfl, hb, d1, d2, d3⟩ := (show Da K H3 y (.tuple [.str "put", dPath p2, dTree t2]) from hde).tup3
      obtain rfl := d1.strI
      refine ⟨rfl, _, rfl, b, _, _, _, rfl, rfl, hb, rfl, rfl, _, rfl, ?_⟩
      refine iteD rfl ?_
      exact ⟨_, rfl, b, _, _, _, rfl, rfl, hb, rfl, _, rfl, b, _, _, _, rfl, rfl, hb, rfl, m _ _ _ _ rfl (Same.refl _) d2.ky d3⟩
    | hide _ =>
      obtain ⟨b, x2, rest, rfl, hb, d2⟩ := ent_at hde
      refine ⟨rfl, _, rfl, b, _, _, _, rfl, rfl, hb, atI_nat (j := 0) rfl, rfl, _, rfl, ?_⟩
      exact iteN (show ¬ V.str "hide" = V.str "put" by decide +kernel) (n rfl _ (Same.refl _))
    | drop _ _ =>
      obtain ⟨b, x2, rest, rfl, hb, d2⟩ := ent_at hde
      refine ⟨rfl, _, rfl, b, _, _, _, rfl, rfl, hb, atI_nat (j := 0) rfl, rfl, _, rfl, ?_⟩
      exact iteN (show ¬ V.str "drop" = V.str "put" by decide +kernel) (n rfl _ (Same.refl _))
    | set _ _ _ =>
      obtain ⟨b, x2, rest, rfl, hb, d2⟩ := ent_at hde
      refine ⟨rfl, _, rfl, b, _, _, _, rfl, rfl, hb, atI_nat (j := 0) rfl, rfl, _, rfl, ?_⟩
      exact iteN (show ¬ V.str "set" = V.str "put" by decide +kernel) (n rfl _ (Same.refl _))
  have rl := rf_len dh dp 0 0
  have hp2 := s2 _ _ pA1
  refine ⟨_, rfl, p, C, dx, _, rfl, hp2, R.cl, R.nP, by omega, ?_⟩
  obtain ⟨A2, eA2⟩ : ∃ A, A = L2.upd H2 p (.ins C dx (rf2 dh dp)) := ⟨_, rfl⟩
  have kA2 : KB p H A2 := by rw [eA2]; exact (kA1.same s2).upd _
  have tA2 : TK H A2 := by rw [eA2]; exact (tA1.trans (TK.of s2)).trans (TK.ins hp2)
  have pA2 : A2 p = some (.ins C dx (rf2 dh dp)) := by rw [eA2]; exact upd_same
  have ndhA2 : ND P w K A2 dh kh := by rw [eA2]; exact (ndhA1.sm s2).ins hp2
  have ndpA2 : ND P w K A2 dp kp := by rw [eA2]; exact ndp.ins hp2
  have hkpA2 : Paired (fun kv (c : Path × Tree) => kv.1 = kyP c.1 ∧ Da K A2 kv.2 (dTree c.2)) kp (putsOf es) := by
    rw [puts_eq, eA2]
    exact Paired.mapP hkp fun kv c h => ⟨h.1, h.2.tk (TK.ins hp2)⟩
  show tSeq _ _ _ _ (L2.upd H2 p (.ins C dx (rf2 dh dp)))
  rw [← eA2]
  clear eA2
  -- self.below = {}
  intro db H3 hdb h3 ndb
  have s3 := same_of_new hdb h3
  have hp3 := s3 _ _ pA2
  refine ⟨_, rfl, p, C, dx, _, rfl, hp3, R.cl, R.nB, by omega, ?_⟩
  obtain ⟨A3, eA3⟩ : ∃ A, A = L2.upd H3 p (.ins C dx (rf3 dh dp db)) := ⟨_, rfl⟩
  have kA3 : KB p H A3 := by rw [eA3]; exact (kA2.same s3).upd _
  have tA3 : TK H A3 := by rw [eA3]; exact (tA2.trans (TK.of s3)).trans (TK.ins hp3)
  have pA3 : A3 p = some (.ins C dx (rf3 dh dp db)) := by rw [eA3]; exact upd_same
  have ndhA3 : ND P w K A3 dh kh := by rw [eA3]; exact (ndhA2.sm s3).ins hp3
  have ndpA3 : ND P w K A3 dp kp := by rw [eA3]; exact (ndpA2.sm s3).ins hp3
  have ndbA3 : ND P w K A3 db [] := by rw [eA3]; exact ndb.ins hp3
  have hkpA3 : Paired (fun kv (c : Path × Tree) => kv.1 = kyP c.1 ∧ Da K A3 kv.2 (dTree c.2)) kp (putsOf es) := by
    rw [eA3]
    exact Paired.mapP hkpA2 fun kv c h => ⟨h.1, (h.2.sm s3).tk (TK.ins hp3)⟩
  have newb : ∀ b, H b ≠ none → b ≠ db := fun b hb z => by
    subst z
    by_cases e : b = p
    · subst e
      rw [pA2] at hdb; cases hdb
    · cases e2 : H b with
      | none => exact hb e2
      | some o =>
        have := kA2 b o e e2
        rw [hdb] at this; cases this
  show tSeq _ _ _ _ (L2.upd H3 p (.ins C dx (rf3 dh dp db)))
  rw [← eA3]
  clear eA3
  -- for path in self.puts
  obtain ⟨xr, exr, nkr, hsys, _, _⟩ := id ndpA3
  refine ⟨dp, NDO P w dp xr, exr, trivial, fun od => ?_⟩
  obtain ⟨HL, eHL⟩ : ∃ A, A = L2.upd A3 dp (.frz od (NDO P w dp xr)) := ⟨_, rfl⟩
  have tHL : TK A3 HL := by rw [eHL]; exact TK.lock exr (fun _ z => nomatch z) (fun _ _ z => nomatch z)
  have dpL : HL dp = some (.frz od (NDO P w dp xr)) := by rw [eHL]; exact upd_same
  have oL : ∀ b, b ≠ dp → HL b = A3 b := fun b hb => by rw [eHL]; exact upd_ne hb
  rw [← eHL]
  clear eHL
  have pdp : p ≠ dp := ne_of pA3 exr (by intro z; cases z)
  have pL : HL p = some (.ins C dx (rf3 dh dp db)) := by rw [oL p pdp]; exact pA3
  have dbdp : db ≠ dp := by
    intro z
    subst z
    obtain ⟨ys, e⟩ := ndpA2.obj
    rw [hdb] at e; cases e
  have ndbL : ND P w K HL db [] := ndbA3.keep tHL (oL db dbdp)
  have lpx : xr.length = (putsOf es).length := by
    rw [← Paired.length nkr, Paired.length hkpA3]
  refine ⟨_, rfl, p, C, dx, _, _, rfl, pL, R.cl, R.nP, rf3_puts _ _ _, dp, od, xr, rfl, hsys, dpL, ?_⟩
  refine for_it (walk_nkeys (P := P) (w := w) (d := dp) (o := od) (xs := xr)) (fun i σ H' => ∃ o2 o3 kvs, σ = [some (.ref p), some (.ref a), o2, o3] ∧ MM P w K HL H' db kvs (bel ((putsOf es).take i)) i ∧ TK HL H')
    ⟨_, _, [], rfl, MM.start ndbL, TK.refl _⟩ (fun i σ H' _ m => ?_) (fun i x σ H4 H5 hi m y => ?_) (fun σ H4 m => ?_)
  · obtain ⟨_, _, _, _, M, _⟩ := m
    exact M.kb _ _ (Ne.symm dbdp) dpL
  · obtain ⟨o2, o3, kvs, rfl, M, tk⟩ := m
    obtain ⟨rfl, hy⟩ := y
    obtain ⟨row, hrow, rfl⟩ : ∃ row, xr[i]? = some row ∧ x = V.ref row.2.1 := by
      rw [List.getElem?_map] at hy
      cases e : xr[i]? with
      | none => rw [e] at hy; cases hy
      | some r => rw [e] at hy; exact ⟨r, rfl, (Option.some.inj hy).symm⟩
    obtain ⟨kv, hkv⟩ : ∃ kv, kp[i]? = some kv := ⟨_, List.getElem?_eq_getElem (by rw [Paired.length nkr]; exact hi)⟩
    obtain ⟨row2, hr2, f1, f2, _⟩ := LiI.paired_get nkr hkv
    rw [hrow] at hr2
    cases hr2
    obtain ⟨c, hc, g1, _⟩ := LiI.paired_get hkpA3 hkv
    rw [g1] at f2
    have dx2 := f2.da.tk (tHL.trans tk)
    have hmem : Ent.put c.1 c.2 ∈ es := mem_puts.mp (List.mem_of_getElem? hc)
    have hc0 : c.1 ≠ [] := (ht.ok _ hmem).2.1
    obtain ⟨b, eb, hb⟩ := dx2.pathI
    cases eb
    have hp4 := M.kb p _ (ne_of pL (show HL db = some _ from ndbL.obj.choose_spec) (by intro z; cases z)) pL
    have h60 := ht.len
    have lps : (putsOf es).length ≤ es.length := by rw [puts_eq]; exact List.length_filterMap_le _ _
    refine mm_step M (by omega) c.1.dropLast (.str (c.1.getLast hc0)) (fun N h => ⟨_, rfl, p, C, dx, _, _, rfl, hp4, R.cl, R.nB, rf3_below _ _ _, h⟩)
      (fun N h => ⟨_, rfl, 1, rfl, -1, rfl, slice_init dx2 hc0 h⟩)
      (fun H2 N t2 h => ⟨_, rfl, 1, rfl, row.2.1, _, -1, _, rfl, rfl, t2.sqT hb, at_last hc0, h⟩) (fun kvs' H' M' t' => ⟨_, _, kvs', rfl, ?_, tk.trans t'⟩)
    have ex : (putsOf es).take (i + 1) = (putsOf es).take i ++ [(c.1, c.2)] := by rw [List.take_add_one, hc]; rfl
    rw [ex, ← bel_add ((putsOf es).take i) hc0]
    exact M'
  obtain ⟨o2, o3, kb, rfl, M, tk⟩ := m
  rw [lpx, List.take_length] at M
  have dp4 := M.kb _ _ (Ne.symm dbdp) dpL
  refine ⟨dp4, ?_⟩
  obtain ⟨A4, eA4⟩ : ∃ A, A = L2.upd H4 dp (NDO P w dp xr) := ⟨_, rfl⟩
  have oA4 : ∀ b, b ≠ dp → A4 b = H4 b := fun b hb => by rw [eA4]; exact upd_ne hb
  have dpA4 : A4 dp = some (NDO P w dp xr) := by rw [eA4]; exact upd_same
  have t44 : TK H4 A4 := by rw [eA4]; exact TK.unlock dp4 (fun _ z => nomatch z)
  show tSeq _ _ _ _ (L2.upd H4 dp (NDO P w dp xr))
  rw [← eA4]
  clear eA4
  have k34 : KB db A3 A4 := fun b u hb e => by
    by_cases z : b = dp
    · subst z
      rw [exr] at e
      rw [← e]
      exact dpA4
    · rw [oA4 b z]
      exact M.kb b u hb (by rw [oL b z]; exact e)
  have t34 : TK A3 A4 := ndbA3.tkx k34
  have mm4 : MMs P w K A4 db kb (fun q => (belowOf es q).map V.str) := by
    refine ⟨M.nd.keep t44 (oA4 db dbdp), fun q => ?_⟩
    rcases M.at' q with h | ⟨l, g1, g2, g3⟩
    · exact .inl h
    · refine .inr ⟨l, g1, ?_⟩
      have : l ≠ dp := fun z => by rw [z, dpL] at g3; cases g3
      rw [oA4 l this]
      exact g2
  have pA4 : A4 p = some (.ins C dx (rf3 dh dp db)) := k34 p _ (ne_of pA3 (show A3 db = some _ from ndbA3.obj.choose_spec) (by intro z; cases z)) pA3
  have kA4 : KB p H A4 := fun b u hb e => k34 b u (newb b (by rw [e]; exact fun z => nomatch z)) (kA3 b u hb e)
  have tA4 : TK H A4 := tA3.trans t34
  have ndhA4 : ND P w K A4 dh kh := by
    obtain ⟨ys, e⟩ := ndhA3.obj
    refine ndhA3.keep t34 ((k34 dh _ ?_ e).trans e.symm)
    intro z
    obtain ⟨zs, e2⟩ := ndhA2.obj
    rw [z, hdb] at e2; cases e2
  have ndpA4 : ND P w K A4 dp kp := ndpA3.keep t34 (dpA4.trans exr.symm)
  have hkpA4 : Paired (fun kv (c : Path × Tree) => kv.1 = kyP c.1 ∧ Da K A4 kv.2 (dTree c.2)) kp (putsOf es) := Paired.mapP hkpA3 fun kv c h => ⟨h.1, h.2.tk t34⟩
  -- self.props = {}
  intro dr H5 hdr h5 ndr
  have s5 := same_of_new hdr h5
  have hp5 := s5 _ _ pA4
  have rl3 := rf_len dh dp db dr
  refine ⟨_, rfl, p, C, dx, _, rfl, hp5, R.cl, R.nR, by omega, ?_⟩
  obtain ⟨A5, eA5⟩ : ∃ A, A = L2.upd H5 p (.ins C dx (rf4 dh dp db dr)) := ⟨_, rfl⟩
  have t55 : TK H5 A5 := by rw [eA5]; exact TK.ins hp5
  have k55 : KB p A4 A5 := by rw [eA5]; exact (KB.of s5).upd _
  have t45 : TK A4 A5 := (TK.of s5).trans t55
  have kA5 : KB p H A5 := kA4.trans k55
  have tA5 : TK H A5 := tA4.trans t45
  have pA5 : A5 p = some (.ins C dx (rf4 dh dp db dr)) := by rw [eA5]; exact upd_same
  have ndhA5 : ND P w K A5 dh kh := by rw [eA5]; exact (ndhA4.sm s5).ins hp5
  have ndpA5 : ND P w K A5 dp kp := by rw [eA5]; exact (ndpA4.sm s5).ins hp5
  have ndrA5 : ND P w K A5 dr [] := by rw [eA5]; exact ndr.ins hp5
  have mm5 : MMs P w K A5 db kb (fun q => (belowOf es q).map V.str) := mm4.mv t45 fun b o ho e => k55 b o (by
    intro z
    rw [z, pA4] at e
    rcases ho with ⟨_, rfl⟩ | ⟨_, _, rfl⟩ <;> cases e) e
  have newr : ∀ b, A4 b ≠ none → b ≠ dr := fun b hb z => by rw [z] at hb; exact hb hdr
  have e5 : L2.upd H5 p (HO.ins C dx (putF "props" (V.ref dr) (rf3 dh dp db))) = A5 := eA5.symm
  rw [e5]
  clear eA5 e5
  -- for entry in entries
  refine ⟨_, rfl, a, rfl, ⟨_, tA5.sqT hs⟩, ?_⟩
  refine for_it (walk_tup (xs := xs)) (fun i σ H' => ∃ o2 o3 kvs, σ = [some (.ref p), some (.ref a), o2, o3] ∧ MM P w K A5 H' dr kvs (prp ((es.zip xs).take i)) i ∧ TK A5 H')
    ⟨_, _, [], rfl, MM.start ndrA5, TK.refl _⟩ (fun i σ H' _ m => ?_) (fun i x σ H6 H7 hi m y => ?_) (fun σ H6 m => ?_)
  · obtain ⟨_, _, _, _, M, tk⟩ := m
    exact (tA5.trans tk).sqT hs
  · obtain ⟨o2, o3, kvs, rfl, M, tk⟩ := m
    obtain ⟨rfl, hy⟩ := y
    obtain ⟨e, he⟩ : ∃ e, es[i]? = some e := ⟨_, List.getElem?_eq_getElem (by omega)⟩
    have hde := at' (tA5.trans tk) hy he
    have hz : (es.zip xs)[i]? = some (e, x) := List.getElem?_zip_eq_some.mpr ⟨he, hy⟩
    have ex : (es.zip xs).take (i + 1) = (es.zip xs).take i ++ [(e, x)] := by rw [List.take_add_one, hz]; rfl
    obtain ⟨b, x2, rest, rfl, hb, d2⟩ := ent_at hde
    refine ⟨_, rfl, b, _, _, _, rfl, rfl, hb, atI_nat (j := 0) rfl, by show 2 ≤ sizeLine; decide, fun c hc => ?_⟩
    have s8 : Same H7 (L2.upd H7 c (.tup [.str "set", .str "drop"])) := Same.new hc _
    refine ⟨c, _, rfl, .inr (SqT.of upd_same), rfl, rfl, e.isProp, ?_, ?_⟩
    · cases e with
      | drop _ _ => exact congrArg V.bl (show inV (.str "drop") [.str "set", .str "drop"] = true by decide +kernel)
      | hide _ => exact congrArg V.bl (show inV (.str "hide") [.str "set", .str "drop"] = false by decide +kernel)
      | put _ _ => exact congrArg V.bl (show inV (.str "put") [.str "set", .str "drop"] = false by decide +kernel)
      | set _ _ _ => exact congrArg V.bl (show inV (.str "set") [.str "set", .str "drop"] = true by decide +kernel)
    have M8 := M.sm s8
    have hp6 := M8.kb p _ (newr p (by rw [pA4]; exact fun z => nomatch z)) pA5
    cases hpr : e.isProp with
    | true =>
      refine iteT ?_
      refine mm_step M8 (by omega) e.path (.ref b) (fun N h => ⟨_, rfl, p, C, dx, _, _, rfl, hp6, R.cl, R.nR, rf4_props _ _ _ _, h⟩)
        (fun N h => ⟨_, rfl, b, _, _, _, rfl, rfl, SqT.sm s8 hb, atI_nat (j := 1) rfl, h _ _ (Same.refl _) (d2.sm s8)⟩)
        (fun H2 N t2 h => ⟨_, rfl, h⟩) (fun kvs' H' M' t' => ⟨_, _, kvs', rfl, ?_, (tk.trans (TK.of s8)).trans t'⟩)
      rw [ex, ← prp_yes _ hpr]
      exact M'
    | false =>
      refine iteF ⟨_, _, kvs, rfl, ?_, tk.trans (TK.of s8)⟩
      rw [ex, ← prp_no _ hpr]
      exact ⟨M8.nd, M8.kb, M8.at', M8.inj, Nat.le_succ_of_le M8.fewK, fun q => Nat.le_succ_of_le (M8.fewL q)⟩
  obtain ⟨o2, o3, kr, rfl, M, tk⟩ := m
  have lz : (es.zip xs).length = xs.length := by rw [List.length_zip]; omega
  rw [← lz, List.take_length] at M
  have t6 : TK H H6 := tA5.trans tk
  have k6 : KB p H H6 := fun b u hb e => M.kb b u (newr b (by
    rw [kA4 b u hb e]; exact fun z => nomatch z)) (kA5 b u hb e)
  have p6 : H6 p = some (.ins C dx (rf4 dh dp db dr)) := M.kb p _ (newr p (by rw [pA4]; exact fun z => nomatch z)) pA5
  have nd6 : ∀ {d : Addr} {kvs : List (NestedKey × V)}, ND P w K A5 d kvs → d ≠ dr → ND P w K H6 d kvs := fun {d kvs} nd ne => by
    obtain ⟨ys, e⟩ := nd.obj
    exact nd.keep tk ((M.kb d _ ne e).trans e.symm)
  refine q _ k6 ⟨dx, dh, dp, db, dr, kh, kp, kb, kr, prp (es.zip xs), p6, nd6 ndhA5 ?_, ?_, nd6 ndpA5 ?_, ?_, mm5.mv tk ?_, ⟨M.nd, fun q => ?_⟩, prp_all (Paired.mapP hx fun v d h => h.tk t6)⟩
  · obtain ⟨ys, e⟩ := ndhA4.obj
    exact newr dh (by rw [e]; exact fun z => nomatch z)
  · intro q
    rw [hid_val (F := fun v _ => v = .bl true) (hides_eq es ▸ hkh) q]
    rfl
  · exact newr dp (by rw [dpA4]; exact fun z => nomatch z)
  · exact put_val (Paired.mapP hkpA4 fun kv c h => ⟨h.1, h.2.tk (t45.trans tk)⟩)
  · intro b o ho e
    refine M.kb b o (fun z => ?_) e
    rcases ho with ⟨_, rfl⟩ | ⟨rfl, _, _⟩
    · obtain ⟨ys, e2⟩ := ndrA5.obj
      rw [z, e2] at e; cases e
    · obtain ⟨ys, e2⟩ := mm4.1.obj
      exact newr b (by rw [e2]; exact fun z => nomatch z) z
  · rcases M.at' q with h | ⟨l, g1, g2, _⟩
    · exact .inl h
    · exact .inr ⟨l, g1, g2⟩
end
end VN

/-! made_props. -/
namespace VN
open PySem PySem.Spec PyProof.Rows L2

/-! ### the dict found: names to data -/
abbrev FdP (K : PySem.W.Frag) (H : Hp) : List (Str × V) → List NP → Prop := Paired fun e x => e.1 = x.1 ∧ Da K H e.2 x.2
def FD (K : PySem.W.Frag) (H : Hp) (d : Addr) (nps : List NP) : Prop := ∃ kvs : List (Str × V), H d = some (.dK (kvs.map kvS)) ∧ FdP K H kvs nps
theorem FdP.tk {K : PySem.W.Frag} {H H' : Hp} (t : TK H H') {kvs : List (Str × V)} {nps : List NP} (h : FdP K H kvs nps) : FdP K H' kvs nps := Paired.mapP h fun _ _ q => ⟨q.1, q.2.tk t⟩
theorem FD.sm {K : PySem.W.Frag} {H H' : Hp} (s : Same H H') {d : Addr} {nps : List NP} (h : FD K H d nps) : FD K H' d nps := let ⟨kvs, e, p⟩ := h; ⟨kvs, s _ _ e, FdP.tk (TK.of s) p⟩
theorem TK.dk {H : Hp} {d : Addr} {kvs ls : List (Key × V)} (h : H d = some (.dK kvs)) : TK H (L2.upd H d (.dK ls)) := TK.upd h (fun _ z => nomatch z) (fun _ _ z => nomatch z)
theorem any_kvS (kvs : List (Str × V)) (n : Str) : ((kvs.map kvS).any fun kv => decide (kv.1 = Sum.inr n)) = kvs.any fun kv => decide (kv.1 = n) := by
  rw [List.any_map]
  congr 1
  funext kv
  exact decide_eq_decide.mpr ⟨fun h => Sum.inr.inj h, fun h => congrArg Sum.inr h⟩
theorem putK_kvS (kvs : List (Str × V)) (n : Str) (v : V) : putK (kvs.map kvS) (Sum.inr n) v = (putK kvs n v).map kvS := by
  unfold putK
  rw [any_kvS]
  split
  · rw [List.map_map, List.map_map]
    refine List.map_congr_left fun kv _ => ?_
    show (if (Sum.inr kv.1 : Key) = Sum.inr n then ((Sum.inr kv.1 : Key), v) else kvS kv) = kvS (if kv.1 = n then (kv.1, v) else kv)
    by_cases h : kv.1 = n
    · rw [if_pos (congrArg Sum.inr h), if_pos h]
    · rw [if_neg (fun z => h (Sum.inr.inj z)), if_neg h]
  · rw [List.map_append]; rfl
theorem valV_kvS (n : Str) : ∀ kvs : List (Str × V), valV (kvs.map kvS) (Sum.inr n : Key) = valV kvs n
  | [] => rfl
  | kv :: kvs => by
    rw [List.map_cons]
    by_cases h : kv.1 = n
    · rw [valV_pos (p := kv) h, valV_pos (p := kvS kv) (congrArg Sum.inr h)]
    · rw [valV_neg (p := kv) h, valV_neg (p := kvS kv) (fun z => h (Sum.inr.inj z))]
      exact valV_kvS n kvs
theorem dropK_kvS (kvs : List (Str × V)) (n : Str) : dropK (kvs.map kvS) (Sum.inr n) = (dropK kvs n).map kvS := by
  unfold dropK
  rw [List.filter_map]
  congr 1
  refine List.filter_congr fun kv _ => ?_
  exact decide_eq_decide.mpr ⟨fun h z => h (congrArg Sum.inr z), fun h z => h (Sum.inr.inj z)⟩
theorem fd_has {K : PySem.W.Frag} {H : Hp} {kvs : List (Str × V)} {nps : List NP} (h : FdP K H kvs nps) (n : Str) : (kvs.any fun kv => decide (kv.1 = n)) = hasNP nps n := by
  unfold hasNP
  induction h with
  | nil => rfl
  | cons q _ ih => rw [List.any_cons, List.any_cons, ih, q.1]
theorem fd_set {K : PySem.W.Frag} {H : Hp} {kvs : List (Str × V)} {nps : List NP} (h : FdP K H kvs nps) (n : Str) {v : V} {dv : PyData} (hv : Da K H v dv) : FdP K H (putK kvs n v) (setNP nps n dv) := by
  unfold putK setNP
  rw [fd_has h]
  split
  · rename_i c0
    clear c0
    induction h with
    | nil => exact .nil
    | @cons e x es xs q t ih =>
      rw [List.map_cons, List.map_cons]
      refine .cons ?_ ih
      by_cases c : e.1 = n
      · rw [if_pos c, if_pos (q.1.symm.trans c)]; exact ⟨q.1, hv⟩
      · rw [if_neg c, if_neg (fun z => c (q.1.trans z))]; exact q
  · exact Paired.snoc h ⟨rfl, hv⟩
theorem fd_del {K : PySem.W.Frag} {H : Hp} {kvs : List (Str × V)} {nps : List NP} (h : FdP K H kvs nps) (n : Str) : FdP K H (dropK kvs n) (delNP nps n) := by
  unfold dropK delNP
  induction h with
  | nil => exact .nil
  | @cons e x es xs q t ih =>
    by_cases c : e.1 = n
    · rw [List.filter_cons_of_neg (by simpa using c), List.filter_cons_of_neg (by simpa using q.1.symm.trans c)]; exact ih
    · rw [List.filter_cons_of_pos (by simpa using c), List.filter_cons_of_pos (by simpa using fun z => c (q.1.trans z))]
      exact .cons q ih
theorem fd_none {K : PySem.W.Frag} {H : Hp} {kvs : List (Str × V)} {nps : List NP} (h : FdP K H kvs nps) {n : Str} (hn : valV kvs n = none) : hasNP nps n = false := by
  rw [← fd_has h, valV_any, hn]; rfl
theorem fd_some {K : PySem.W.Frag} {H : Hp} {kvs : List (Str × V)} {nps : List NP} (h : FdP K H kvs nps) {n : Str} {v : V} (hn : valV kvs n = some v) : hasNP nps n = true := by
  rw [← fd_has h, valV_any, hn]; rfl
theorem del_none {nps : List NP} {n : Str} (h : hasNP nps n = false) : delNP nps n = nps := by
  unfold delNP
  refine List.filter_eq_self.mpr fun x hx => decide_eq_true fun z => ?_
  unfold hasNP at h
  rw [List.any_eq_false] at h
  exact h x hx (decide_eq_true z)
theorem set_len (nps : List NP) (n : Str) (d : PyData) : (setNP nps n d).length ≤ nps.length + 1 := by
  unfold setNP
  split
  · rw [List.length_map]; omega
  · rw [List.length_append]; exact Nat.le_refl _
theorem add_len (nps : List NP) (n : Str) (d : PyData) : (addNP nps n d).length ≤ nps.length + 1 := by
  unfold addNP
  split
  · omega
  · rw [List.length_append]; exact Nat.le_refl _
theorem del_len (nps : List NP) (n : Str) : (delNP nps n).length ≤ nps.length := List.length_filter_le _ _
theorem step_len (nps : List NP) (e : Ent) : (stepE nps e).length ≤ nps.length + 1 := by
  cases e with
  | set p n v => exact set_len _ _ _
  | drop p n => exact Nat.le_succ_of_le (del_len _ _)
  | hide p => exact Nat.le_succ _
  | put p t => exact Nat.le_succ _

/-! ### tuple(sorted(found.items())) -/
theorem zip_fst {α β : Type} {F : α → β → Prop} : ∀ {xs : List α} {ys : List β}, Paired F xs ys → (xs.zip ys).map Prod.fst = xs ∧ (xs.zip ys).map Prod.snd = ys ∧ ∀ z ∈ xs.zip ys, F z.1 z.2
  | _, _, .nil => ⟨rfl, rfl, fun _ h => nomatch h⟩
  | _, _, .cons h t => by
    obtain ⟨h1, h2, h3⟩ := zip_fst t
    refine ⟨by rw [List.zip_cons_cons, List.map_cons, h1], by rw [List.zip_cons_cons, List.map_cons, h2], fun z hz => ?_⟩
    rw [List.zip_cons_cons] at hz
    rcases List.mem_cons.mp hz with rfl | hz
    · exact h
    · exact h3 z hz
theorem leNP_total : ∀ a b : NP, (leNP a b || leNP b a) = true := fun a b => by
  show (!ltS b.1 a.1 || !ltS a.1 b.1) = true
  cases h : ltS b.1 a.1 with
  | false => rfl
  | true => rw [ltS_asym h]; rfl
theorem leNP_trans : ∀ a b c : NP, leNP a b = true → leNP b c = true → leNP a c = true := fun a b c h1 h2 => by
  have g1 : ltS b.1 a.1 = false := by simpa [leNP, ltS] using h1
  have g2 : ltS c.1 b.1 = false := by simpa [leNP, ltS] using h2
  show (!ltS c.1 a.1) = true
  rw [ltS_tr g1 g2]; rfl
theorem items_sorted {K : PySem.W.Frag} {H H' : Hp} {kvs : List (Str × V)} {nps : List NP} {ps : List (Addr × Str × V)} (hp : FdP K H kvs nps) (nd : (names nps).Nodup) (ok : ∀ x ∈ nps, PyData.strOk x.1 = true) (sm : Same H H') (pp : (ps.map (·.2)).Perm kvs)
    (so : (ps.map (·.2)).Pairwise fun e f => ltS f.1 e.1 = false) (tu : ∀ z ∈ ps, H' z.1 = some (.tup [.str z.2.1, z.2.2])) : Paired (Da K H') (ps.map fun z => V.ref z.1) ((sortNP nps).map dPair) := by
  obtain ⟨z1, z2, z3⟩ := zip_fst hp
  obtain ⟨zs, pz, ez⟩ := perm_lift Prod.fst pp (kvs.zip nps) z1
  -- the data in the order of the items
  have e2 : zs.map Prod.snd = sortNP nps := by
    have p1 : (zs.map Prod.snd).Perm nps := by rw [← z2]; exact pz.map _
    have s1 : (zs.map Prod.snd).Pairwise fun a b => leNP a b = true := by
      rw [List.pairwise_map]
      rw [← ez, List.pairwise_map] at so
      refine List.Pairwise.imp_of_mem (fun {x y} hx hy h => ?_) so
      have fx := (z3 x (pz.mem_iff.mp hx)).1
      have fy := (z3 y (pz.mem_iff.mp hy)).1
      show (!ltS y.2.1 x.2.1) = true
      rw [← fx, ← fy, h]; rfl
    have s2 : (sortNP nps).Pairwise fun a b => leNP a b = true := List.pairwise_mergeSort (le := leNP) leNP_trans leNP_total nps
    have p2 : (zs.map Prod.snd).Perm (sortNP nps) := p1.trans (List.mergeSort_perm nps leNP).symm
    refine List.Perm.eq_of_pairwise (le := fun a b => leNP a b = true) (fun a b ha hb h1 h2 => ?_) s1 s2 p2
    have g1 : ltS b.1 a.1 = false := by simpa [leNP, ltS] using h1
    have g2 : ltS a.1 b.1 = false := by simpa [leNP, ltS] using h2
    have en := ltS_eq g2 g1
    have ma := p1.mem_iff.mp ha
    have mb : b ∈ nps := mem_sort.mp hb
    obtain ⟨n, d⟩ := a
    obtain ⟨m, d'⟩ := b
    have en : n = m := en
    subst en
    rw [one_of nd ma mb]
  rw [← e2, List.map_map]
  -- pair by pair
  have go : ∀ (ps : List (Addr × Str × V)) (zs : List ((Str × V) × NP)), zs.map Prod.fst = ps.map (·.2) → (∀ z ∈ ps, H' z.1 = some (.tup [.str z.2.1, z.2.2])) → (∀ z ∈ zs, (z.1.1 = z.2.1 ∧ Da K H z.1.2 z.2.2) ∧ PyData.strOk z.2.1 = true) →
      Paired (Da K H') (ps.map fun z => V.ref z.1) (zs.map (dPair ∘ Prod.snd)) := by
    intro ps
    induction ps with
    | nil => intro zs e _ _; cases zs with
      | nil => exact .nil
      | cons z zs => cases e
    | cons p ps ih =>
      intro zs e tu fz
      cases zs with
      | nil => cases e
      | cons z zs =>
        rw [List.map_cons, List.map_cons] at e
        injection e with e1 e2
        rw [List.map_cons, List.map_cons]
        refine .cons ?_ (ih zs e2 (fun z hz => tu z (List.mem_cons_of_mem _ hz)) fun z hz => fz z (List.mem_cons_of_mem _ hz))
        obtain ⟨⟨f1, f2⟩, f3⟩ := fz z List.mem_cons_self
        have t1 := tu p List.mem_cons_self
        rw [← e1, f1] at t1
        exact daTup (SqT.of t1) (.cons (daStr f3) (.cons (f2.sm sm) .nil))
  refine go ps zs ez tu fun z hz => ⟨z3 z (pz.mem_iff.mp hz), ok _ ?_⟩
  exact (zip_fst hp).2.1 ▸ List.mem_map.mpr ⟨z, pz.mem_iff.mp hz, rfl⟩

/-! ### made_props -/
def spMP (P : Program) (w : World) (K : PySem.W.Frag) (C : Addr) : Sp := fun vs H Q _ => ∃ rp v u es ps q, vs = [.ref rp, v, u] ∧ RulesAt P w K C H rp es ∧ Pl H v (.tuple ((vPs ps).map dPair)) ∧ Da K H u (dPath q) ∧ TbOk es ∧ PsOk ps ∧
  ∀ r H', Same H H' → Da K H' r (.tuple ((sortNP (rawPs es ps q)).map dPair)) → Q r H'
theorem pl_tupI {H : Hp} {v : V} {ds : List PyData} (h : Pl H v (.tuple ds)) : ∃ a xs, v = .ref a ∧ PT H a xs ∧ PlAll H xs ds := by
  cases h with
  | tup h t => exact ⟨_, _, rfl, h, t⟩
/-- the pairs of a plain tuple -/
theorem pl_pairs {K : PySem.W.Frag} {H : Hp} : ∀ {xs : List V} {nps : List NP}, PlAll H xs (nps.map dPair) → goodAll (nps.map dPair) = true → ∃ kvs : List (Str × V), Paired (fun v (e : Str × V) => ∃ b, v = .ref b ∧ SqT K H b [.str e.1, e.2]) xs kvs ∧ FdP K H kvs nps
  | _, [], h, _ => by cases h; exact ⟨[], .nil, .nil⟩
  | _, x :: nps, h, g => by
    rw [List.map_cons] at h g
    rw [goodAll, Bool.and_eq_true] at g
    cases h with
    | cons h1 h2 =>
      obtain ⟨kvs, k1, k2⟩ := pl_pairs (K := K) h2 g.2
      obtain ⟨a, x1, x2, rfl, hs, d1, d2⟩ := (show Da K H _ (.tuple [.str x.1, x.2]) from ⟨h1.dp, g.1⟩).tup2
      obtain rfl := d1.strI
      exact ⟨(x.1, x2) :: kvs, .cons ⟨a, rfl, hs⟩ k1, .cons ⟨rfl, d2⟩ k2⟩
theorem fd_names {K : PySem.W.Frag} {H : Hp} {kvs : List (Str × V)} {nps : List NP} (h : FdP K H kvs nps) : kvs.map (·.1) = names nps := by
  unfold names
  induction h with
  | nil => rfl
  | cons q _ ih => rw [List.map_cons, List.map_cons, ih, q.1]
theorem ps_names {ps : List (Str × PVal)} (h : PsOk ps) : (names (vPs ps)).Nodup ∧ ∀ x ∈ vPs ps, nmB x.1 = true := by
  refine ⟨?_, fun x hx => ?_⟩
  · unfold names
    rw [vps_names]
    exact asc_nodup h.asc
  · obtain ⟨p, hp, rfl⟩ := List.mem_map.mp hx
    exact h.nm p hp
theorem step_nm {nps : List NP} {e : Ent} (he : EOk e) (h : ∀ x ∈ nps, nmB x.1 = true) : ∀ x ∈ stepE nps e, nmB x.1 = true := by
  cases e with
  | set p n v =>
    intro x hx
    have hn : x.1 ∈ names (setNP nps n (dVal v)) := List.mem_map.mpr ⟨x, hx, rfl⟩
    rcases names_set.mp hn with h1 | h1
    · rw [h1]; exact he.2.1
    · obtain ⟨y, hy, e⟩ := List.mem_map.mp h1
      rw [← e]; exact h y hy
  | drop p n => exact fun x hx => h x (List.mem_filter.mp hx).1
  | hide p => exact h
  | put p t => exact h
theorem steps_nm : ∀ {l : List Ent} {nps : List NP}, (∀ e ∈ l, EOk e) → (∀ x ∈ nps, nmB x.1 = true) → ∀ x ∈ l.foldl stepE nps, nmB x.1 = true
  | [], _, _, h => h
  | e :: l, _, he, h => steps_nm (l := l) (fun f hf => he f (List.mem_cons_of_mem _ hf)) (step_nm (he e List.mem_cons_self) h)
theorem steps_len : ∀ (l : List Ent) (nps : List NP), (l.foldl stepE nps).length ≤ nps.length + l.length
  | [], _ => Nat.le_refl _
  | e :: l, nps => by
    have h1 := steps_len l (stepE nps e)
    have h2 := step_len nps e
    rw [List.foldl_cons, List.length_cons]
    omega
section
variable {P : Program} {w : World} {K : PySem.W.Frag} {mg : Str → Option Value} {base : Heap} {k : Nat}
abbrev nMp : List Str := ["rules", "pairs", "path", "found", "entry"]
theorem scMp : FnScope nMp ["rules", "pairs", "path"] (defScope (top 30)) := ⟨rfl, rfl, rfl, by decide +kernel, rfl, by decide +kernel, by decide +kernel⟩
theorem ok_props {C : Addr} (D : Def K mg "made_props" (top 30) ["rules", "pairs", "path"]) (T : Txt mg) (R : RTxt K mg C) : Cal P w K mg base 1 "made_props" ["rules", "pairs", "path"] (spMP P w K C) := by
  refine D.cal scMp (fun vs H Q E h => ?_) (fun f cdv A outer s H vs Q E hr h => ?_)
  · obtain ⟨rp, v, u, es, ps, q, rfl, _⟩ := h
    rfl
  obtain ⟨rp, v, u, es, ps, q, rfl, hR, hv, hu, ht, hps, k⟩ := h
  refine ⟨_, pss_cons (ps_set (i := 3) scMp.nd rfl (Or.inl rfl) (pe_callTy (cr_dictP rfl) rfl T.dict b_dict (pa_cons (pv 1) pa_nil)))
    (pss_cons (ps_for PassesOwn.never rfl (pi_list (pe_nget2 hr.units (pe_fld (pv 0) rfl) (pv 2) (pe_lst pa_nil) ⟨rfl, rfl, rfl, rfl⟩)) (pg_name (i := 4) scMp.nd rfl (Or.inl rfl))
      (pss_one (ps_if (pt_cmpR op_eq (pe_ix ix_tup (pv 4) pe_int (fun _ _ => rfl)) pe_str (nomark _))
        (pss_one (ps_dput (hu_of hr) (pv 3) (pe_ix ix_tup (pv 4) pe_int (fun _ _ => rfl)) (pe_ix ix_tup (pv 4) pe_int (fun _ _ => rfl)) rfl))
        (pss_one (ps_expr (pe_dpop2 (pv 3) (pe_ix ix_tup (pv 4) pe_int (fun _ _ => rfl)) pe_non ⟨rfl, rfl, rfl, rfl⟩))))))
    (pss_one (ps_ret (pe_callTy call_tuple_of rfl T.tuple b_tuple (pa_cons (pe_sortItems rfl (pv 3) rfl T.sorted b_sorted) pa_nil))))), ?_⟩
  obtain ⟨dx, dh, dp, db, dr, kh, kp, kb, kr, fr, p1, _, _, _, _, _, ⟨ndr, hmr⟩, hfr⟩ := hR.ex
  obtain ⟨a, xs, rfl, hpt, hpl⟩ := pl_tupI hv
  have gall : goodAll ((vPs ps).map dPair) = true := fitAll_good 4 _ (fitAll_iff.mpr fun d hd => by
    obtain ⟨x, hx, rfl⟩ := List.mem_map.mp hd
    obtain ⟨h1, h2⟩ := fit_vPs hps (Nat.le_refl 3) x hx
    exact fit_pair h1 h2)
  obtain ⟨kvs, hk1, hk2⟩ := pl_pairs (K := K) hpl gall
  obtain ⟨nd0, nm0⟩ := ps_names hps
  have lk : kvs.length = (vPs ps).length := Paired.length hk2
  have lps : (vPs ps).length ≤ 100 := by unfold vPs; rw [List.length_map]; exact hps.len
  refine ⟨_, rfl, a, xs, kvs, rfl, hpt, hk1, by omega, by rw [fd_names hk2]; exact nd0, fun d hd => ?_⟩
  have s1 : Same H (L2.upd H d (.dK (kvs.map kvS))) := Same.new hd _
  obtain ⟨H1, eH1⟩ : ∃ A, A = L2.upd H d (.dK (kvs.map kvS)) := ⟨_, rfl⟩
  have fd1 : FD K H1 d (vPs ps) := ⟨kvs, by rw [eH1]; exact upd_same, by rw [eH1]; exact FdP.tk (TK.of s1) hk2⟩
  rw [← eH1] at s1 ⊢
  clear eH1
  -- rules.props.get(path, [])
  refine ⟨_, rfl, rp, C, dx, _, _, rfl, s1 _ _ p1, R.cl, R.nR, rf4_props _ _ _ _, dr, rfl, ⟨kr, ndr.sm s1⟩, _, rfl, Nat.zero_le _, fun l0 hl0 => ?_⟩
  have s2 : Same H1 (L2.upd H1 l0 (.lst [])) := Same.new hl0 _
  have s12 := s1.trans s2
  refine ⟨kyP q, kr, (hu.sm s12).ky, ndr.sm s12, ?_⟩
  obtain ⟨L, hL, hLH⟩ : ∃ L, (valV kr (kyP q)).getD (.ref l0) = .ref L ∧ L2.upd H1 l0 (.lst []) L = some (.lst (fr q)) := by
    rcases hmr q with ⟨h1, h2⟩ | ⟨l, h1, h2⟩
    · exact ⟨l0, by rw [h1]; rfl, by rw [upd_same, h2]⟩
    · exact ⟨l, by rw [h1]; rfl, s12 _ _ h2⟩
  refine ⟨L, hL, ⟨_, SqL.of hLH⟩, ?_⟩
  have lfr : (fr q).length = (propsOf es q).length := by rw [Paired.length (hfr q), List.length_map]
  have lpr : (propsOf es q).length ≤ 60 := Nat.le_trans (List.length_filter_le _ _) ht.len
  have dL : d ≠ L := by
    obtain ⟨kv0, e0, _⟩ := fd1
    exact ne_of (s2 _ _ e0) hLH (by intro z; cases z)
  refine for_it (walk_list (xs := fr q)) (fun i σ H' => ∃ o4, σ = [some (.ref rp), some (.ref a), some u, some (.ref d), o4] ∧ KB d (L2.upd H1 l0 (.lst [])) H' ∧ FD K H' d (((propsOf es q).take i).foldl stepE (vPs ps)) ∧ TK (L2.upd H1 l0 (.lst [])) H')
    ⟨_, rfl, KB.refl _ _, fd1.sm s2, TK.refl _⟩ (fun i σ H' _ m => ?_) (fun i x σ H4 H5 hi m y => ?_) (fun σ H4 m => ?_)
  · obtain ⟨_, _, kb, _⟩ := m
    exact SqL.of (kb _ _ (Ne.symm dL) hLH)
  · obtain ⟨o4, rfl, kb, fd, tk⟩ := m
    obtain ⟨rfl, hy⟩ := y
    obtain ⟨e, he⟩ : ∃ e, (propsOf es q)[i]? = some e := ⟨_, List.getElem?_eq_getElem (by omega)⟩
    have hmem := (propsOf_mem.mp (List.mem_of_getElem? he))
    have hde : Da K H5 x e.data := by
      obtain ⟨dd, hdd, hxd⟩ := LiI.paired_get (hfr q) hy
      rw [List.getElem?_map, he] at hdd
      cases hdd
      exact (hxd.sm s12).tk tk
    have ex : (propsOf es q).take (i + 1) = (propsOf es q).take i ++ [e] := by rw [List.take_add_one, he]; rfl
    have ef : ((propsOf es q).take (i + 1)).foldl stepE (vPs ps) = stepE (((propsOf es q).take i).foldl stepE (vPs ps)) e := by rw [ex, List.foldl_append]; rfl
    have len1 : (((propsOf es q).take i).foldl stepE (vPs ps)).length ≤ 200 := by
      have h1 := steps_len ((propsOf es q).take i) (vPs ps)
      rw [List.length_take] at h1
      omega
    obtain ⟨kv, ekv, fkv⟩ := fd
    have lkv := Paired.length fkv
    cases e with
    | set p n v =>
      obtain ⟨b, x1, x2, x3, x4, rfl, hb, d1, d2, d3, d4⟩ := (show Da K H5 x (.tuple [.str "set", dPath p, .str n, dVal v]) from hde).tup4
      obtain rfl := d1.strI
      obtain rfl := d3.strI
      refine ⟨_, rfl, b, _, _, _, rfl, rfl, hb, rfl, rfl, _, rfl, iteD rfl ?_⟩
      refine ⟨_, rfl, b, _, _, _, rfl, rfl, hb, rfl, _, rfl, _, rfl, b, _, _, _, rfl, rfl, hb, rfl, d, _, rfl, DPut.k (k := Sum.inr n) ekv (by rw [List.length_map, sizeLine_eq]; omega), ?_⟩
      refine ⟨_, rfl, kb.trans ((KB.refl _ _).upd _), ?_, tk.trans (TK.dk ekv)⟩
      rw [ef]
      exact ⟨putK kv n x4, by rw [upd_same, putK_kvS], FdP.tk (TK.dk ekv) (fd_set fkv n d4)⟩
    | drop p n =>
      obtain ⟨b, x1, x2, x3, rfl, hb, d1, d2, d3⟩ := (show Da K H5 x (.tuple [.str "drop", dPath p, .str n]) from hde).tup3
      obtain rfl := d1.strI
      obtain rfl := d3.strI
      refine ⟨_, rfl, b, _, _, _, rfl, rfl, hb, rfl, rfl, _, rfl, iteN (by decide +kernel) ?_⟩
      refine ⟨_, rfl, d, rfl, .inl ⟨_, .inl ekv⟩, _, rfl, b, _, _, _, rfl, rfl, hb, rfl, kv.map kvS, Sum.inr n, ekv, rfl, fun v hv => ?_, fun hv => ?_⟩
      · refine ⟨_, rfl, kb.trans ((KB.refl _ _).upd _), ?_, tk.trans (TK.dk ekv)⟩
        rw [ef]
        exact ⟨dropK kv n, by rw [upd_same, dropK_kvS], FdP.tk (TK.dk ekv) (fd_del fkv n)⟩
      · rw [valV_kvS] at hv
        refine ⟨_, rfl, kb, ?_, tk⟩
        rw [ef]
        refine ⟨kv, ekv, ?_⟩
        show FdP K H5 kv (delNP _ n)
        rw [del_none (fd_none fkv hv)]
        exact fkv
    | hide p => cases hmem.2.1
    | put p t => cases hmem.2.1
  · obtain ⟨o4, rfl, kb, fd, tk⟩ := m
    rw [lfr, List.take_length] at fd
    have fd : FD K H4 d (rawPs es ps q) := fd
    obtain ⟨kv, ekv, fkv⟩ := fd
    have ndr2 : (names (rawPs es ps q)).Nodup := nodup_steps _ nd0
    have nmr : ∀ x ∈ rawPs es ps q, nmB x.1 = true := steps_nm (fun e he => ht.ok e (propsOf_mem.mp he).1) nm0
    have len2 : (rawPs es ps q).length ≤ 200 := by
      have h1 := steps_len (propsOf es q) (vPs ps)
      have : (rawPs es ps q).length = ((propsOf es q).foldl stepE (vPs ps)).length := rfl
      omega
    refine ⟨_, rfl, d, kv, rfl, ekv, by rw [Paired.length fkv]; omega, fun H6 l zs s6 hl pp so hH6 tu => ?_⟩
    have it := items_sorted fkv ndr2 (fun x hx => nmB_ok (nmr x hx)) s6 pp so tu
    refine ⟨l, _, rfl, .inl ⟨SqL.of hH6, fun r hr => ?_⟩⟩
    have s7 : Same H6 (L2.upd H6 r (.tup (zs.map fun z => V.ref z.1))) := Same.new hr _
    have s04 : Same H H4 := fun b o e => kb b o (by
      intro z
      rw [z, hd] at e; cases e) (s12 b o e)
    exact k _ _ (s04.trans (s6.trans s7)) (daTup (SqT.of upd_same) (Paired.mapP it fun v dd h => h.sm s7))
end
end VN

/-! made_tree, applied. -/
namespace VN
open PySem PySem.Spec PyProof.Rows L2

theorem madeKs_kids (es : List Ent) : ∀ (ks : Kids) (p : Path), madeKs es p ks = (kids ks).filterMap fun x => if hid es (p ++ [x.1]) = true then none else some (x.1, madeT es x.2 (p ++ [x.1]))
  | .nil, _ => rfl
  | .cons n ps sub rest, p => by
    rw [madeKs, kids]
    by_cases h : hid es (p ++ [n]) = true
    · rw [if_pos h, List.filterMap_cons_none (by rw [if_pos h]), madeKs_kids es rest p]
    · rw [if_neg h, List.filterMap_cons_some (b := (n, madeT es ⟨ps, sub⟩ (p ++ [n]))) (by rw [if_neg h]), madeKs_kids es rest p]
      rfl
theorem set_fresh {nps : List NP} {n : Str} {d : PyData} (h : n ∉ names nps) : setNP nps n d = nps ++ [(n, d)] := by
  unfold setNP
  rw [if_neg (fun z => h (has_iff.mp z))]
theorem pl_pair_at {K : PySem.W.Frag} {H : Hp} {xs : List V} {nps : List NP} (h : PlAll H xs (nps.map dPair)) {i : Nat} {x : NP} (e : nps[i]? = some x) (ok : PyData.strOk x.1 = true) : ∃ a v, xs[i]? = some (.ref a) ∧ SqT K H a [.str x.1, v] ∧ Pl H v x.2 := by
  have go : ∀ {xs : List V} {ds : List PyData}, PlAll H xs ds → ∀ {i : Nat} {d : PyData}, ds[i]? = some d → ∃ v, xs[i]? = some v ∧ Pl H v d := by
    intro xs ds h
    induction ds generalizing xs with
    | nil => intro i d e; cases e
    | cons d0 ds ih =>
      cases h with
      | cons h1 h2 =>
        intro i d e
        cases i with
        | zero => cases e; exact ⟨_, rfl, h1⟩
        | succ i => exact ih h2 (by simpa using e)
  obtain ⟨v, h1, h2⟩ := go h (show (nps.map dPair)[i]? = some (dPair x) by rw [List.getElem?_map, e]; rfl)
  have h2 : Pl H v (.tuple [.str x.1, x.2]) := h2
  cases h2 with
  | tup hp ht =>
    cases ht with
    | cons g1 g2 =>
      cases g2 with
      | cons g3 g4 =>
        cases g4
        cases g1
        exact ⟨_, _, h1, hp.sq, g3⟩
theorem fd_add_some {K : PySem.W.Frag} {H : Hp} {kvs : List (Str × V)} {nps : List NP} (h : FdP K H kvs nps) {n : Str} {v : V} (hn : valV kvs n = some v) (d : PyData) : addNP nps n d = nps := by
  unfold addNP
  rw [if_pos (fd_some h hn)]
theorem fd_add_none {K : PySem.W.Frag} {H : Hp} {kvs : List (Str × V)} {nps : List NP} (h : FdP K H kvs nps) {n : Str} (hn : valV kvs n = none) {v : V} {d : PyData} (hv : Da K H v d) : FdP K H (putK kvs n v) (addNP nps n d) := by
  unfold addNP
  rw [if_neg (by rw [fd_none h hn]; exact Bool.false_ne_true), putK_new v hn]
  exact Paired.snoc h ⟨rfl, hv⟩
theorem add_nm {nps : List NP} {n : Str} {d : PyData} (hn : nmB n = true) (h : ∀ x ∈ nps, nmB x.1 = true) : ∀ x ∈ addNP nps n d, nmB x.1 = true := fun x hx => by
  have hm : x.1 ∈ names (addNP nps n d) := List.mem_map.mpr ⟨x, hx, rfl⟩
  rcases names_add.mp hm with h1 | h1
  · rw [h1]; exact hn
  · obtain ⟨y, hy, e⟩ := List.mem_map.mp h1
    rw [← e]; exact h y hy
theorem last_nm {p : Path} {n : Str} (h : pathB (p ++ [n]) = true) : nmB n = true := by
  unfold pathB at h
  rw [Bool.and_eq_true, List.all_eq_true] at h
  exact h.2 n (List.mem_append_right _ List.mem_cons_self)
theorem puts_nm {es : List Ent} (ht : ∀ e ∈ es, EOk e) {p : Path} : ∀ (l : List Str) {nps : List NP}, (∀ n ∈ l, n ∈ belowOf es p) → (∀ x ∈ nps, nmB x.1 = true) → ∀ x ∈ l.foldl (putStep es p) nps, nmB x.1 = true
  | [], _, _, h => h
  | n :: l, nps, hl, h => by
    rw [List.foldl_cons]
    refine puts_nm ht l (fun m hm => hl m (List.mem_cons_of_mem _ hm)) ?_
    obtain ⟨t, hm⟩ := mem_below.mp (hl n List.mem_cons_self)
    unfold putStep
    split
    · exact add_nm (last_nm (ht _ hm).1) h
    · exact h
theorem putStep_len {es : List Ent} {p : Path} {nps : List NP} {n : Str} : (putStep es p nps n).length ≤ nps.length + 1 := by
  unfold putStep
  split
  · exact add_len _ _ _
  · omega
theorem puts_len {es : List Ent} {p : Path} : ∀ (l : List Str) (nps : List NP), (l.foldl (putStep es p) nps).length ≤ nps.length + l.length
  | [], _ => Nat.le_refl _
  | n :: l, nps => by
    have h1 := puts_len (es := es) (p := p) l (putStep es p nps n)
    have h2 := putStep_len (es := es) (p := p) (nps := nps) (n := n)
    rw [List.foldl_cons, List.length_cons]
    omega
theorem below_len (es : List Ent) (p : Path) : (belowOf es p).length ≤ es.length := by
  have h1 : (belowOf es p).length ≤ (putsOf es).length := List.length_filterMap_le _ _
  have h2 : (putsOf es).length ≤ es.length := by rw [puts_eq]; exact List.length_filterMap_le _ _
  omega
theorem sub_names (es : List Ent) (p : Path) : ∀ l : List (Str × Tree), ((l.filterMap fun x => if hid es (p ++ [x.1]) = true then none else some (x.1, madeT es x.2 (p ++ [x.1]))).map (·.1)).Sublist (l.map (·.1))
  | [] => List.Sublist.slnil
  | x :: l => by
    by_cases h : hid es (p ++ [x.1]) = true
    · rw [List.filterMap_cons_none (by rw [if_pos h]), List.map_cons]
      exact (sub_names es p l).cons _
    · rw [List.filterMap_cons_some (b := (x.1, madeT es x.2 (p ++ [x.1]))) (by rw [if_neg h]), List.map_cons, List.map_cons]
      exact (sub_names es p l).cons₂ _
def spMT (P : Program) (w : World) (K : PySem.W.Frag) (C : Addr) (n : Nat) : Sp := fun vs H Q _ => ∃ rp v u es t p, vs = [.ref rp, v, u] ∧ RulesAt P w K C H rp es ∧ Pl H v (dTree t) ∧ TOk n t ∧ Da K H u (dPath p) ∧ TbOk es ∧ p.length + n ≤ 100 ∧
  ∀ r H', Same H H' → Da K H' r (madeT es t p) → Q r H'
section
variable {P : Program} {w : World} {K : PySem.W.Frag} {mg : Str → Option Value} {base : Heap} {k : Nat}
abbrev nMt : List Str := ["rules", "part", "path", "found", "name", "child"]
theorem scMt : FnScope nMt ["rules", "part", "path"] (defScope (top 31)) := ⟨rfl, rfl, rfl, by decide +kernel, rfl, by decide +kernel, by decide +kernel⟩
theorem ok_made {C : Addr} {n : Nat} (D : Def K mg "made_tree" (top 31) ["rules", "part", "path"]) (T : Txt mg) (R : RTxt K mg C) (CP : Cal P w K mg base 1 "made_props" ["rules", "pairs", "path"] (spMP P w K C))
    (CM : Cal P w K mg base (n + 1) "made_tree" ["rules", "part", "path"] (spMT P w K C n)) : Cal P w K mg base (n + 2) "made_tree" ["rules", "part", "path"] (spMT P w K C (n + 1)) := by
  refine D.cal scMt (fun vs H Q E h => ?_) (fun f cdv A outer s H vs Q E hr h => ?_)
  · obtain ⟨rp, v, u, es, t, p, rfl, _⟩ := h
    rfl
  obtain ⟨rp, v, u, es, t, p, rfl, hR, hv, hto, hu, ht, hpl, k⟩ := h
  have hr1 : Room 1 _ := hr.mono (by omega)
  refine ⟨_, pss_cons (ps_set (i := 3) scMt.nd rfl (Or.inl rfl) pe_dnewK)
    (pss_cons (ps_for PassesOwn.never rfl (pi_tup (pe_ix ix_tup (pv 1) pe_int (fun _ _ => rfl))) (pg_tup rfl (pgs_cons (pg_name (i := 4) scMt.nd rfl (Or.inl rfl)) (pgs_cons (pg_name (i := 5) scMt.nd rfl (Or.inl rfl)) pgs_nil)))
      (pss_one (ps_if (pt_cmpR (op_nnotin hr.units) (pe_op op_catA (pv 2) (pe_tup (pa_cons (pv 4) pa_nil))) (pe_fld (pv 0) rfl) (by rfl))
        (pss_one (ps_dput (hu_of hr) (pv 3) (pv 4) (pe_c CM hr rfl (pa_cons (pv 0) (pa_cons (pv 5) (pa_cons (pe_op op_catA (pv 2) (pe_tup (pa_cons (pv 4) pa_nil))) pa_nil)))) rfl)) pss_nil)))
    (pss_cons (ps_for PassesOwn.never rfl (pi_list (pe_nget2 hr.units (pe_fld (pv 0) rfl) (pv 2) (pe_lst pa_nil) ⟨rfl, rfl, rfl, rfl⟩)) (pg_name (i := 4) scMt.nd rfl (Or.inl rfl))
      (pss_one (ps_expr (pe_dsetd (pv 3) (pv 4) (pe_nget hr.units (pe_fld (pv 0) rfl) (pe_op op_catA (pv 2) (pe_tup (pa_cons (pv 4) pa_nil))) (fun _ _ => rfl)) ⟨rfl, rfl, rfl, rfl⟩))))
    (pss_one (ps_ret (pe_tup (pa_cons (pe_c CP hr1 rfl (pa_cons (pv 0) (pa_cons (pe_ix ix_tup (pv 1) pe_int (fun _ _ => rfl)) (pa_cons (pv 2) pa_nil))))
      (pa_cons (pe_callTy call_tuple_of rfl T.tuple b_tuple (pa_cons (pe_sortItems rfl (pv 3) rfl T.sorted b_sorted) pa_nil)) pa_nil))))))), ?_⟩
  obtain ⟨dx, dh, dp, db, dr, kh, kp, kb, kr, fr, p1, ndh, hh, ndp, hp, ⟨ndb, hb⟩, _, _⟩ := hR.ex
  -- part
  obtain ⟨a, xs0, rfl, hpt, hpl0⟩ := pl_tupI (show Pl H v (.tuple [.tuple ((vPs t.ps).map dPair), .tuple ((kNP t.ks).map dPair)]) from hv)
  obtain ⟨x1, x2, rfl, l1, l2⟩ : ∃ x1 x2, xs0 = [x1, x2] ∧ Pl H x1 (.tuple ((vPs t.ps).map dPair)) ∧ Pl H x2 (.tuple ((kNP t.ks).map dPair)) := by
    cases hpl0 with
    | cons g1 g2 =>
      cases g2 with
      | cons g3 g4 => cases g4; exact ⟨_, _, rfl, g1, g3⟩
  have hs : SqT K H a [x1, x2] := hpt.sq
  obtain ⟨b2, xs2, rfl, hpt2, hpl2⟩ := pl_tupI l2
  have hb2 : SqT K H b2 xs2 := hpt2.sq
  intro d hd
  have s1 : Same H (L2.upd H d (.dK [])) := Same.new hd _
  obtain ⟨H1, eH1⟩ : ∃ A, A = L2.upd H d (.dK []) := ⟨_, rfl⟩
  have fd1 : FD K H1 d [] := ⟨[], by rw [eH1]; exact upd_same, .nil⟩
  rw [← eH1] at s1 ⊢
  clear eH1
  have back : ∀ {H' : Hp}, KB d H1 H' → Same H H' := fun {H'} kb b o e => kb b o (by intro z; rw [z, hd] at e; cases e) (s1 b o e)
  have okp := path_ok hu.gd
  -- for name, child in part[1]
  refine ⟨_, rfl, a, _, _, _, rfl, rfl, SqT.sm s1 hs, rfl, b2, rfl, ⟨_, SqT.sm s1 hb2⟩, ?_⟩
  have lx2 : xs2.length = (kids t.ks).length := by
    have h1 : ∀ {xs : List V} {ds : List PyData}, PlAll H xs ds → xs.length = ds.length := by
      intro xs ds h
      induction ds generalizing xs with
      | nil => cases h; rfl
      | cons d ds ih => cases h with
        | cons g1 g2 => rw [List.length_cons, List.length_cons, ih g2]
    rw [h1 hpl2, List.length_map, kNP_kids, List.length_map]
  have l3 := hto.2.2.1
  refine for_it (walk_tup (xs := xs2)) (fun i σ H' => ∃ o4 o5, σ = [some (.ref rp), some (.ref a), some u, some (.ref d), o4, o5] ∧ KB d H1 H' ∧
      FD K H' d (((kids t.ks).take i).filterMap fun x => if hid es (p ++ [x.1]) = true then none else some (x.1, madeT es x.2 (p ++ [x.1]))))
    ⟨_, _, rfl, KB.refl _ _, fd1⟩ (fun i σ H' _ m => ?_) (fun i x σ H4 H5 hi m y => ?_) (fun σ H2 m => ?_)
  · obtain ⟨_, _, _, kb', _⟩ := m
    exact SqT.sm (back kb') hb2
  · obtain ⟨o4, o5, rfl, kb', fd⟩ := m
    obtain ⟨rfl, hy⟩ := y
    have sm := back kb'
    obtain ⟨e, he⟩ : ∃ e, (kids t.ks)[i]? = some e := ⟨_, List.getElem?_eq_getElem (by omega)⟩
    have he2 : (kNP t.ks)[i]? = some (e.1, dTree e.2) := by rw [kNP_kids, List.getElem?_map, he]; rfl
    have hte := hto.2.2.2 e (List.mem_of_getElem? he)
    obtain ⟨b, z2, h1, h2, h3⟩ := pl_pair_at (K := K) hpl2 he2 (nmB_ok hte.1)
    rw [hy] at h1
    cases h1
    have ex : (kids t.ks).take (i + 1) = (kids t.ks).take i ++ [e] := by rw [List.take_add_one, he]; rfl
    have ndk : ((kids t.ks).map (·.1)).Nodup := asc_nodup hto.2.1
    have fr0 : e.1 ∉ names (((kids t.ks).take i).filterMap fun x => if hid es (p ++ [x.1]) = true then none else some (x.1, madeT es x.2 (p ++ [x.1]))) := fun hm => by
      obtain ⟨dd, hm⟩ := mem_names.mp hm
      obtain ⟨y, hy1, hy2⟩ := List.mem_filterMap.mp hm
      split at hy2
      · cases hy2
      · injection hy2 with hy2
        injection hy2 with hy3 _
        refine nodup_take ndk (i := i) (x := e.1) (by rw [List.getElem?_map, he]; rfl) ?_
        rw [← List.map_take]
        exact List.mem_map.mpr ⟨y, hy1, hy3⟩
    refine ⟨b, _, rfl, SqT.sm sm h2, rfl, .str e.1, [z2], rfl, z2, [], rfl, rfl, ?_⟩
    -- path + (name,) not in rules.hides
    refine ⟨_, rfl, _, rfl, by show 1 ≤ sizeLine; decide, fun c hc => ?_⟩
    have s5 : Same H5 (L2.upd H5 c (.tup [.str e.1])) := Same.new hc _
    refine cat_path ((hu.sm sm).sm s5) (one_path (nmB_ok hte.1)) (by show p.length + 1 ≤ 1000; omega) fun r H6 s6 hr6 => ?_
    have s56 := s5.trans s6
    have s06 := sm.trans s56
    refine ⟨_, rfl, rp, C, dx, _, _, rfl, s06 _ _ p1, R.cl, R.nH, rf4_hides _ _ _ _, kyP (p ++ [e.1]), dh, kh, hr6.ky, rfl, ndh.sm s06, ?_⟩
    refine ⟨_, rfl, ?_⟩
    have ht' : (valV kh (kyP (p ++ [e.1]))).isSome = hid es (p ++ [e.1]) := hh _
    cases hq : hid es (p ++ [e.1]) with
    | true =>
      rw [hq] at ht'
      refine (show (if (!(valV kh (kyP (p ++ [e.1]))).isSome) = true then _ else _) from ?_)
      rw [ht']
      refine ⟨_, _, rfl, kb'.same s56, ?_⟩
      have ec : ((kids t.ks).take (i + 1)).filterMap (fun x => if hid es (p ++ [x.1]) = true then none else some (x.1, madeT es x.2 (p ++ [x.1]))) = ((kids t.ks).take i).filterMap fun x => if hid es (p ++ [x.1]) = true then none else some (x.1, madeT es x.2 (p ++ [x.1])) := by
        rw [ex, List.filterMap_append, List.filterMap_cons_none (by rw [if_pos hq])]; simp
      rw [ec]
      exact fd.sm s56
    | false =>
      rw [hq] at ht'
      refine (show (if (!(valV kh (kyP (p ++ [e.1]))).isSome) = true then _ else _) from ?_)
      rw [ht']
      refine ⟨_, rfl, _, rfl, _, rfl, _, rfl, by show 1 ≤ sizeLine; decide, fun c2 hc2 => ?_⟩
      have s7 : Same H6 (L2.upd H6 c2 (.tup [.str e.1])) := Same.new hc2 _
      refine cat_path ((hu.sm s06).sm s7) (one_path (nmB_ok hte.1)) (by show p.length + 1 ≤ 1000; omega) fun r2 H8 s8 hr8 => ?_
      have s58 := s56.trans (s7.trans s8)
      have s08 := sm.trans s58
      refine ⟨rp, z2, r2, es, e.2, p ++ [e.1], rfl, hR.sm s08, h3.keep s08, hte.2, hr8, ht, by rw [List.length_append]; show p.length + 1 + n ≤ 100; omega, fun r3 H9 s9 hr9 => ?_⟩
      have s59 := s58.trans s9
      obtain ⟨kv, ekv, fkv⟩ := fd.sm s59
      have lkv : kv.length ≤ 3 := by
        rw [Paired.length fkv]
        refine Nat.le_trans (List.length_filterMap_le _ _) ?_
        rw [List.length_take]; omega
      refine ⟨_, rfl, _, rfl, d, _, rfl, DPut.k (k := Sum.inr e.1) ekv (by rw [List.length_map, sizeLine_eq]; omega), _, _, rfl, (kb'.same s59).trans ((KB.refl _ _).upd _), ?_⟩
      have ec : ((kids t.ks).take (i + 1)).filterMap (fun x => if hid es (p ++ [x.1]) = true then none else some (x.1, madeT es x.2 (p ++ [x.1]))) = (((kids t.ks).take i).filterMap fun x => if hid es (p ++ [x.1]) = true then none else some (x.1, madeT es x.2 (p ++ [x.1]))) ++ [(e.1, madeT es e.2 (p ++ [e.1]))] := by
        rw [ex, List.filterMap_append, List.filterMap_cons_some (b := (e.1, madeT es e.2 (p ++ [e.1]))) (by rw [if_neg (by rw [hq]; exact Bool.false_ne_true)])]; rfl
      rw [ec, ← set_fresh fr0]
      exact ⟨putK kv e.1 r3, by rw [upd_same, putK_kvS], FdP.tk (TK.dk ekv) (fd_set fkv e.1 hr9)⟩
  obtain ⟨o4, o5, rfl, kb', fd⟩ := m
  rw [lx2, List.take_length, ← madeKs_kids] at fd
  have s2 := back kb'
  -- for name in rules.below.get(path, [])
  refine ⟨_, rfl, rp, C, dx, _, _, rfl, s2 _ _ p1, R.cl, R.nB, rf4_below _ _ _ _, db, rfl, ⟨kb, ndb.sm s2⟩, _, rfl, Nat.zero_le _, fun l0 hl0 => ?_⟩
  have s3 : Same H2 (L2.upd H2 l0 (.lst [])) := Same.new hl0 _
  have s23 := s2.trans s3
  refine ⟨kyP p, kb, (hu.sm s23).ky, ndb.sm s23, ?_⟩
  obtain ⟨L, hL, hLH⟩ : ∃ L, (valV kb (kyP p)).getD (.ref l0) = .ref L ∧ L2.upd H2 l0 (.lst []) L = some (.lst ((belowOf es p).map V.str)) := by
    rcases hb p with ⟨h1, h2⟩ | ⟨l, h1, h2⟩
    · have h2 : (belowOf es p).map V.str = [] := h2
      exact ⟨l0, by rw [h1]; rfl, by rw [upd_same, h2]⟩
    · exact ⟨l, by rw [h1]; rfl, s23 _ _ h2⟩
  refine ⟨L, hL, ⟨_, SqL.of hLH⟩, ?_⟩
  have fdA := fd.sm s3
  have dL : d ≠ L := by
    obtain ⟨kv0, e0, _⟩ := fdA
    exact ne_of e0 hLH (by intro z; cases z)
  have kbA : KB d H1 (L2.upd H2 l0 (.lst [])) := kb'.same s3
  have lb := below_len es p
  have l60 := ht.len
  have lmk : (madeKs es p t.ks).length ≤ 3 := by
    rw [madeKs_kids]
    exact Nat.le_trans (List.length_filterMap_le _ _) l3
  refine for_it (walk_list (xs := (belowOf es p).map V.str)) (fun i σ H' => ∃ o4 o5, σ = [some (.ref rp), some (.ref a), some u, some (.ref d), o4, o5] ∧ KB d (L2.upd H2 l0 (.lst [])) H' ∧
      FD K H' d (((belowOf es p).take i).foldl (putStep es p) (madeKs es p t.ks)))
    ⟨_, _, rfl, KB.refl _ _, fdA⟩ (fun i σ H' _ m => ?_) (fun i x σ H4 H5 hi m y => ?_) (fun σ H4 m => ?_)
  · obtain ⟨_, _, _, kb2, _⟩ := m
    exact SqL.of (kb2 _ _ (Ne.symm dL) hLH)
  · obtain ⟨o4, o5, rfl, kb2, fd⟩ := m
    obtain ⟨rfl, hy⟩ := y
    obtain ⟨nm, hnm, rfl⟩ : ∃ nm, (belowOf es p)[i]? = some nm ∧ x = V.str nm := by
      rw [List.getElem?_map] at hy
      cases e : (belowOf es p)[i]? with
      | none => rw [e] at hy; cases hy
      | some r => rw [e] at hy; exact ⟨r, rfl, (Option.some.inj hy).symm⟩
    obtain ⟨t0, hmem⟩ := mem_below.mp (List.mem_of_getElem? hnm)
    have hnb := last_nm (ht.ok _ hmem).1
    obtain ⟨tt, htt⟩ := putTree_some.mpr ⟨t0, hmem⟩
    obtain ⟨pv', hpv1, hpv2⟩ := hp _ _ htt
    have sm : Same H H5 := back (kbA.trans kb2)
    obtain ⟨kv, ekv, fkv⟩ := fd
    have lkv : kv.length ≤ 100 := by
      rw [Paired.length fkv]
      have h1 := puts_len (es := es) (p := p) ((belowOf es p).take i) (madeKs es p t.ks)
      rw [List.length_take] at h1
      omega
    have ef : ((belowOf es p).take (i + 1)).foldl (putStep es p) (madeKs es p t.ks) = addNP (((belowOf es p).take i).foldl (putStep es p) (madeKs es p t.ks)) nm (dTree tt) := by
      rw [List.take_add_one, hnm, List.foldl_append]
      show putStep es p _ nm = _
      unfold putStep
      rw [htt]
    refine ⟨_, rfl, d, rfl, .inl ⟨_, .inl ekv⟩, _, rfl, ?_⟩
    refine ⟨_, rfl, rp, C, dx, _, _, rfl, sm _ _ p1, R.cl, R.nP, rf4_puts _ _ _ _, _, rfl, _, rfl, by show 1 ≤ sizeLine; decide, fun c hc => ?_⟩
    have s5 : Same H5 (L2.upd H5 c (.tup [.str nm])) := Same.new hc _
    refine cat_path ((hu.sm sm).sm s5) (one_path (nmB_ok hnb)) (by show p.length + 1 ≤ 1000; omega) fun r H6 s6 hr6 => ?_
    have s56 := s5.trans s6
    have s06 := sm.trans s56
    refine ⟨dp, kyP (p ++ [nm]), kp, pv', rfl, hr6.ky, ndp.sm s06, hpv1, ?_⟩
    have fkv6 := FdP.tk (TK.of s56) fkv
    have ekv6 := s56 _ _ ekv
    refine ⟨kv.map kvS, Sum.inr nm, ekv6, rfl, by rw [List.length_map, sizeLine_eq]; omega, fun v hv => ?_, fun hv => ?_⟩
    · rw [valV_kvS] at hv
      refine ⟨_, _, rfl, kb2.same s56, ?_⟩
      rw [ef, fd_add_some fkv hv]
      exact ⟨kv, ekv6, fkv6⟩
    · rw [valV_kvS] at hv
      refine ⟨_, _, rfl, (kb2.same s56).trans ((KB.refl _ _).upd _), ?_⟩
      rw [ef]
      exact ⟨putK kv nm pv', by rw [upd_same, putK_kvS], FdP.tk (TK.dk ekv6) (fd_add_none fkv6 hv (hpv2.sm s06))⟩
  obtain ⟨o4, o5, rfl, kb2, fd⟩ := m
  rw [List.length_map, List.take_length] at fd
  have s4 : Same H H4 := back (kbA.trans kb2)
  refine ⟨_, rfl, _, rfl, a, _, _, _, rfl, rfl, SqT.sm s4 hs, rfl, _, rfl, rp, x1, u, es, t.ps, p, rfl, hR.sm s4, l1.keep s4, hu.sm s4, ht, hto.1, fun r1 H5 s5 hr5 => ?_⟩
  obtain ⟨kv, ekv, fkv⟩ := fd.sm s5
  have nms : ∀ x ∈ (belowOf es p).foldl (putStep es p) (madeKs es p t.ks), nmB x.1 = true := puts_nm ht.ok _ (fun _ h => h) fun x hx => by
    rw [madeKs_kids] at hx
    obtain ⟨y, hy1, hy2⟩ := List.mem_filterMap.mp hx
    split at hy2
    · cases hy2
    · injection hy2 with hy2
      rw [← hy2]
      exact (hto.2.2.2 y hy1).1
  have ndn : (names ((belowOf es p).foldl (putStep es p) (madeKs es p t.ks))).Nodup := putFold_nodup _ (by
    have e1 : names (madeKs es p t.ks) = (madeKs es p t.ks).map (·.1) := rfl
    rw [e1, madeKs_kids]
    have nd2 : ((kids t.ks).map (·.1)).Nodup := asc_nodup hto.2.1
    refine List.Nodup.sublist ?_ nd2
    exact sub_names _ _ _)
  have lkv : kv.length ≤ 100 := by
    rw [Paired.length fkv]
    have h1 := puts_len (es := es) (p := p) (belowOf es p) (madeKs es p t.ks)
    omega
  refine ⟨_, rfl, d, kv, rfl, ekv, by omega, fun H6 l zs s6 hl pp so hH6 tu => ?_⟩
  have it := items_sorted fkv ndn (fun x hx => nmB_ok (nms x hx)) s6 pp so tu
  refine ⟨l, _, rfl, .inl ⟨SqL.of hH6, fun r2 hr2 => ?_⟩⟩
  have s7 : Same H6 (L2.upd H6 r2 (.tup (zs.map fun z => V.ref z.1))) := Same.new hr2 _
  refine ⟨by show 2 ≤ sizeLine; decide, fun r3 hr3 => ?_⟩
  have s8 : Same (L2.upd H6 r2 (.tup (zs.map fun z => V.ref z.1))) (L2.upd (L2.upd H6 r2 (.tup (zs.map fun z => V.ref z.1))) r3 (.tup [r1, .ref r2])) := Same.new hr3 _
  refine k _ _ (((s4.trans s5).trans s6).trans (s7.trans s8)) (daTup (SqT.of upd_same) (.cons (hr5.sm (s6.trans (s7.trans s8))) (.cons ?_ .nil)))
  exact (daTup (SqT.of upd_same) (Paired.mapP it fun v dd h => h.sm s7)).sm s8
theorem made_all {C : Addr} (D : Def K mg "made_tree" (top 31) ["rules", "part", "path"]) (T : Txt mg) (R : RTxt K mg C) (CP : Cal P w K mg base 1 "made_props" ["rules", "pairs", "path"] (spMP P w K C)) :
    ∀ n : Nat, Cal P w K mg base (n + 1) "made_tree" ["rules", "part", "path"] (spMT P w K C n)
  | 0 => (D.zero fun vs H Q E h => by
    obtain ⟨_, _, _, _, _, _, _, _, _, h, _⟩ := h
    exact h.elim).mono (Nat.zero_le _)
  | n + 1 => ok_made D T R CP (made_all D T R CP n)
end
end VN

/-! applied, begins, is_idle, normal_table, normal. -/
namespace VN
open PySem PySem.Spec PyProof.Rows L2

/-- a table that stands in a list or a tuple -/
def TabAt (K : PySem.W.Frag) (H : Hp) (v : V) (es : List Ent) : Prop := ∃ a ys, v = .ref a ∧ (SqL K H a ys ∨ SqT K H a ys) ∧ Paired (Da K H) ys (es.map Ent.data)
theorem TabAt.sm {K : PySem.W.Frag} {H H' : Hp} (s : Same H H') {v : V} {es : List Ent} (h : TabAt K H v es) : TabAt K H' v es := by
  obtain ⟨a, ys, e, h1, h2⟩ := h
  refine ⟨a, ys, e, ?_, Paired.mapP h2 fun v d h => h.sm s⟩
  rcases h1 with h | h
  · exact .inl (s.seq h)
  · exact .inr (SqT.sm s h)
theorem Da.tab {K : PySem.W.Frag} {H : Hp} {v : V} {es : List Ent} (h : Da K H v (dTab es)) : TabAt K H v es := by
  obtain ⟨a, xs, e, h1, h2⟩ := (show Da K H v (.tuple (es.map Ent.data)) from h).tupI
  exact ⟨a, xs, e, .inr h1, h2⟩
theorem tab_good {es : List Ent} (h : ∀ e ∈ es, EOk e) : good (dTab es) = true := by
  show goodAll (es.map Ent.data) = true
  refine goodAll_iff.mpr fun d hd => ?_
  obtain ⟨e, he, rfl⟩ := List.mem_map.mp hd
  exact fit_good _ _ (h e he).fit
def spApp (K : PySem.W.Frag) : Sp := fun vs H Q _ => ∃ tv v es t, vs = [tv, v] ∧ TabAt K H tv es ∧ TbOk es ∧ Da K H v (dTree t) ∧ TOk 9 t ∧ ∀ r H', Same H H' → Da K H' r (madeT es t []) → Q r H'
theorem dPath_inj {p q : Path} (h : dPath p = dPath q) : p = q := by
  unfold dPath at h
  injection h with h
  have : ∀ {p q : List Str}, p.map PyData.str = q.map PyData.str → p = q := by
    intro p
    induction p with
    | nil => intro q h; cases q with
      | nil => rfl
      | cons _ _ => cases h
    | cons x p ih => intro q h; cases q with
      | nil => cases h
      | cons y q =>
        rw [List.map_cons, List.map_cons] at h
        injection h with h1 h2
        injection h1 with h1
        rw [h1, ih h2]
  exact this h
theorem shaped_path {p : Path} (h : good (dPath p) = true) : SeqAt.shaped (dPath p) = true := by
  refine shaped_of h ?_
  have : PyData.depthAll (p.map .str) ≤ 0 := depthAll_le fun d hd => by
    obtain ⟨x, _, rfl⟩ := List.mem_map.mp hd
    simp [PyData.depth]
  show (PyData.tuple (p.map .str)).depth ≤ 64
  simp only [PyData.depth]; omega
theorem eqv_path {p q : Path} (hp : good (dPath p) = true) (hq : good (dPath q) = true) : PyData.eqv (dPath p) (dPath q) = decide (p = q) := by
  by_cases h : p = q
  · subst h
    rw [eqv_self hp, decide_eq_true rfl]
  · rw [eqv_ne hp hq (fun e => h (dPath_inj e)), decide_eq_false h]
def spBegins (K : PySem.W.Frag) : Sp := fun vs H Q _ => ∃ u v p q, vs = [u, v] ∧ Da K H u (dPath p) ∧ Da K H v (dPath q) ∧ ∀ H', Same H H' → Q (.bl (decide (p.take q.length = q))) H'
def spIdle (K : PySem.W.Frag) : Sp := fun vs H Q _ => ∃ v L ys e hs, vs = [v, .ref L] ∧ Da K H v e.data ∧ SqL K H L ys ∧ Paired (Da K H) ys (hs.map dPath) ∧ hs.length ≤ 1000 ∧ ∀ H', Same H H' → Q (.bl (idle hs e)) H'
def spNt (K : PySem.W.Frag) : Sp := fun vs H Q _ => ∃ v es, vs = [v] ∧ Da K H v (dTab es) ∧ TbOk es ∧ ∀ r H', Same H H' → Da K H' r (dTab (normal es)) → Q r H'
def spNormal (K : PySem.W.Frag) : Sp := fun vs H Q _ => ∃ v es, vs = [v] ∧ TabAt K H v es ∧ TbOk es ∧ ∀ r H', Same H H' → Da K H' r (dTab (normal es)) → Q r H'
theorem cut_take (xs : List V) (n : Nat) : cutV xs none (some (n : Int)) = xs.take n := by
  unfold cutV
  rw [HT.sIx_nat, HT.sIx_none, List.drop_zero, Nat.sub_zero]
  by_cases h : n ≤ xs.length
  · rw [Nat.min_eq_left h]
  · rw [Nat.min_eq_right (by omega), List.take_length, List.take_of_length_le (by omega)]
section
variable {P : Program} {w : World} {K : PySem.W.Frag} {mg : Str → Option Value} {base : Heap} {k : Nat}
abbrev nAp : List Str := ["table", "tree", "rules"]
theorem scAp : FnScope nAp ["table", "tree"] (defScope (top 32)) := ⟨rfl, rfl, rfl, by decide +kernel, rfl, by decide +kernel, by decide +kernel⟩
theorem ok_applied {C fI : Addr} {fdI : FuncData} (D : Def K mg "applied" (top 32) ["table", "tree"]) (R : RTxt K mg C) (M : Mk K C fI) (FI : FnOk P w K mg base CX0 1 fI fdI ["self", "entries"] (spInit P w K C)) (bI : L2.Binds K fdI ["self", "entries"] [])
    (CK : Cal P w K mg base 45 "checked_table" ["entries"] (spChk K)) (CT : Cal P w K mg base 41 "checked_tree" ["value"] (spChkT K)) (CM : Cal P w K mg base 10 "made_tree" ["rules", "part", "path"] (spMT P w K C 9)) :
    Cal P w K mg base 46 "applied" ["table", "tree"] (spApp K) := by
  refine D.cal scAp (fun vs H Q E h => ?_) (fun f cdv A outer s H vs Q E hr h => ?_)
  · obtain ⟨tv, v, es, t, rfl, _⟩ := h
    rfl
  have hr2 : Room 2 _ := hr.mono (by decide)
  have hr10 : Room 10 _ := hr.mono (by decide)
  have hr41 : Room 41 _ := hr.mono (by decide)
  obtain ⟨tv, v, es, t, rfl, ⟨a, ys, rfl, h1, h2⟩, ht, hv, hto, k⟩ := h
  refine ⟨_, pss_cons (ps_set (i := 2) scAp.nd rfl (Or.inl rfl) (pe_make M FI hr2 rfl R.mgC bI .nil pass0 (pa_cons (pe_c CK hr rfl (pa_cons (pv 0) pa_nil)) pa_nil)))
    (pss_one (ps_ret (pe_c CM hr10 rfl (pa_cons (pv 2) (pa_cons (pe_c CT hr41 rfl (pa_cons (pv 1) pa_nil)) (pa_cons (pe_tup pa_nil) pa_nil)))))), ?_⟩
  refine ⟨_, rfl, a, ys, es, rfl, h1, h2, ht, fun r H1 s1 hr1 => ?_⟩
  intro x dx hx hdx hne
  have e1 : ∀ b o, H1 b = some o → L2.upd (L2.upd H1 dx (.own x)) x (.ins C dx []) b = some o := fun b o e => by
    rw [upd_ne (ne_of_none e hx), upd_ne (ne_of_none e hdx)]; exact e
  refine ⟨x, dx, r, es, rfl, upd_same, (⟨hr1.dp, tab_good ht.ok⟩ : Da K H1 r (dTab es)).sm e1, ht, fun H2 kb hR => ⟨rfl, ?_⟩⟩
  have s2 : Same H1 H2 := fun b o e => kb b o (ne_of_none e hx) (e1 b o e)
  have s12 := s1.trans s2
  refine ⟨_, rfl, _, rfl, v, t, rfl, hv.sm s12, hto, fun r3 H3 s3 hr3 => ?_⟩
  refine ⟨Nat.zero_le _, fun c hc => ?_⟩
  have s4 : Same H3 (L2.upd H3 c (.tup [])) := Same.new hc _
  refine ⟨x, r3, .ref c, es, t, [], rfl, (hR.sm s3).sm s4, hr3.keep s4, hto, daPath (p := []) (SqT.of upd_same) (fun _ hx => by cases hx), ht, by decide, fun r5 H5 s5 hr5 => ?_⟩
  exact k _ _ (s12.trans (s3.trans (s4.trans s5))) hr5
abbrev nBg : List Str := ["path", "other"]
theorem scBg : FnScope nBg ["path", "other"] (defScope (top 34)) := ⟨rfl, rfl, rfl, by decide +kernel, rfl, by decide +kernel, by decide +kernel⟩
theorem ok_begins (D : Def K mg "begins" (top 34) ["path", "other"]) (T : Txt mg) : Cal P w K mg base 1 "begins" ["path", "other"] (spBegins K) := by
  refine D.cal scBg (fun vs H Q E h => ?_) (fun f cdv A outer s H vs Q E hr h => ?_)
  · obtain ⟨u, v, p, q, rfl, _⟩ := h
    rfl
  obtain ⟨u, v, p, q, rfl, hu, hv, k⟩ := h
  refine ⟨_, pss_one (ps_ret (pe_cmpR (op_eqD hr.units) (pe_slice sl_tupA (pv 0) po_none (po_some (pe_callB c_len rfl T.len b_len (pa_cons (pv 1) pa_nil)))) (pv 1) (nomark _))), ?_⟩
  obtain ⟨a, rfl, ha⟩ := hu.pathI
  obtain ⟨b, rfl, hb⟩ := hv.pathI
  have fin : ∀ (r : V) (H' : Hp), Same H H' → Da K H' r (dPath (p.take q.length)) → ∃ d e, Dp K H' r d ∧ Dp K H' (.ref b) e ∧ SeqAt.shaped d = true ∧ SeqAt.shaped e = true ∧ Q (.bl (PyData.eqv d e)) H' := fun r H' s hr => by
    refine ⟨_, _, hr.dp, (hv.sm s).dp, shaped_path hr.gd, shaped_path hv.gd, ?_⟩
    rw [eqv_path hr.gd hv.gd]
    exact k _ s
  refine ⟨_, rfl, _, rfl, b, _, rfl, .inr hb, _, rfl, a, _, rfl, ha, fun h => ?_, fun _ r hr => ?_⟩
  · have h2 : min (q.map V.str).length (p.map V.str).length = (p.map V.str).length := by rw [← HT.sIx_nat _ (p.map V.str).length]; exact h.2
    rw [List.length_map, List.length_map] at h2
    refine ⟨_, rfl, fin _ _ (Same.refl _) ?_⟩
    rw [List.take_of_length_le (by omega)]
    exact hu
  · have s1 : Same H (L2.upd H r (.tup (cutV (p.map V.str) none (some ((q.map V.str).length : Int))))) := Same.new hr _
    refine ⟨_, rfl, fin _ _ s1 (daPath (SqT.of ?_) fun x hx => path_ok hu.gd x (List.mem_of_mem_take hx))⟩
    rw [upd_same, cut_take, List.length_map, List.map_take]
abbrev nId : List Str := ["entry", "hides", "path"]
theorem scId : FnScope nId ["entry", "hides"] (defScope (top 35)) := ⟨rfl, rfl, rfl, by decide +kernel, rfl, by decide +kernel, by decide +kernel⟩
theorem ok_idle (D : Def K mg "is_idle" (top 35) ["entry", "hides"]) (T : Txt mg) (C : Cal P w K mg base 1 "begins" ["path", "other"] (spBegins K)) : Cal P w K mg base 2 "is_idle" ["entry", "hides"] (spIdle K) := by
  refine D.cal scId (fun vs H Q E h => ?_) (fun f cdv A outer s H vs Q E hr h => ?_)
  · obtain ⟨v, L, ys, e, hs, rfl, _⟩ := h
    rfl
  obtain ⟨v, L, ys, e, hs, rfl, hv, hL, hys, hlen, k⟩ := h
  refine ⟨_, pss_one (ps_ret (pe_callB (cr_any rfl) rfl T.any b_any (pa_cons (pe_lc (own := [("path", 2)]) (g := gName 2) (tt := tYes) rfl scId.nd (pi_list (pv 1)) (blkOk_by (N := nId) (sc := defScope (top 35)) (by decide +kernel))
        (fun _ _ _ _ _ => pg_name (i := 2) scId.nd rfl (Or.inl rfl)) (fun _ _ _ _ _ => pts_nil)
        (fun _ _ _ _ _ => pe_and (pe_c C hr rfl (pa_cons (pe_ix (r := rIxT K) ix_tup (pv 0) pe_int (fun _ _ => rfl)) (pa_cons (pv 2) pa_nil)))
          (pe_one (pe_or (pe_cmpR (r := rIn K false) op_in_seq (pe_ix (r := rIxT K) ix_tup (pv 0) pe_int (fun _ _ => rfl)) (pe_tup (pa_cons pe_str (pa_cons pe_str pa_nil))) (by rfl))
            (pe_one (pe_cmpR (r := rNeD K) (op_neD hr.units) (pe_ix (r := rIxT K) ix_tup (pv 0) pe_int (fun _ _ => rfl)) (pv 2) (nomark _))))))) pa_nil))), ?_⟩
  have ly : hs.length = ys.length := by rw [Paired.length hys, List.length_map]
  refine ⟨_, rfl, L, rfl, ⟨_, hL⟩, fun M hM => ?_⟩
  refine lc_map (walk_list (xs := ys)) hs (fun q => decide (e.path.take q.length = q) && (e.isProp || !decide (e.path = q))) (fun _ v c => v = .bl c) stays_bl hM ly (by omega) (fun H2 s1 => s1.seq hL) yat_same (fun i y q H2 H3 N he s1 hy n => ?_) (fun H2 zs s1 e2 hzs => ?_)
  · obtain ⟨rfl, hy⟩ := hy
    obtain ⟨dd, hdd, hyd⟩ := LiI.paired_get hys hy
    rw [List.getElem?_map, he] at hdd
    cases hdd
    obtain ⟨b, x2, rest, eb, hb, d2⟩ := ent_at hv
    subst eb
    have hb1 := SqT.sm s1 hb
    have d2a := d2.sm s1
    have hya := hyd.sm s1
    refine ⟨rfl, _, rfl, b, _, _, _, rfl, rfl, hb1, atI_nat (j := 1) rfl, _, rfl, x2, y, e.path, q, rfl, d2a, hya, fun H4 s4 => ?_⟩
    refine ⟨_, rfl, ?_⟩
    by_cases c1 : e.path.take q.length = q
    · rw [decide_eq_true c1] at n ⊢
      refine iteT ?_
      have hb4 := SqT.sm s4 hb1
      refine ⟨_, rfl, b, _, _, _, rfl, rfl, hb4, atI_nat (j := 0) rfl, by show 2 ≤ sizeLine; decide, fun c hc => ?_⟩
      have s5 : Same H4 (L2.upd H4 c (.tup [.str "set", .str "drop"])) := Same.new hc _
      refine ⟨c, _, rfl, .inr (SqT.of upd_same), rfl, rfl, e.isProp, ?_, ?_⟩
      · cases e with
        | drop _ _ => exact congrArg V.bl (show inV (.str "drop") [.str "set", .str "drop"] = true by decide +kernel)
        | hide _ => exact congrArg V.bl (show inV (.str "hide") [.str "set", .str "drop"] = false by decide +kernel)
        | put _ _ => exact congrArg V.bl (show inV (.str "put") [.str "set", .str "drop"] = false by decide +kernel)
        | set _ _ _ => exact congrArg V.bl (show inV (.str "set") [.str "set", .str "drop"] = true by decide +kernel)
      cases hp : e.isProp with
      | true =>
        rw [hp] at n
        exact iteT (n _ _ (s4.trans s5) rfl)
      | false =>
        rw [hp] at n
        refine iteF ?_
        refine ⟨_, rfl, b, _, _, _, rfl, rfl, SqT.sm s5 hb4, atI_nat (j := 1) rfl, _, rfl, dPath e.path, dPath q, ((d2a.sm s4).sm s5).dp, ((hya.sm s4).sm s5).dp, shaped_path d2.gd, shaped_path hyd.gd, ?_⟩
        refine n _ _ (s4.trans s5) ?_
        rw [eqv_path d2.gd hyd.gd]
        rfl
    · rw [decide_eq_false c1] at n ⊢
      exact iteF (n _ _ s4 rfl)
  · rw [bls_of hzs] at e2
    refine ⟨M, _, rfl, SqL.of e2, ?_⟩
    have e3 : (hs.map fun q => decide (e.path.take q.length = q) && (e.isProp || !decide (e.path = q))).any id = idle hs e := by
      unfold idle
      rw [List.any_map]
      rfl
    rw [e3]
    exact k _ s1
end
end VN

/-! normal_table, normal. -/
namespace VN
open PySem PySem.Spec PyProof.Rows L2

def isHide : Ent → Bool
  | .hide _ => true
  | _ => false
theorem hides_map : ∀ es : List Ent, hidesOf es = (es.filter isHide).map Ent.path
  | [] => rfl
  | e :: es => by
    have ih := hides_map es
    cases e with
    | hide p =>
      rw [List.filter_cons_of_pos (by rfl), List.map_cons, ← ih]; rfl
    | drop _ _ => rw [List.filter_cons_of_neg (by simp [isHide]), ← ih]; rfl
    | put _ _ => rw [List.filter_cons_of_neg (by simp [isHide]), ← ih]; rfl
    | set _ _ _ => rw [List.filter_cons_of_neg (by simp [isHide]), ← ih]; rfl
theorem paired_map2 {α β γ : Type} {F : α → γ → Prop} {f : β → γ} : ∀ {xs : List α} {ys : List β}, Paired (fun x y => F x (f y)) xs ys → Paired F xs (ys.map f)
  | _, _, .nil => .nil
  | _, _, .cons h t => .cons h (paired_map2 t)
section
variable {P : Program} {w : World} {K : PySem.W.Frag} {mg : Str → Option Value} {base : Heap} {k : Nat}
abbrev nNt : List Str := ["entries", "hides", "entry"]
theorem scNt : FnScope nNt ["entries"] (defScope (top 36)) := ⟨rfl, rfl, rfl, by decide +kernel, rfl, by decide +kernel, by decide +kernel⟩
theorem ok_nt (D : Def K mg "normal_table" (top 36) ["entries"]) (T : Txt mg) (C : Cal P w K mg base 2 "is_idle" ["entry", "hides"] (spIdle K)) : Cal P w K mg base 3 "normal_table" ["entries"] (spNt K) := by
  refine D.cal scNt (fun vs H Q E h => ?_) (fun f cdv A outer s H vs Q E hr h => ?_)
  · obtain ⟨v, es, rfl, _⟩ := h
    rfl
  obtain ⟨v, es, rfl, hd, ht, k⟩ := h
  refine ⟨_, pss_cons (ps_set (i := 1) scNt.nd rfl (Or.inr rfl) (pe_lc (own := [("entry", 2)]) (g := gName 2) rfl scNt.nd (pi_tup (pv 0)) (blkOk_by (N := nNt) (sc := defScope (top 36)) (by decide +kernel))
        (fun _ _ _ _ _ => pg_name (i := 2) scNt.nd rfl (Or.inl rfl)) (fun _ _ _ _ _ => pts_one (pt_cmpR op_eq (pe_ix (r := rIxT K) ix_tup (pv 2) pe_int (fun _ _ => rfl)) pe_str (nomark _))) (fun _ _ _ _ _ => pe_ix (r := rIxT K) ix_tup (pv 2) pe_int (fun _ _ => rfl))))
    (pss_one (ps_ret (pe_callTy call_tuple_of rfl T.tuple b_tuple (pa_cons (pe_lc (own := [("entry", 2)]) (g := gName 2) rfl scNt.nd (pi_tup (pv 0)) (blkOk_by (N := nNt) (sc := defScope (top 36)) (by decide +kernel))
        (fun _ _ _ _ _ => pg_name (i := 2) scNt.nd rfl (Or.inl rfl)) (fun _ _ _ _ _ => pts_one (pt_not (pt_val (pe_c C hr rfl (pa_cons (pv 2) (pa_cons (pv 1) pa_nil)))))) (fun _ _ _ _ _ => pv 2)) pa_nil)))), ?_⟩
  obtain ⟨a, xs, rfl, hs, hx⟩ := (show Da K H v (.tuple (es.map Ent.data)) from hd).tupI
  have lx : xs.length = es.length := by rw [Paired.length hx, List.length_map]
  have len := ht.len
  have at' : ∀ {i : Nat} {x : V} {e : Ent} {H' : Hp}, Same H H' → xs[i]? = some x → es[i]? = some e → Da K H' x e.data := fun {i x e H'} s h1 h2 => by
    obtain ⟨d, hd, hxd⟩ := LiI.paired_get hx h1
    rw [List.getElem?_map, h2] at hd
    cases hd
    exact hxd.sm s
  refine ⟨_, rfl, a, rfl, ⟨_, hs⟩, fun L hL => ?_⟩
  refine lc_gen (walk_tup (xs := xs)) es isHide Ent.path (fun H v c => Da K H v (dPath c)) (fun D H H' ys v c hD k h => h.tk (k.tk hD)) hL lx.symm (by omega) (fun H2 s1 => SqT.sm s1 hs) yat_same (fun i y e H2 H3 N M he s1 hy n m => ?_) (fun H1 ys s1 hL1 hys => ?_)
  · obtain ⟨rfl, hy⟩ := hy
    obtain ⟨b, x2, rest, rfl, hb, d2⟩ := ent_at (at' s1 hy he)
    refine ⟨rfl, _, rfl, b, _, _, _, rfl, rfl, hb, atI_nat (j := 0) rfl, rfl, _, rfl, ?_⟩
    cases e with
    | hide p2 =>
      refine iteD rfl ?_
      exact ⟨_, rfl, b, _, _, _, rfl, rfl, hb, atI_nat (j := 1) rfl, n rfl _ _ (Same.refl _) d2⟩
    | drop _ _ => exact iteN (show ¬ V.str "drop" = V.str "hide" by decide +kernel) (m rfl _ (Same.refl _))
    | put _ _ => exact iteN (show ¬ V.str "put" = V.str "hide" by decide +kernel) (m rfl _ (Same.refl _))
    | set _ _ _ => exact iteN (show ¬ V.str "set" = V.str "hide" by decide +kernel) (m rfl _ (Same.refl _))
  rw [← hides_map] at hys
  have hys2 : Paired (Da K H1) ys ((hidesOf es).map dPath) := paired_map2 hys
  have lh : (hidesOf es).length ≤ 60 := by
    rw [hides_map, List.length_map]
    exact Nat.le_trans (List.length_filter_le _ _) ht.len
  refine ⟨_, rfl, a, rfl, ⟨_, SqT.sm s1 hs⟩, fun M hM => ?_⟩
  refine lc_gen (walk_tup (xs := xs)) es (fun e => !idle (hidesOf es) e) Ent.data (Da K) stays_da hM lx.symm (by omega) (fun H2 s2 => SqT.sm (s1.trans s2) hs) yat_same (fun i y e H2 H3 N O he s2 hy n m => ?_) (fun H2 zs s2 hM2 hzs => ?_)
  · obtain ⟨rfl, hy⟩ := hy
    have hde := at' (s1.trans s2) hy he
    refine ⟨rfl, _, rfl, _, rfl, y, L, ys, e, hidesOf es, rfl, hde, SqL.of (s2 _ _ hL1), Paired.mapP hys2 fun v d h => h.sm s2, by omega, fun H4 s4 => ?_⟩
    refine ⟨_, rfl, ?_⟩
    cases hi : idle (hidesOf es) e with
    | true => exact iteF (m (by rw [hi]; rfl) _ s4)
    | false => exact iteT ⟨_, rfl, n (by rw [hi]; rfl) _ _ s4 (hde.sm s4)⟩
  refine ⟨M, zs, rfl, .inl ⟨SqL.of hM2, fun r hr => ?_⟩⟩
  have s3 : Same H2 (L2.upd H2 r (.tup zs)) := Same.new hr _
  exact k _ _ ((s1.trans s2).trans s3) (daTup (ds := (normal es).map Ent.data) (SqT.of upd_same) (Paired.mapP hzs fun v d h => h.sm s3))
abbrev nNl : List Str := ["table"]
theorem scNl : FnScope nNl ["table"] (defScope (top 37)) := ⟨rfl, rfl, rfl, by decide +kernel, rfl, by decide +kernel, by decide +kernel⟩
theorem ok_normal (D : Def K mg "normal" (top 37) ["table"]) (CN : Cal P w K mg base 3 "normal_table" ["entries"] (spNt K)) (CK : Cal P w K mg base 45 "checked_table" ["entries"] (spChk K)) : Cal P w K mg base 46 "normal" ["table"] (spNormal K) := by
  refine D.cal scNl (fun vs H Q E h => ?_) (fun f cdv A outer s H vs Q E hr h => ?_)
  · obtain ⟨v, es, rfl, _⟩ := h
    rfl
  have hr3 : Room 3 _ := hr.mono (by decide)
  obtain ⟨v, es, rfl, ⟨a, ys, rfl, h1, h2⟩, ht, k⟩ := h
  refine ⟨_, pss_one (ps_ret (pe_c CN hr3 rfl (pa_cons (pe_c CK hr rfl (pa_cons (pv 0) pa_nil)) pa_nil))), ?_⟩
  refine ⟨_, rfl, a, ys, es, rfl, h1, h2, ht, fun r H1 s1 hr1 => ?_⟩
  exact ⟨r, es, rfl, ⟨hr1.dp, tab_good ht.ok⟩, ht, fun r2 H2 s2 hr2 => k _ _ (s1.trans s2) hr2⟩
end
end VN

/-! The stream of draws. -/
namespace VN
open PySem PySem.Spec PyProof.Rows L2

theorem iteNN {c A B : Prop} [Decidable c] (hc : ¬ c) (h : A) : if (!decide c) = true then A else B := by
  rw [decide_eq_false hc]
  exact iteT h
/-- a statement whose end is told in between -/
def tMid (t : TS) : TS := fun D σ H => ∃ M : L2.St → Hp → Prop, t { D with nx := M } σ H ∧ ∀ σ' H', M σ' H' → D.nx σ' H'
theorem ps_mid {X : Cx} {st : Stmt} {t : TS} (h : PS X st t) : PS X st (tMid t) := by
  refine ⟨fun pins s σ H D I hw => ?_⟩
  obtain ⟨M, hw, k⟩ := hw
  refine thn (h.run pins s σ H _ I hw) fun f s1 q => ?_
  cases f with
  | next => obtain ⟨σ', H', I2, q⟩ := q; exact ⟨σ', H', I2, k _ _ q⟩
  | brk => exact q
  | cont => exact q
  | ret v => exact q
/-- the stream: its rest, what is being spent, the count, the mix -/
def Stm (H : Hp) (st l0 : Addr) (n : Nat) : Prop := ∃ (rest : List Int) (cur cnt mix : Int), H st = some (.lst [.ref l0, .int cur, .int cnt, .int mix]) ∧ H l0 = some (.lst (rest.map V.int)) ∧ 0 ≤ cur ∧ 0 ≤ cnt ∧ cnt ≤ n ∧ 0 ≤ mix ∧ mix < 2147483647 ∧ rest.length ≤ 63
/-- all but the stream -/
def KS (st l0 : Addr) (H H' : Hp) : Prop := ∀ b u, b ≠ st → b ≠ l0 → H b = some u → H' b = some u
theorem KS.refl (st l0 : Addr) (H : Hp) : KS st l0 H H := fun _ _ _ _ e => e
theorem KS.trans {st l0 : Addr} {H H1 H2 : Hp} (a : KS st l0 H H1) (b : KS st l0 H1 H2) : KS st l0 H H2 := fun c u h1 h2 e => b c u h1 h2 (a c u h1 h2 e)
theorem KS.of {st l0 : Addr} {H H' : Hp} (s : Same H H') : KS st l0 H H' := fun _ _ _ _ e => s _ _ e
theorem KS.updS {st l0 : Addr} {H H' : Hp} (k : KS st l0 H H') (o : HO) : KS st l0 H (L2.upd H' st o) := fun b u h1 h2 e => by rw [upd_ne h1]; exact k b u h1 h2 e
theorem KS.updL {st l0 : Addr} {H H' : Hp} (k : KS st l0 H H') (o : HO) : KS st l0 H (L2.upd H' l0 o) := fun b u h1 h2 e => by rw [upd_ne h2]; exact k b u h1 h2 e
theorem Stm.tk {H H' : Hp} {st l0 : Addr} {n : Nat} (s : Stm H st l0 n) (k : KS st l0 H H') : TK H H' := by
  obtain ⟨rest, cur, cnt, mix, h1, h2, _⟩ := s
  intro b xs h
  rcases h with h | ⟨o, h⟩
  · exact .inl (k _ _ (ne_of h h1 (by intro z; cases z)) (ne_of h h2 (by intro z; cases z)) h)
  · exact .inr ⟨o, k _ _ (ne_of h h1 (by intro z; cases z)) (ne_of h h2 (by intro z; cases z)) h⟩
theorem Stm.sm {H H' : Hp} {st l0 : Addr} {n : Nat} (s : Stm H st l0 n) (k : Same H H') : Stm H' st l0 n := by
  obtain ⟨rest, cur, cnt, mix, h1, h2, r⟩ := s
  exact ⟨rest, cur, cnt, mix, k _ _ h1, k _ _ h2, r⟩
theorem Stm.le {H : Hp} {st l0 : Addr} {n m : Nat} (s : Stm H st l0 n) (h : n ≤ m) : Stm H st l0 m := by
  obtain ⟨rest, cur, cnt, mix, h1, h2, h3, h4, h5, r⟩ := s
  exact ⟨rest, cur, cnt, mix, h1, h2, h3, h4, by omega, r⟩
theorem stm_ne {H : Hp} {st l0 : Addr} {rest : List Int} {a b c : V} (h1 : H st = some (.lst [.ref l0, a, b, c])) (h2 : H l0 = some (.lst (rest.map V.int))) : st ≠ l0 := by
  refine ne_of h1 h2 fun z => ?_
  injection z with z
  cases rest with
  | nil => cases z
  | cons x r => rw [List.map_cons] at z; injection z with z _; cases z
def spDraw : Sp := fun vs H Q _ => ∃ (st l0 : Addr) (m : Int) (n : Nat), vs = [.ref st, .int m] ∧ 0 < m ∧ m < 1000 ∧ Stm H st l0 n ∧ n < 1000000 ∧ ∀ (i : Int) H', KS st l0 H H' → Stm H' st l0 (n + 1) → 0 ≤ i → i < m → Q (.int i) H'
theorem seq0 {α : Type} (xs : List α) (h : 0 < xs.length) : seqIndex? 0 xs.length = some 0 := by
  unfold seqIndex?
  simp [h]
theorem ints_dp {K : PySem.W.Frag} {H : Hp} : ∀ l : List Int, DpAll K H (l.map V.int) (l.map .int)
  | [] => .nil
  | x :: l => .cons (.int x) (ints_dp l)
theorem ints_shaped (l : List Int) : SeqAt.shaped (.list (l.map .int)) = true := by
  unfold SeqAt.shaped
  have g : goodAll (l.map .int) = true := goodAll_iff.mpr fun d hd => by
    obtain ⟨k, hk, rfl⟩ := List.mem_map.mp hd
    rfl
  have d1 : PyData.depthAll (l.map .int) ≤ 0 := depthAll_le fun d hd => by
    obtain ⟨k, hk, rfl⟩ := List.mem_map.mp hd
    simp [PyData.depth]
  rw [PyData.canLay0, goodAll_lay _ g, decide_eq_true (by simp only [PyData.depth]; omega)]; rfl
theorem eqv_ints (l : List Int) : PyData.eqv (.list (l.map .int)) (.list []) = decide (l = []) := by
  cases l with
  | nil => simp [PyData.eqv, PyData.eqvAll]
  | cons x l => simp [PyData.eqv, PyData.eqvAll]
section
variable {P : Program} {w : World} {K : PySem.W.Frag} {mg : Str → Option Value} {base : Heap} {k : Nat}
abbrev nDr : List Str := ["_law_stream", "_law_many", "_law_digit", "_law_mixed"]
theorem scDr : FnScope nDr ["_law_stream", "_law_many"] (defScope (top 39)) := ⟨rfl, rfl, rfl, by decide +kernel, rfl, by decide +kernel, by decide +kernel⟩
theorem ok_draw (D : Def K mg "_law_draw" (top 39) ["_law_stream", "_law_many"]) (T : Txt mg) : Cal P w K mg base 1 "_law_draw" ["_law_stream", "_law_many"] spDraw := by
  refine D.cal scDr (fun vs H Q E h => ?_) (fun f cdv A outer s H vs Q E hr h => ?_)
  · obtain ⟨st, l0, m, n, rfl, _⟩ := h
    rfl
  obtain ⟨st, l0, m, n, rfl, hm0, hm1, hst, hn, k⟩ := h
  refine ⟨_, pss_cons (ps_asg (pe_op op_add (pe_ix ix_list (pv 0) pe_int (fun _ _ => rfl)) pe_int) (pg_sub (pv 0) pe_int set_list))
    (pss_cons (ps_mid (ps_if (PW.pt (pw_and (pt_cmpR op_eq (pe_ix ix_list (pv 0) pe_int (fun _ _ => rfl)) pe_int (nomark _)) (pw_and1 (pt_cmpR (op_neD hr.units) (pe_ix ix_list (pv 0) pe_int (fun _ _ => rfl)) (pe_lst pa_nil) (nomark _)))))
      (pss_cons (ps_asg (pe_bm PySem.F.plainAttrs_list PySem.F.slot_list_pop PySem.F.type_list_pop mt_popAt (pe_ix ix_list (pv 0) pe_int (fun _ _ => rfl)) (pa_cons pe_int pa_nil)) (pg_sub (pv 0) pe_int set_list))
      (pss_one (ps_if (pt_cmpR op_lt (pe_ix ix_list (pv 0) pe_int (fun _ _ => rfl)) (pe_op op_pow pe_int pe_int) (nomark _))
        (pss_cons (ps_asg (pe_op op_mod (pe_callTy call_int1 rfl T.int b_int (pa_cons (pe_op op_add (pe_op op_add (pe_op op_mul (pe_ix ix_list (pv 0) pe_int (fun _ _ => rfl)) pe_int) (pe_ix ix_list (pv 0) pe_int (fun _ _ => rfl))) pe_int) pa_nil)) pe_int) (pg_sub (pv 0) pe_int set_list))
        (pss_one (ps_asg pe_int (pg_sub (pv 0) pe_int set_list)))) pss_nil))) pss_nil))
    (pss_cons (ps_if (pt_cmpR op_gt (pe_ix ix_list (pv 0) pe_int (fun _ _ => rfl)) pe_int (nomark _))
      (pss_cons (ps_set (i := 2) scDr.nd rfl (Or.inl rfl) (pe_op op_mod (pe_callTy call_int1 rfl T.int b_int (pa_cons (pe_ix ix_list (pv 0) pe_int (fun _ _ => rfl)) pa_nil)) (pv 1)))
      (pss_cons (ps_asg (pe_op op_fdiv (pe_ix ix_list (pv 0) pe_int (fun _ _ => rfl)) (pv 1)) (pg_sub (pv 0) pe_int set_list))
      (pss_one (ps_ret (pv 2))))) pss_nil)
    (pss_cons (ps_set (i := 3) scDr.nd rfl (Or.inl rfl) (pe_op op_mod (pe_op op_pow (pe_op op_add (pe_op op_add (pe_ix ix_list (pv 0) pe_int (fun _ _ => rfl)) (pe_op op_mul pe_int (pe_ix ix_list (pv 0) pe_int (fun _ _ => rfl)))) pe_int) pe_int) pe_int))
    (pss_one (ps_ret (pe_op op_mod (pe_op op_mod (pe_op op_pow (pe_op op_add (pe_op op_add (pe_op op_mul (pv 3) pe_int) (pe_op op_mul (pe_op op_mul pe_int (pe_ix ix_list (pv 0) pe_int (fun _ _ => rfl))) (pe_ix ix_list (pv 0) pe_int (fun _ _ => rfl)))) pe_int) pe_int) pe_int) (pv 1))))))), ?_⟩
  obtain ⟨rest, cur, cnt, mix, h1, h2, g1, g2, g3, g4, g5, g6⟩ := hst
  have ne := stm_ne h1 h2
  -- stream[2] = stream[2] + 1
  refine ⟨_, rfl, st, _, _, _, rfl, rfl, SqL.of h1, rfl, _, _, rfl, rfl, _, rfl, st, _, _, 2, rfl, rfl, h1, rfl, ?_⟩
  obtain ⟨A1, eA1⟩ : ∃ A, A = L2.upd H st (.lst [.ref l0, .int cur, .int (cnt + 1), .int mix]) := ⟨_, rfl⟩
  have a1 : A1 st = some (.lst [.ref l0, .int cur, .int (cnt + 1), .int mix]) := by rw [eA1]; exact upd_same
  have a2 : A1 l0 = some (.lst (rest.map V.int)) := by rw [eA1, upd_ne (Ne.symm ne)]; exact h2
  have kA1 : KS st l0 H A1 := by rw [eA1]; exact (KS.refl _ _ _).updS _
  show tSeq _ _ _ _ (L2.upd H st (.lst [.ref l0, .int cur, .int (cnt + 1), .int mix]))
  rw [← eA1]
  clear eA1
  -- the script's next number
  refine ⟨fun σ' H' => σ' = [some (.ref st), some (.int m), none, none] ∧ KS st l0 H H' ∧ Stm H' st l0 (n + 1), ?_, ?_⟩
  · refine ⟨_, rfl, st, _, _, _, rfl, rfl, SqL.of a1, rfl, rfl, _, rfl, ?_⟩
    refine ite2 (fun c => ?_) (fun c => ?_)
    · have c0 : cur = 0 := by
        have := of_decide_eq_true c
        injection this
      refine ⟨_, rfl, st, _, _, _, rfl, rfl, SqL.of a1, rfl, Nat.zero_le _, fun e he => ?_⟩
      have s1 : Same A1 (L2.upd A1 e (.lst [])) := Same.new he _
      refine ⟨.list (rest.map .int), .list [], .lst (SqL.of (s1 _ _ a2)) (ints_dp rest), .lst (SqL.of upd_same) .nil, ints_shaped rest, by decide +kernel, ?_⟩
      rw [eqv_ints]
      refine ⟨_, rfl, ?_⟩
      obtain ⟨B, eB⟩ : ∃ B, B = L2.upd A1 e (.lst []) := ⟨_, rfl⟩
      rw [← eB] at s1 ⊢
      clear eB
      have b1 := s1 _ _ a1
      have b2 := s1 _ _ a2
      have kB : KS st l0 H B := kA1.trans (KS.of s1)
      cases rest with
      | nil => exact ⟨rfl, kB, [], cur, cnt + 1, mix, b1, b2, g1, by omega, by omega, g4, g5, g6⟩
      | cons x r =>
        refine iteNN (fun z => nomatch z) ?_
        -- stream[1] = stream[0].pop(0)
        refine ⟨_, rfl, st, _, _, _, rfl, rfl, SqL.of b1, rfl, .inl ⟨rfl, _, SqL.of b2⟩, l0, _, 0, 0, .int x, rfl, rfl, b2, by decide, by decide, seq0 _ (by rw [List.length_map]; exact Nat.succ_pos _), rfl, ?_⟩
        have p1 : L2.upd B l0 (.lst ((V.int x :: r.map V.int).eraseIdx 0)) st = some (.lst [.ref l0, .int cur, .int (cnt + 1), .int mix]) := by rw [upd_ne ne]; exact b1
        refine ⟨_, rfl, st, _, _, 1, rfl, rfl, p1, rfl, ?_⟩
        have c1 : (L2.upd (L2.upd B l0 (.lst (r.map V.int))) st (.lst [.ref l0, .int x, .int (cnt + 1), .int mix])) st = some (.lst [.ref l0, .int x, .int (cnt + 1), .int mix]) := upd_same
        have c2 : (L2.upd (L2.upd B l0 (.lst (r.map V.int))) st (.lst [.ref l0, .int x, .int (cnt + 1), .int mix])) l0 = some (.lst (r.map V.int)) := by rw [upd_ne (Ne.symm ne), upd_same]
        have kC : KS st l0 H (L2.upd (L2.upd B l0 (.lst (r.map V.int))) st (.lst [.ref l0, .int x, .int (cnt + 1), .int mix])) := (kB.updL _).updS _
        have lr : r.length ≤ 63 := by rw [List.length_cons] at g6; omega
        -- if stream[1] < 10 ** 18
        refine ⟨_, rfl, st, _, _, _, rfl, rfl, SqL.of c1, rfl, 10, 18, rfl, rfl, ⟨by decide, by decide, by decide⟩, _, _, rfl, rfl, _, rfl, ?_⟩
        refine ite2 (fun c => ?_) (fun c => ?_)
        · refine ⟨_, rfl, st, _, _, _, rfl, rfl, SqL.of c1, rfl, _, _, rfl, rfl, .inr ⟨by decide, by decide⟩, _, rfl, st, _, _, _, rfl, rfl, SqL.of c1, rfl, _, _, rfl, rfl, _, _, rfl, rfl, .inl ⟨_, rfl, ?_⟩⟩
          refine ⟨_, _, rfl, rfl, (show (0 : Int) < 2147483647 by decide), ?_⟩
          refine ⟨_, rfl, st, _, _, 3, rfl, rfl, c1, rfl, ?_⟩
          refine ⟨_, rfl, st, _, _, 1, rfl, rfl, upd_same, rfl, ?_⟩
          refine ⟨rfl, (kC.updS _).updS _, r, 0, cnt + 1, (mix * 31 + x + 7) % 2147483647, upd_same, ?_, by omega, by omega, by omega, Int.emod_nonneg _ (by decide), Int.emod_lt_of_pos _ (by decide), lr⟩
          rw [upd_ne (Ne.symm ne), upd_ne (Ne.symm ne)]
          exact c2
        · have hx : (10 : Int) ^ (18 : Int).toNat ≤ x := by
            have := of_decide_eq_false (Bool.eq_false_iff.mpr c)
            omega
          have hx0 : 0 ≤ x := Int.le_trans (by decide) hx
          exact ⟨rfl, kC, r, x, cnt + 1, mix, c1, c2, hx0, by omega, by omega, g4, g5, lr⟩
    · exact ⟨rfl, kA1, rest, cur, cnt + 1, mix, a1, a2, g1, by omega, by omega, g4, g5, g6⟩
  rintro σ' H' ⟨rfl, kH, rest', cur', cnt', mix', f1, f2, f3, f4, f5, f6, f7, f8⟩
  have ne := stm_ne f1 f2
  have hcn : cnt' ≤ 1000001 := by omega
  refine ⟨_, rfl, st, _, _, _, rfl, rfl, SqL.of f1, rfl, _, _, rfl, rfl, _, rfl, ?_⟩
  refine ite2 (fun c => ?_) (fun c => ?_)
  · refine ⟨_, rfl, st, _, _, _, rfl, rfl, SqL.of f1, rfl, .inl ⟨_, rfl, _, rfl, _, _, rfl, rfl, hm0, ?_⟩⟩
    refine ⟨_, rfl, st, _, _, _, rfl, rfl, SqL.of f1, rfl, _, rfl, _, _, rfl, rfl, ⟨hm0, by omega⟩, _, rfl, st, _, _, 1, rfl, rfl, f1, rfl, ?_⟩
    refine ⟨_, rfl, k _ _ (kH.updS _) ⟨rest', cur' / m, cnt', mix', upd_same, ?_, Int.ediv_nonneg f3 (by omega), f4, f5, f6, f7, f8⟩ (Int.emod_nonneg _ (by omega)) (Int.emod_lt_of_pos _ hm0)⟩
    rw [upd_ne (Ne.symm ne)]
    exact f2
  · have e1 : 0 ≤ (mix' + 104729 * cnt' + 17) ^ (5 : Int).toNat % 2147483629 := Int.emod_nonneg _ (by decide)
    have e2 : (mix' + 104729 * cnt' + 17) ^ (5 : Int).toNat % 2147483629 < 2147483629 := Int.emod_lt_of_pos _ (by decide)
    refine ⟨_, rfl, st, _, _, _, rfl, rfl, SqL.of f1, rfl, _, rfl, st, _, _, _, rfl, rfl, SqL.of f1, rfl, _, _, rfl, rfl, .inl ⟨by decide, by decide⟩, _, _, rfl, rfl, _, _, rfl, rfl, _, _, rfl, rfl, ⟨by decide, by decide, by omega⟩, _, _, rfl, rfl, (show (0 : Int) < 2147483629 by decide), ?_⟩
    generalize (mix' + 104729 * cnt' + 17) ^ (5 : Int).toNat % 2147483629 = M at e1 e2 ⊢
    have q0 : 0 ≤ cnt' * cnt' := Int.mul_nonneg f4 f4
    have q1 : cnt' * cnt' ≤ 1000001 * 1000001 := Int.mul_le_mul hcn hcn f4 (by decide)
    have q2 : 40503 * cnt' * cnt' = 40503 * (cnt' * cnt') := Int.mul_assoc _ _ _
    refine ⟨_, rfl, _, _, rfl, rfl, .inr ⟨by decide, by decide⟩, _, rfl, st, _, _, _, rfl, rfl, SqL.of f1, rfl, _, _, rfl, rfl, .inl ⟨by decide, by decide⟩, _, rfl, st, _, _, _, rfl, rfl, SqL.of f1, rfl, _, _, rfl, rfl, .inl ⟨by omega, by omega⟩, _, _, rfl, rfl, _, _, rfl, rfl,
      _, _, rfl, rfl, ⟨by decide, by decide, by rw [q2]; omega⟩, _, _, rfl, rfl, (show (0 : Int) < 1000000007 by decide), _, rfl, _, _, rfl, rfl, hm0, ?_⟩
    exact k _ _ kH ⟨rest', cur', cnt', mix', f1, f2, f3, f4, f5, f6, f7, f8⟩ (Int.emod_nonneg _ (by omega)) (Int.emod_lt_of_pos _ hm0)
end
end VN

/-! _law_path, _law_value, _law_props. -/
namespace VN
open PySem PySem.Spec PyProof.Rows L2

def spLPath (K : PySem.W.Frag) : Sp := fun vs H Q _ => ∃ (st l0 : Addr) (m : Int) (n : Nat), vs = [.ref st, .int m] ∧ 0 ≤ m ∧ m ≤ 2 ∧ Stm H st l0 n ∧ n < 900000 ∧
  ∀ v H' (p : Path), KS st l0 H H' → Stm H' st l0 (n + 3) → Da K H' v (dPath p) → (p.length : Int) ≤ m → (∀ x ∈ p, nmB x = true) → Q v H'
def spLVal (K : PySem.W.Frag) : Sp := fun vs H Q _ => ∃ (st l0 : Addr) (n : Nat), vs = [.ref st] ∧ Stm H st l0 n ∧ n < 800000 ∧ ∀ v H' x, KS st l0 H H' → Stm H' st l0 (n + 8) → Da K H' v (dVal x) → valB x = true → Q v H'
def spLProps (K : PySem.W.Frag) : Sp := fun vs H Q _ => ∃ (st l0 : Addr) (n : Nat), vs = [.ref st] ∧ Stm H st l0 n ∧ n < 700000 ∧ ∀ v H' ps, KS st l0 H H' → Stm H' st l0 (n + 40) → Da K H' v (.tuple ((vPs ps).map dPair)) → PsOk ps → Q v H'
theorem Stm.at {H : Hp} {st l0 : Addr} {n : Nat} (s : Stm H st l0 n) : H st ≠ none ∧ H l0 ≠ none := by
  obtain ⟨rest, cur, cnt, mix, h1, h2, _⟩ := s
  exact ⟨by rw [h1]; exact fun z => (nomatch z), by rw [h2]; exact fun z => (nomatch z)⟩
theorem Stm.updN {H : Hp} {st l0 : Addr} {n : Nat} (s : Stm H st l0 n) {L : Addr} {o : HO} (h1 : L ≠ st) (h2 : L ≠ l0) : Stm (L2.upd H L o) st l0 n := by
  obtain ⟨rest, cur, cnt, mix, f1, f2, f⟩ := s
  exact ⟨rest, cur, cnt, mix, by rw [upd_ne (Ne.symm h1)]; exact f1, by rw [upd_ne (Ne.symm h2)]; exact f2, f⟩
theorem new_ne {H : Hp} {a b : Addr} (h : H a = none) (h2 : H b ≠ none) : a ≠ b := fun e => h2 (by rw [← e]; exact h)
/-- the item of a list of three, of four -/
theorem at3 {a b c : V} {i : Int} (h0 : 0 ≤ i) (h1 : i < 3) : ∃ x, atI [a, b, c] i = some x ∧ (x = a ∨ x = b ∨ x = c) := by
  have : i = 0 ∨ i = 1 ∨ i = 2 := by omega
  rcases this with rfl | rfl | rfl
  · exact ⟨a, rfl, .inl rfl⟩
  · exact ⟨b, rfl, .inr (.inl rfl)⟩
  · exact ⟨c, rfl, .inr (.inr rfl)⟩
theorem at4 {a b c d : V} {i : Int} (h0 : 0 ≤ i) (h1 : i < 4) : ∃ x, atI [a, b, c, d] i = some x ∧ (x = a ∨ x = b ∨ x = c ∨ x = d) := by
  have : i = 0 ∨ i = 1 ∨ i = 2 ∨ i = 3 := by omega
  rcases this with rfl | rfl | rfl | rfl
  · exact ⟨a, rfl, .inl rfl⟩
  · exact ⟨b, rfl, .inr (.inl rfl)⟩
  · exact ⟨c, rfl, .inr (.inr (.inl rfl))⟩
  · exact ⟨d, rfl, .inr (.inr (.inr rfl))⟩
theorem nm_a : nmB "a" = true := by decide +kernel
theorem nm_ab : nmB "ab" = true := by decide +kernel
theorem nm_kid : nmB "kid" = true := by decide +kernel
theorem nm_on : nmB "on" = true := by decide +kernel
theorem nm_rank : nmB "rank" = true := by decide +kernel
theorem nm_x : nmB "x" = true := by decide +kernel
theorem nm_y : nmB "y" = true := by decide +kernel
theorem nm_zz : nmB "zz" = true := by decide +kernel
theorem nm_qq : nmB "qq" = true := by decide +kernel
section
variable {P : Program} {w : World} {K : PySem.W.Frag} {mg : Str → Option Value} {base : Heap} {k : Nat}
abbrev nLp : List Str := ["_law_stream", "_law_most", "_law_k"]
theorem scLp : FnScope nLp ["_law_stream", "_law_most"] (defScope (top 40)) := ⟨rfl, rfl, rfl, by decide +kernel, rfl, by decide +kernel, by decide +kernel⟩
theorem ok_lpath (D : Def K mg "_law_path" (top 40) ["_law_stream", "_law_most"]) (T : Txt mg) (C : Cal P w K mg base 1 "_law_draw" ["_law_stream", "_law_many"] spDraw) : Cal P w K mg base 2 "_law_path" ["_law_stream", "_law_most"] (spLPath K) := by
  refine D.cal scLp (fun vs H Q E h => ?_) (fun f cdv A outer s H vs Q E hr h => ?_)
  · obtain ⟨st, l0, m, n, rfl, _⟩ := h
    rfl
  obtain ⟨st, l0, m, n, rfl, hm0, hm2, hst, hn, k⟩ := h
  refine ⟨_, pss_one (ps_ret (pe_callTy call_tuple_of rfl T.tuple b_tuple (pa_cons (pe_lc (own := [("_law_k", 2)]) (g := gName 2) (tt := tYes) rfl scLp.nd (pi_range1 rfl T.range (pa_cons (pe_c C hr rfl (pa_cons (pv 0) (pa_cons (pe_op op_add (pv 1) pe_int) pa_nil))) pa_nil)) (blkOk_by (N := nLp) (sc := defScope (top 40)) (by decide +kernel))
        (fun _ _ _ _ _ => pg_name (i := 2) scLp.nd rfl (Or.inl rfl)) (fun _ _ _ _ _ => pts_nil)
        (fun _ _ _ _ _ => pe_ix (r := rIxL K) ix_list (pe_lst (pa_cons pe_str (pa_cons pe_str (pa_cons pe_str pa_nil)))) (pe_c C hr rfl (pa_cons (pv 0) (pa_cons pe_int pa_nil))) (fun _ _ => rfl))) pa_nil))), ?_⟩
  refine ⟨_, rfl, _, rfl, _, _, rfl, rfl, st, l0, m + 1, n, rfl, by omega, by omega, hst, by omega, fun j H1 k1 st1 j0 j1 => ?_⟩
  refine ⟨j, rfl, by omega, by omega, fun L hL => ?_⟩
  have Lst := new_ne hL st1.at.1
  have Ll0 := new_ne hL st1.at.2
  refine lc_it (walk_range (lo := 0) (n := j.toNat)) (fun i H' => ∃ cs : Path, cs.length = i ∧ (∀ x ∈ cs, nmB x = true) ∧ LcP L (fun _ v (c : Str) => v = .str c) cs (fun H' => KS st l0 H1 H' ∧ Stm H' st l0 (n + 1 + i)) H')
    ⟨[], rfl, (fun _ h => by cases h), LcP.start ⟨KS.of (Same.new hL _), st1.sm (Same.new hL _)⟩⟩ (fun _ _ _ _ => trivial) (fun i x H2 H3 hi p y => ?_) (fun H2 p => ?_)
  · obtain ⟨rfl, rfl⟩ := y
    obtain ⟨cs, hcs, hnm, p⟩ := p
    obtain ⟨ys, hL2, hys, ks, stm⟩ := id p
    refine ⟨rfl, by show 3 ≤ sizeLine; decide, fun q hq => ?_⟩
    have s4 : Same H3 (L2.upd H3 q (.lst [.str "a", .str "ab", .str "kid"])) := Same.new hq _
    have st4 := stm.sm s4
    have qst := new_ne hq stm.at.1
    have ql0 := new_ne hq stm.at.2
    refine ⟨_, rfl, st, l0, 3, n + 1 + i, rfl, by decide, by decide, st4, by omega, fun z H5 k5 st5 z0 z1 => ?_⟩
    obtain ⟨x, hx, hx3⟩ := at3 (a := .str "a") (b := .str "ab") (c := .str "kid") z0 z1
    refine ⟨q, _, z, x, rfl, rfl, SqL.of (k5 _ _ qst ql0 upd_same), hx, ?_⟩
    obtain ⟨nmx, ex, hnx⟩ : ∃ nmx : Str, x = .str nmx ∧ nmB nmx = true := by
      rcases hx3 with h | h | h
      · exact ⟨_, h, nm_a⟩
      · exact ⟨_, h, nm_ab⟩
      · exact ⟨_, h, nm_kid⟩
    have hL5 : H5 L = H3 L := (k5 _ _ Lst Ll0 (s4 _ _ hL2)).trans hL2.symm
    have st6 : ∀ o, Stm (L2.upd H5 L (.lst o)) st l0 (n + 1 + (i + 1)) := fun o => st5.updN Lst Ll0
    have k6 : ∀ o, KS st l0 H1 (L2.upd H5 L (.lst o)) := fun o b u h1 h2 e => by
      rw [upd_ne (ne_of_none e hL)]
      exact k5 _ _ h1 h2 (s4 _ _ (ks _ _ h1 h2 e))
    obtain ⟨acc, g1, g2, g3⟩ := p.push (Iv' := fun H' => KS st l0 H1 H' ∧ Stm H' st l0 (n + 1 + (i + 1))) (y := x) (c := nmx) hL5 (by omega) (fun _ _ _ h => h) (fun _ => ex) (fun o => ⟨k6 o, st6 o⟩)
    refine ⟨acc, g1, g2, cs ++ [nmx], by rw [List.length_append, hcs]; rfl, fun y hy => ?_, g3⟩
    rcases List.mem_append.mp hy with h | h
    · exact hnm y h
    · rw [List.mem_singleton.mp h]; exact hnx
  · obtain ⟨cs, hcs, hnm, ys, hL2, hys, ks, stm⟩ := p
    rw [strs_of hys] at hL2
    refine ⟨L, _, rfl, .inl ⟨SqL.of hL2, fun r hr => ?_⟩⟩
    have s3 : Same H2 (L2.upd H2 r (.tup (cs.map V.str))) := Same.new hr _
    exact k _ _ cs (k1.trans (ks.trans (KS.of s3))) ((stm.sm s3).le (by omega)) (daPath (SqT.of upd_same) fun x hx => nmB_ok (hnm x hx)) (by omega) hnm
abbrev nLv : List Str := ["_law_stream", "_law_way"]
theorem scLv : FnScope nLv ["_law_stream"] (defScope (top 41)) := ⟨rfl, rfl, rfl, by decide +kernel, rfl, by decide +kernel, by decide +kernel⟩
theorem ok_lval (D : Def K mg "_law_value" (top 41) ["_law_stream"]) (T : Txt mg) (C : Cal P w K mg base 1 "_law_draw" ["_law_stream", "_law_many"] spDraw) (CP : Cal P w K mg base 2 "_law_path" ["_law_stream", "_law_most"] (spLPath K)) : Cal P w K mg base 3 "_law_value" ["_law_stream"] (spLVal K) := by
  refine D.cal scLv (fun vs H Q E h => ?_) (fun f cdv A outer s H vs Q E hr h => ?_)
  · obtain ⟨st, l0, n, rfl, _⟩ := h
    rfl
  obtain ⟨st, l0, n, rfl, hst, hn, k⟩ := h
  have hr1 : Room 1 _ := hr.mono (by decide)
  refine ⟨_, pss_cons (ps_set (i := 1) scLv.nd rfl (Or.inl rfl) (pe_c C hr1 rfl (pa_cons (pv 0) (pa_cons pe_int pa_nil))))
    (pss_cons (ps_if (pt_cmpR op_lt (pv 1) pe_int (nomark _)) (pss_one (ps_ret (pe_op op_sub (pe_c C hr1 rfl (pa_cons (pv 0) (pa_cons pe_int pa_nil))) pe_int))) pss_nil)
    (pss_cons (ps_if (pt_cmpR op_eq (pv 1) pe_int (nomark _)) (pss_one (ps_ret (pe_ix ix_list (pe_lst (pa_cons (pe_op op_sub (pe_op op_pow pe_int pe_int) pe_int) (pa_cons (pe_op op_sub pe_int (pe_op op_pow pe_int pe_int)) (pa_cons pe_int (pa_cons pe_int pa_nil))))) (pe_c C hr1 rfl (pa_cons (pv 0) (pa_cons pe_int pa_nil))) (fun _ _ => rfl)))) pss_nil)
    (pss_one (ps_ret (pe_ix ix_list (pe_lst (pa_cons pe_str (pa_cons pe_str (pa_cons (pe_tup (pa_cons pe_str (pa_cons (pe_c CP hr rfl (pa_cons (pv 0) (pa_cons pe_int pa_nil))) pa_nil))) pa_nil)))) (pe_c C hr1 rfl (pa_cons (pv 0) (pa_cons pe_int pa_nil))) (fun _ _ => rfl)))))), ?_⟩
  refine ⟨_, rfl, st, l0, 8, n, rfl, by decide, by decide, hst, by omega, fun way H1 k1 st1 w0 w1 => ?_⟩
  refine ⟨_, rfl, _, _, rfl, rfl, _, rfl, ite2 (fun c => ?_) (fun c => ?_)⟩
  · refine ⟨_, rfl, st, l0, 5, n + 1, rfl, by decide, by decide, st1, by omega, fun z H2 k2 st2 z0 z1 => ?_⟩
    exact ⟨_, _, rfl, rfl, k _ _ (.int (z - 2)) (k1.trans k2) (st2.le (by omega)) daInt rfl⟩
  refine ⟨_, rfl, rfl, _, rfl, ite2 (fun c => ?_) (fun c => ?_)⟩
  · refine ⟨10, 30, rfl, rfl, ⟨by decide, by decide, by decide⟩, _, _, rfl, rfl, 10, 30, rfl, rfl, ⟨by decide, by decide, by decide⟩, _, _, rfl, rfl, by show 4 ≤ sizeLine; decide, fun q hq => ?_⟩
    have s2 : Same H1 (L2.upd H1 q (.lst [.int ((10 : Int) ^ (30 : Int).toNat - 1), .int (1 - (10 : Int) ^ (30 : Int).toNat), .int 17, .int 1000])) := Same.new hq _
    have st2 := st1.sm s2
    refine ⟨_, rfl, st, l0, 4, n + 1, rfl, by decide, by decide, st2, by omega, fun z H3 k3 st3 z0 z1 => ?_⟩
    obtain ⟨x, hx, hx3⟩ := at4 (a := .int ((10 : Int) ^ (30 : Int).toNat - 1)) (b := .int (1 - (10 : Int) ^ (30 : Int).toNat)) (c := .int 17) (d := .int 1000) z0 z1
    refine ⟨q, _, z, x, rfl, rfl, SqL.of (k3 _ _ (new_ne hq st1.at.1) (new_ne hq st1.at.2) upd_same), hx, ?_⟩
    have kk : KS st l0 H H3 := k1.trans ((KS.of s2).trans k3)
    have fin : ∀ i : Int, x = .int i → Q x H3 := fun i e => by
      rw [e]
      exact k _ _ (.int i) kk (st3.le (by omega)) daInt rfl
    rcases hx3 with h | h | h | h
    · exact fin _ h
    · exact fin _ h
    · exact fin _ h
    · exact fin _ h
  · refine ⟨_, rfl, st, l0, 2, n + 1, rfl, by decide, by decide, st1, by omega, fun v H2 p k2 st2 dv hpl hpn => ?_⟩
    refine ⟨by show 2 ≤ sizeLine; decide, fun t ht => ?_⟩
    have s3 : Same H2 (L2.upd H2 t (.tup [.str "link", v])) := Same.new ht _
    refine ⟨by show 3 ≤ sizeLine; decide, fun q hq => ?_⟩
    have s4 : Same (L2.upd H2 t (.tup [.str "link", v])) (L2.upd (L2.upd H2 t (.tup [.str "link", v])) q (.lst [.str "on", .str "rank", .ref t])) := Same.new hq _
    have st3 := (st2.sm s3).sm s4
    refine ⟨_, rfl, st, l0, 3, n + 1 + 3, rfl, by decide, by decide, st3, by omega, fun z H5 k5 st5 z0 z1 => ?_⟩
    have st2' := st2.sm s3
    obtain ⟨x, hx, hx3⟩ := at3 (a := .str "on") (b := .str "rank") (c := .ref t) z0 z1
    refine ⟨q, _, z, x, rfl, rfl, SqL.of (k5 _ _ (new_ne hq st2'.at.1) (new_ne hq st2'.at.2) upd_same), hx, ?_⟩
    have kk : KS st l0 H H5 := (k1.trans k2).trans ((KS.of (s3.trans s4)).trans k5)
    rcases hx3 with h | h | h
    · rw [h]; exact k _ _ (.nm "on") kk (st5.le (by omega)) (daStr (nmB_ok nm_on)) nm_on
    · rw [h]; exact k _ _ (.nm "rank") kk (st5.le (by omega)) (daStr (nmB_ok nm_rank)) nm_rank
    · rw [h]
      have dt : Da K (L2.upd H2 t (.tup [.str "link", v])) (.ref t) (dVal (.link p)) := daTup (ds := [.str "link", dPath p]) (SqT.of upd_same) (.cons (daStr (by decide +kernel)) (.cons (dv.sm s3) .nil))
      refine k _ _ (.link p) kk (st5.le (by omega)) ((dt.sm s4).tk (st3.tk k5)) ?_
      show (decide (p.length ≤ 8) && p.all nmB) = true
      rw [decide_eq_true (by omega), List.all_eq_true.mpr hpn]; rfl
/-! ### _law_props -/
def four : List Str := ["rank", "x", "y", "zz"]
theorem four_asc : Asc four := by
  unfold Asc four
  decide +kernel
theorem four_nm : ∀ x ∈ four, nmB x = true := by
  unfold four
  intro x hx
  simp only [List.mem_cons, List.not_mem_nil, or_false] at hx
  rcases hx with rfl | rfl | rfl | rfl
  · exact nm_rank
  · exact nm_x
  · exact nm_y
  · exact nm_zz
abbrev nLr : List Str := ["_law_stream", "_law_name"]
theorem scLr : FnScope nLr ["_law_stream"] (defScope (top 42)) := ⟨rfl, rfl, rfl, by decide +kernel, rfl, by decide +kernel, by decide +kernel⟩
theorem ok_lprops (D : Def K mg "_law_props" (top 42) ["_law_stream"]) (T : Txt mg) (C : Cal P w K mg base 1 "_law_draw" ["_law_stream", "_law_many"] spDraw) (CV : Cal P w K mg base 3 "_law_value" ["_law_stream"] (spLVal K)) : Cal P w K mg base 4 "_law_props" ["_law_stream"] (spLProps K) := by
  refine D.cal scLr (fun vs H Q E h => ?_) (fun f cdv A outer s H vs Q E hr h => ?_)
  · obtain ⟨st, l0, n, rfl, _⟩ := h
    rfl
  obtain ⟨st, l0, n, rfl, hst, hn, k⟩ := h
  have hr1 : Room 1 _ := hr.mono (by decide)
  refine ⟨_, pss_one (ps_ret (pe_callTy call_tuple_of rfl T.tuple b_tuple (pa_cons (pe_lc (own := [("_law_name", 1)]) (g := gName 1) rfl scLr.nd (pi_list (pe_lst (pa_cons pe_str (pa_cons pe_str (pa_cons pe_str (pa_cons pe_str pa_nil)))))) (blkOk_by (N := nLr) (sc := defScope (top 42)) (by decide +kernel))
        (fun _ _ _ _ _ => pg_name (i := 1) scLr.nd rfl (Or.inl rfl)) (fun _ _ _ _ _ => pts_one (pt_cmpR op_eq (pe_c C hr1 rfl (pa_cons (pv 0) (pa_cons pe_int pa_nil))) pe_int (nomark _)))
        (fun _ _ _ _ _ => pe_tup (pa_cons (pv 1) (pa_cons (pe_c CV hr rfl (pa_cons (pv 0) pa_nil)) pa_nil)))) pa_nil))), ?_⟩
  refine ⟨by show 4 ≤ sizeLine; decide, fun q hq => ?_⟩
  have s1 : Same H (L2.upd H q (.lst (four.map V.str))) := Same.new hq _
  obtain ⟨H1, eH1⟩ : ∃ A, A = L2.upd H q (.lst (four.map V.str)) := ⟨_, rfl⟩
  have q1 : H1 q = some (.lst (four.map V.str)) := by rw [eH1]; exact upd_same
  have st1 : Stm H1 st l0 n := by rw [eH1]; exact hst.sm s1
  have qst := new_ne hq hst.at.1
  have ql0 := new_ne hq hst.at.2
  have k1 : KS st l0 H H1 := by rw [eH1]; exact KS.of s1
  refine ⟨q, rfl, ⟨four.map V.str, SqL.of upd_same⟩, fun L hL => ?_⟩
  have eL : L2.upd H q (.lst [.str "rank", .str "x", .str "y", .str "zz"]) = H1 := eH1.symm
  have hL : H1 L = none := by rw [← eL]; exact hL
  have Lst := new_ne hL st1.at.1
  have Ll0 := new_ne hL st1.at.2
  have Lq : L ≠ q := new_ne hL (by rw [q1]; exact fun z => nomatch z)
  have start : LcP L (fun H v (c : Str × PVal) => Da K H v (dPair (c.1, dVal c.2))) [] (fun H' => KS st l0 H1 H' ∧ Stm H' st l0 (n + 9 * 0)) (L2.upd H1 L (.lst [])) := LcP.start ⟨KS.of (Same.new hL _), st1.sm (Same.new hL _)⟩
  rw [eL]
  refine lc_it (walk_list (K := K) (a := q) (xs := four.map V.str)) (fun i H' => ∃ ps : List (Str × PVal), (ps.map (·.1)).Sublist (four.take i) ∧ (∀ x ∈ ps, valB x.2 = true) ∧ LcP L (fun H v (c : Str × PVal) => Da K H v (dPair (c.1, dVal c.2))) ps (fun H' => KS st l0 H1 H' ∧ Stm H' st l0 (n + 9 * i)) H')
    ⟨[], List.Sublist.slnil, (fun _ h => by cases h), start⟩ (fun i H' _ p => ?_) (fun i x H2 H3 hi p y => ?_) (fun H2 p => ?_)
  · obtain ⟨_, _, _, _, _, _, ks, _⟩ := p
    exact SqL.of (ks _ _ qst ql0 q1)
  · obtain ⟨rfl, hy⟩ := y
    obtain ⟨ps, hsub, hvl, p⟩ := p
    obtain ⟨ys, hL2, hys, ks, stm⟩ := id p
    obtain ⟨nm, hnm, rfl⟩ : ∃ nm, four[i]? = some nm ∧ x = V.str nm := by
      rw [List.getElem?_map] at hy
      cases e : four[i]? with
      | none => rw [e] at hy; cases hy
      | some r => rw [e] at hy; exact ⟨r, rfl, (Option.some.inj hy).symm⟩
    have hi4 : i < 4 := by rw [List.length_map] at hi; exact hi
    have ex : four.take (i + 1) = four.take i ++ [nm] := by rw [List.take_add_one, hnm]; rfl
    refine ⟨rfl, _, rfl, st, l0, 3, n + 9 * i, rfl, by decide, by decide, stm, by omega, fun z H5 k5 st5 z0 z1 => ?_⟩
    have tk5 := stm.tk k5
    have L5 : H5 L = some (.lst ys) := k5 _ _ Lst Ll0 hL2
    refine ⟨rfl, _, rfl, ite2 (fun c => ?_) (fun c => ?_)⟩
    · refine ⟨_, rfl, _, rfl, st, l0, n + 9 * i + 1, rfl, st5, by omega, fun v H6 x k6 st6 dv hv => ?_⟩
      refine ⟨by show 2 ≤ sizeLine; decide, fun t ht => ?_⟩
      have s7 : Same H6 (L2.upd H6 t (.tup [.str nm, v])) := Same.new ht _
      have L6 : H6 L = some (.lst ys) := k6 _ _ Lst Ll0 L5
      have st7 := st6.sm s7
      have tk6 := st5.tk k6
      have Lt : L ≠ t := ne_of_none L6 ht
      have L7 := s7 _ _ L6
      have dp : Da K (L2.upd H6 t (.tup [.str nm, v])) (.ref t) (dPair (nm, dVal x)) := daTup (ds := [.str nm, dVal x]) (SqT.of upd_same) (.cons (daStr (nmB_ok (four_nm nm (List.mem_of_getElem? hnm)))) (.cons (dv.sm s7) .nil))
      have tkU : ∀ o, TK (L2.upd H6 t (.tup [.str nm, v])) (L2.upd (L2.upd H6 t (.tup [.str nm, v])) L (.lst o)) := fun o => TK.upd L7 (fun _ z => nomatch z) (fun _ _ z => nomatch z)
      obtain ⟨acc, g1, g2, g3⟩ := p.push (H4 := L2.upd H6 t (.tup [.str nm, v])) (Iv' := fun H' => KS st l0 H1 H' ∧ Stm H' st l0 (n + 9 * (i + 1))) (y := .ref t) (c := (nm, x)) (L7.trans hL2.symm) (by have := hsub.length_le; rw [List.length_map, List.length_take] at this; omega)
        (fun o v c h => (((h.tk tk5).tk tk6).sm s7).tk (tkU o)) (fun o => dp.tk (tkU o)) (fun o => ⟨fun b u h1 h2 e => by
          rw [upd_ne (ne_of_none e hL)]
          exact s7 _ _ (k6 _ _ h1 h2 (k5 _ _ h1 h2 (ks _ _ h1 h2 e))), (st7.updN Lst Ll0).le (by omega)⟩)
      refine ⟨acc, g1, g2, ps ++ [(nm, x)], ?_, fun y hy => ?_, g3⟩
      · rw [ex, List.map_append]
        exact List.Sublist.append hsub (List.Sublist.refl _)
      · rcases List.mem_append.mp hy with h | h
        · exact hvl y h
        · rw [List.mem_singleton.mp h]; exact hv
    · refine ⟨ps, ?_, hvl, ys, L5, Paired.mapP hys fun v c h => h.tk tk5, fun b u h1 h2 e => k5 _ _ h1 h2 (ks _ _ h1 h2 e), st5.le (by omega)⟩
      rw [ex]
      exact hsub.trans (List.sublist_append_left _ _)
  · obtain ⟨ps, hsub, hvl, ys, hL2, hys, ks, stm⟩ := p
    refine ⟨L, ys, rfl, .inl ⟨SqL.of hL2, fun r hr => ?_⟩⟩
    have s3 : Same H2 (L2.upd H2 r (.tup ys)) := Same.new hr _
    have hsub : (ps.map (·.1)).Sublist four := hsub.trans (List.take_sublist _ _)
    refine k _ _ ps (k1.trans (ks.trans (KS.of s3))) ((stm.sm s3).le (by show n + 9 * 4 ≤ n + 40; omega)) (daTup (SqT.of upd_same) ?_) ⟨fun p hp => four_nm _ (hsub.subset (List.mem_map.mpr ⟨p, hp, rfl⟩)), hvl, List.Pairwise.sublist hsub four_asc, ?_⟩
    · have e : (vPs ps).map dPair = ps.map fun c => dPair (c.1, dVal c.2) := by unfold vPs; rw [List.map_map]; rfl
      rw [e]
      exact paired_map2 (F := fun v d => Da K (L2.upd H2 r (.tup ys)) v d) (f := fun c : Str × PVal => dPair (c.1, dVal c.2)) (Paired.mapP hys fun v c h => h.sm s3)
    · have := hsub.length_le
      rw [List.length_map] at this
      have e4 : four.length = 4 := rfl
      omega
end
end VN

/-! _law_tree, _law_nodes. -/
namespace VN
open PySem PySem.Spec PyProof.Rows L2

def mkKids : List (Str × Tree) → Kids
  | [] => .nil
  | (n, t) :: r => .cons n t.ps t.ks (mkKids r)
theorem kids_mk : ∀ l : List (Str × Tree), kids (mkKids l) = l
  | [] => rfl
  | (n, t) :: r => by rw [mkKids, kids, kids_mk r]
def ct : Nat → Nat
  | 0 => 0
  | m + 1 => 3 * (1 + ct m) + 40
/-- all but the stream and the count of nodes left -/
def K3 (st l0 lf : Addr) (H H' : Hp) : Prop := ∀ b u, b ≠ st → b ≠ l0 → b ≠ lf → H b = some u → H' b = some u
theorem K3.refl (st l0 lf : Addr) (H : Hp) : K3 st l0 lf H H := fun _ _ _ _ _ e => e
theorem K3.trans {st l0 lf : Addr} {H H1 H2 : Hp} (a : K3 st l0 lf H H1) (b : K3 st l0 lf H1 H2) : K3 st l0 lf H H2 := fun c u h1 h2 h3 e => b c u h1 h2 h3 (a c u h1 h2 h3 e)
theorem K3.of {st l0 lf : Addr} {H H' : Hp} (k : KS st l0 H H') : K3 st l0 lf H H' := fun b u h1 h2 _ e => k b u h1 h2 e
theorem Stm.tk3 {H H' : Hp} {st l0 lf : Addr} {n : Nat} {z : V} (s : Stm H st l0 n) (hl : H lf = some (.lst [z])) (k : K3 st l0 lf H H') : TK H H' := by
  obtain ⟨rest, cur, cnt, mix, h1, h2, _⟩ := s
  intro b xs h
  rcases h with h | ⟨o, h⟩
  · exact .inl (k _ _ (ne_of h h1 (by intro z; cases z)) (ne_of h h2 (by intro z; cases z)) (ne_of h hl (by intro z; cases z)) h)
  · exact .inr ⟨o, k _ _ (ne_of h h1 (by intro z; cases z)) (ne_of h h2 (by intro z; cases z)) (ne_of h hl (by intro z; cases z)) h⟩
def three : List Str := ["a", "ab", "kid"]
theorem three_asc : Asc three := by
  unfold Asc three
  decide +kernel
theorem three_nm : ∀ x ∈ three, nmB x = true := by
  unfold three
  intro x hx
  simp only [List.mem_cons, List.not_mem_nil, or_false] at hx
  rcases hx with rfl | rfl | rfl
  · exact nm_a
  · exact nm_ab
  · exact nm_kid
def spLTree (K : PySem.W.Frag) (m : Nat) : Sp := fun vs H Q _ => ∃ (st l0 lf : Addr) (d : Nat) (z : Int) (n : Nat), m = d + 1 ∧ vs = [.ref st, .ref lf, .int (d : Int)] ∧ H lf = some (.lst [.int z]) ∧ lf ≠ st ∧ lf ≠ l0 ∧ Stm H st l0 n ∧ n + ct m < 600000 ∧
  ∀ v H' t z', K3 st l0 lf H H' → H' lf = some (.lst [.int z']) → Stm H' st l0 (n + ct m) → Da K H' v (dTree t) → TOk m t → Q v H'
section
variable {P : Program} {w : World} {K : PySem.W.Frag} {mg : Str → Option Value} {base : Heap} {k : Nat}
abbrev nLt : List Str := ["_law_stream", "_law_left", "_law_deep", "_law_children", "_law_name"]
theorem scLt : FnScope nLt ["_law_stream", "_law_left", "_law_deep"] (defScope (top 43)) := ⟨rfl, rfl, rfl, by decide +kernel, rfl, by decide +kernel, by decide +kernel⟩
theorem ok_ltree {m : Nat} (D : Def K mg "_law_tree" (top 43) ["_law_stream", "_law_left", "_law_deep"]) (T : Txt mg) (C : Cal P w K mg base 1 "_law_draw" ["_law_stream", "_law_many"] spDraw) (CP : Cal P w K mg base 4 "_law_props" ["_law_stream"] (spLProps K))
    (CT : Cal P w K mg base (m + 4) "_law_tree" ["_law_stream", "_law_left", "_law_deep"] (spLTree K m)) : Cal P w K mg base (m + 5) "_law_tree" ["_law_stream", "_law_left", "_law_deep"] (spLTree K (m + 1)) := by
  refine D.cal scLt (fun vs H Q E h => ?_) (fun f cdv A outer s H vs Q E hr h => ?_)
  · obtain ⟨st, l0, lf, d, z, n, _, rfl, _⟩ := h
    rfl
  obtain ⟨st, l0, lf, d, z, n, em, rfl, hlf, lfst, lfl0, hst, hn, k⟩ := h
  obtain rfl : d = m := by omega
  have hr1 : Room 1 _ := hr.mono (by omega)
  have hr4 : Room 4 _ := hr.mono (by omega)
  refine ⟨_, pss_cons (ps_asg (pe_op op_sub (pe_ix ix_list (pv 1) pe_int (fun _ _ => rfl)) pe_int) (pg_sub (pv 1) pe_int set_list))
    (pss_cons (ps_set (i := 3) scLt.nd rfl (Or.inl rfl) (pe_lst pa_nil))
    (pss_cons (ps_for PassesOwn.never rfl (pi_list (pe_lst (pa_cons pe_str (pa_cons pe_str (pa_cons pe_str pa_nil))))) (pg_name (i := 4) scLt.nd rfl (Or.inl rfl))
      (pss_one (ps_if (PW.pt (pw_and (pt_cmpR op_gt (pv 2) pe_int (nomark _)) (pw_and (pt_cmpR op_gt (pe_ix ix_list (pv 1) pe_int (fun _ _ => rfl)) pe_int (nomark _)) (pw_and1 (pt_cmpR op_eq (pe_c C hr1 rfl (pa_cons (pv 0) (pa_cons pe_int pa_nil))) pe_int (nomark _))))))
        (pss_one (ps_expr (pe_bm PySem.F.plainAttrs_list PySem.F.slot_list_append PySem.F.type_list_append mt_append (pv 3)
          (pa_cons (pe_tup (pa_cons (pv 4) (pa_cons (pe_c CT hr rfl (pa_cons (pv 0) (pa_cons (pv 1) (pa_cons (pe_op op_sub (pv 2) pe_int) pa_nil)))) pa_nil))) pa_nil)))) pss_nil)))
    (pss_one (ps_ret (pe_tup (pa_cons (pe_c CP hr4 rfl (pa_cons (pv 0) pa_nil)) (pa_cons (pe_callTy call_tuple_of rfl T.tuple b_tuple (pa_cons (pv 3) pa_nil)) pa_nil))))))), ?_⟩
  -- left[0] = left[0] - 1
  refine ⟨_, rfl, lf, _, _, _, rfl, rfl, SqL.of hlf, rfl, _, _, rfl, rfl, _, rfl, lf, _, _, 0, rfl, rfl, hlf, rfl, ?_⟩
  obtain ⟨H1, eH1⟩ : ∃ A, A = L2.upd H lf (.lst [.int (z - 1)]) := ⟨_, rfl⟩
  have lf1 : H1 lf = some (.lst [.int (z - 1)]) := by rw [eH1]; exact upd_same
  have st1 : Stm H1 st l0 n := by rw [eH1]; exact hst.updN lfst lfl0
  have k1 : K3 st l0 lf H H1 := by rw [eH1]; exact fun b u _ _ h3 e => by rw [upd_ne h3]; exact e
  have e1 : L2.upd H lf (.lst [.int (z - 1)]) = H1 := eH1.symm
  show tSeq _ _ _ _ (L2.upd H lf (.lst [.int (z - 1)]))
  rw [e1]
  clear eH1 e1
  -- children = []
  refine ⟨Nat.zero_le _, fun D hD => ?_⟩
  have s2 : Same H1 (L2.upd H1 D (.lst [])) := Same.new hD _
  have Dst := new_ne hD st1.at.1
  have Dl0 := new_ne hD st1.at.2
  have Dlf : D ≠ lf := new_ne hD (by rw [lf1]; exact fun z => nomatch z)
  refine ⟨by show 3 ≤ sizeLine; decide, fun q hq => ?_⟩
  have s3 : Same (L2.upd H1 D (.lst [])) (L2.upd (L2.upd H1 D (.lst [])) q (.lst (three.map V.str))) := Same.new hq _
  obtain ⟨H2, eH2⟩ : ∃ A, A = L2.upd (L2.upd H1 D (.lst [])) q (.lst (three.map V.str)) := ⟨_, rfl⟩
  have s13 : Same H1 H2 := by rw [eH2]; exact s2.trans s3
  have q2 : H2 q = some (.lst (three.map V.str)) := by rw [eH2]; exact upd_same
  have D2 : H2 D = some (.lst []) := by rw [eH2]; exact s3 _ _ upd_same
  have st2 := st1.sm s13
  have lf2 := s13 _ _ lf1
  have qst : q ≠ st := new_ne hq (st1.sm s2).at.1
  have ql0 : q ≠ l0 := new_ne hq (st1.sm s2).at.2
  have qlf : q ≠ lf := new_ne hq (by rw [s2 _ _ lf1]; exact fun z => nomatch z)
  have qD : q ≠ D := new_ne hq (by rw [upd_same]; exact fun z => nomatch z)
  have hqL : SqL K (L2.upd (L2.upd H1 D (.lst [])) q (.lst [.str "a", .str "ab", .str "kid"])) q (three.map V.str) := SqL.of upd_same
  refine ⟨q, rfl, ⟨_, hqL⟩, ?_⟩
  have e2 : L2.upd (L2.upd H1 D (.lst [])) q (.lst [.str "a", .str "ab", .str "kid"]) = H2 := eH2.symm
  rw [e2]
  clear eH2 e2 hqL
  refine for_it (walk_list (K := K) (a := q) (xs := three.map V.str)) (fun i σ H' => ∃ o4 ys z2, ∃ ks : List (Str × Tree), σ = [some (.ref st), some (.ref lf), some (.int (d : Int)), some (.ref D), o4] ∧ (∀ b u, b ≠ st → b ≠ l0 → b ≠ lf → b ≠ D → H2 b = some u → H' b = some u) ∧ H' lf = some (.lst [.int z2]) ∧
      Stm H' st l0 (n + i * (1 + ct d)) ∧ H' D = some (.lst ys) ∧ Paired (fun v (c : Str × Tree) => Da K H' v (dPair (c.1, dTree c.2))) ys ks ∧ (ks.map (·.1)).Sublist (three.take i) ∧ ∀ x ∈ ks, TOk d x.2)
    ⟨_, [], _, [], rfl, fun _ _ _ _ _ _ e => e, lf2, by rw [Nat.zero_mul]; exact st2, D2, .nil, List.Sublist.slnil, fun _ h => by cases h⟩ (fun i σ H' _ p => ?_) (fun i x σ H3 H4 hi p y => ?_) (fun σ H3 p => ?_)
  · obtain ⟨_, _, _, _, _, kk, _⟩ := p
    exact SqL.of (kk _ _ qst ql0 qlf qD q2)
  · obtain ⟨o4, ys, z2, ks, rfl, kk, lf4, st4, D4, hys, hsub, htk⟩ := p
    obtain ⟨rfl, hy⟩ := y
    obtain ⟨nm, hnm, rfl⟩ : ∃ nm, three[i]? = some nm ∧ x = V.str nm := by
      rw [List.getElem?_map] at hy
      cases e : three[i]? with
      | none => rw [e] at hy; cases hy
      | some r => rw [e] at hy; exact ⟨r, rfl, (Option.some.inj hy).symm⟩
    have hi3 : i < 3 := by rw [List.length_map] at hi; exact hi
    have ex : three.take (i + 1) = three.take i ++ [nm] := by rw [List.take_add_one, hnm]; rfl
    have esuc : n + (i + 1) * (1 + ct d) = n + i * (1 + ct d) + (1 + ct d) := by rw [Nat.succ_mul]; omega
    have ect : ct (d + 1) = 3 * (1 + ct d) + 40 := rfl
    have hi2 : i * (1 + ct d) ≤ 2 * (1 + ct d) := Nat.mul_le_mul_right _ (by omega)
    -- a turn that makes no child
    have skip : ∀ {H5 : Hp} {j : Nat}, KS st l0 H4 H5 → j ≤ 1 → Stm H5 st l0 (n + i * (1 + ct d) + j) → ∃ o4 ys z2, ∃ ks : List (Str × Tree), [some (V.ref st), some (V.ref lf), some (V.int (d : Int)), some (V.ref D), some (V.str nm)] = [some (.ref st), some (.ref lf), some (.int (d : Int)), some (.ref D), o4] ∧ (∀ b u, b ≠ st → b ≠ l0 → b ≠ lf → b ≠ D → H2 b = some u → H5 b = some u) ∧ H5 lf = some (.lst [.int z2]) ∧
        Stm H5 st l0 (n + (i + 1) * (1 + ct d)) ∧ H5 D = some (.lst ys) ∧ Paired (fun v (c : Str × Tree) => Da K H5 v (dPair (c.1, dTree c.2))) ys ks ∧ (ks.map (·.1)).Sublist (three.take (i + 1)) ∧ ∀ x ∈ ks, TOk d x.2 := fun {H5 j} k5 hj st5 =>
      ⟨_, ys, z2, ks, rfl, fun b u h1 h2 h3 h4 e => k5 _ _ h1 h2 (kk b u h1 h2 h3 h4 e), k5 _ _ lfst lfl0 lf4, st5.le (by rw [esuc]; omega), k5 _ _ Dst Dl0 D4, Paired.mapP hys fun v c h => h.tk (st4.tk k5), by rw [ex]; exact hsub.trans (List.sublist_append_left _ _), htk⟩
    refine ⟨_, rfl, _, _, rfl, rfl, _, rfl, ite2 (fun c1 => ?_) (fun c1 => ?_)⟩
    · have hd0 : (0 : Int) < (d : Int) := of_decide_eq_true c1
      refine ⟨_, rfl, lf, _, _, _, rfl, rfl, SqL.of lf4, rfl, _, _, rfl, rfl, _, rfl, ite2 (fun c2 => ?_) (fun c2 => ?_)⟩
      · refine ⟨_, rfl, st, l0, 2, _, rfl, by decide, by decide, st4, by omega, fun r H5 k5 st5 r0 r1 => ?_⟩
        refine ⟨rfl, _, rfl, ite2 (fun c3 => ?_) (fun c3 => ?_)⟩
        · have D5 := k5 _ _ Dst Dl0 D4
          have lf5 := k5 _ _ lfst lfl0 lf4
          have tk5 := st4.tk k5
          refine ⟨_, rfl, .inl ⟨rfl, _, SqL.of D5⟩, _, rfl, _, rfl, _, rfl, _, rfl, _, _, rfl, rfl, st, l0, lf, d - 1, z2, n + i * (1 + ct d) + 1, by omega, by rw [show ((d - 1 : Nat) : Int) = (d : Int) - 1 by omega]; rfl, lf5, lfst, lfl0, st5, by omega, fun v H6 t z6 k6 lf6 st6 dv ht6 => ?_⟩
          refine ⟨by show 2 ≤ sizeLine; decide, fun tt htt => ?_⟩
          have s7 : Same H6 (L2.upd H6 tt (.tup [.str nm, v])) := Same.new htt _
          have D6 := k6 _ _ Dst Dl0 Dlf D5
          have D7 := s7 _ _ D6
          have tk6 := st5.tk3 lf5 k6
          have hlen := hsub.length_le
          rw [List.length_map, List.length_take] at hlen
          refine ⟨D, ys, .ref tt, rfl, rfl, D7, by rw [Paired.length hys, sizeLine_eq]; omega, ?_⟩
          have tkU : TK (L2.upd H6 tt (.tup [.str nm, v])) (L2.upd (L2.upd H6 tt (.tup [.str nm, v])) D (.lst (ys ++ [.ref tt]))) := TK.upd D7 (fun _ z => nomatch z) (fun _ _ z => nomatch z)
          have dp : Da K (L2.upd H6 tt (.tup [.str nm, v])) (.ref tt) (dPair (nm, dTree t)) := daTup (ds := [.str nm, dTree t]) (SqT.of upd_same) (.cons (daStr (nmB_ok (three_nm nm (List.mem_of_getElem? hnm)))) (.cons (dv.sm s7) .nil))
          refine ⟨_, ys ++ [.ref tt], z6, ks ++ [(nm, t)], rfl, fun b u h1 h2 h3 h4 e => ?_, ?_, ?_, upd_same, Paired.snoc (Paired.mapP hys fun v c h => (((h.tk tk5).tk tk6).sm s7).tk tkU) (dp.tk tkU), ?_, fun x hx => ?_⟩
          · rw [upd_ne h4]
            exact s7 _ _ (k6 _ _ h1 h2 h3 (k5 _ _ h1 h2 (kk b u h1 h2 h3 h4 e)))
          · rw [upd_ne (Ne.symm Dlf)]
            exact s7 _ _ lf6
          · exact ((st6.sm s7).updN Dst Dl0).le (by rw [esuc]; omega)
          · rw [ex, List.map_append]
            exact List.Sublist.append hsub (List.Sublist.refl _)
          · rcases List.mem_append.mp hx with h | h
            · exact htk x h
            · rw [List.mem_singleton.mp h]; exact ht6
        · exact skip k5 (Nat.le_refl _) st5
      · exact skip (j := 0) (KS.refl _ _ _) (Nat.zero_le _) st4
    · exact skip (j := 0) (KS.refl _ _ _) (Nat.zero_le _) st4
  obtain ⟨o4, ys, z2, ks, rfl, kk, lf3, st3, D3, hys, hsub, htk⟩ := p
  have hsub : (ks.map (·.1)).Sublist three := hsub.trans (List.take_sublist _ _)
  have e3 : (three.map V.str).length = 3 := rfl
  rw [e3] at st3
  have ect : ct (d + 1) = 3 * (1 + ct d) + 40 := rfl
  refine ⟨_, rfl, st, l0, _, rfl, st3, by omega, fun v H4 ps k4 st4 dv hps => ?_⟩
  have D4 := k4 _ _ Dst Dl0 D3
  have tk4 := st3.tk k4
  refine ⟨_, rfl, D, ys, rfl, .inl ⟨SqL.of D4, fun r hr => ?_⟩⟩
  have s5 : Same H4 (L2.upd H4 r (.tup ys)) := Same.new hr _
  refine ⟨by show 2 ≤ sizeLine; decide, fun r2 hr2 => ?_⟩
  have s6 : Same (L2.upd H4 r (.tup ys)) (L2.upd (L2.upd H4 r (.tup ys)) r2 (.tup [v, .ref r])) := Same.new hr2 _
  have s46 := s5.trans s6
  have hlen := hsub.length_le
  rw [List.length_map] at hlen
  have e4 : three.length = 3 := rfl
  refine k _ _ ⟨ps, mkKids ks⟩ z2 (fun b u h1 h2 h3 e => s46 _ _ (k4 _ _ h1 h2 (kk b u h1 h2 h3 (ne_of_none (k1 b u h1 h2 h3 e) hD) (s13 _ _ (k1 b u h1 h2 h3 e))))) (s46 _ _ (k4 _ _ lfst lfl0 lf3)) ((st4.sm s46).le (by omega)) ?_ ⟨hps, ?_, ?_, fun x hx => ?_⟩
  · refine daTup (ds := [.tuple ((vPs ps).map dPair), .tuple ((kNP (mkKids ks)).map dPair)]) (SqT.of upd_same) (.cons (dv.sm s46) (.cons ?_ .nil))
    refine (daTup (SqT.of upd_same) ?_ : Da K (L2.upd H4 r (.tup ys)) (.ref r) (.tuple ((kNP (mkKids ks)).map dPair))).sm s6
    have e : (kNP (mkKids ks)).map dPair = ks.map fun c => dPair (c.1, dTree c.2) := by rw [kNP_kids, kids_mk, List.map_map]; rfl
    rw [e]
    exact paired_map2 (F := fun v d => Da K (L2.upd H4 r (.tup ys)) v d) (f := fun c : Str × Tree => dPair (c.1, dTree c.2)) (Paired.mapP hys fun v c h => (h.tk tk4).sm s5)
  · show Asc ((kids (mkKids ks)).map (·.1))
    rw [kids_mk]
    exact List.Pairwise.sublist hsub three_asc
  · show (kids (mkKids ks)).length ≤ 3
    rw [kids_mk]
    omega
  · have hx : x ∈ kids (mkKids ks) := hx
    rw [kids_mk] at hx
    exact ⟨three_nm _ (hsub.subset (List.mem_map.mpr ⟨x, hx, rfl⟩)), htk x hx⟩
theorem ltree_all (D : Def K mg "_law_tree" (top 43) ["_law_stream", "_law_left", "_law_deep"]) (T : Txt mg) (C : Cal P w K mg base 1 "_law_draw" ["_law_stream", "_law_many"] spDraw) (CP : Cal P w K mg base 4 "_law_props" ["_law_stream"] (spLProps K)) :
    ∀ m : Nat, Cal P w K mg base (m + 4) "_law_tree" ["_law_stream", "_law_left", "_law_deep"] (spLTree K m)
  | 0 => (D.zero fun vs H Q E h => by
    obtain ⟨_, _, _, d, _, _, h, _⟩ := h
    omega).mono (Nat.zero_le _)
  | m + 1 => ok_ltree D T C CP (ltree_all D T C CP m)
end
end VN

/-! _law_nodes, _law_key, _law_entry. -/
namespace VN
open PySem PySem.Spec PyProof.Rows L2

theorem pathsK_pre (p : Path) : ∀ (ks : Kids) (q : Path), pathsK ks (p ++ q) = (pathsK ks q).map (p ++ ·)
  | .nil, _ => rfl
  | .cons n ps sub rest, q => by
    rw [pathsK, pathsK, List.map_append, List.map_cons, List.append_assoc, pathsK_pre p sub (q ++ [n]), pathsK_pre p rest q]
theorem pathsT_pre (p : Path) (t : Tree) : pathsT t p = (pathsT t []).map (p ++ ·) := by
  unfold pathsT
  rw [List.map_cons, List.append_nil]
  have := pathsK_pre p t.ks []
  rw [List.append_nil] at this
  rw [this]
def spLNodes (K : PySem.W.Frag) (n : Nat) : Sp := fun vs H Q _ => ∃ v t, vs = [v] ∧ Da K H v (dTree t) ∧ TOk n t ∧ ∀ L ys H', Same H H' → H L = none → H' L = some (.lst ys) → Paired (Da K H') ys ((pathsT t []).map dPath) → Q (.ref L) H'
section
variable {P : Program} {w : World} {K : PySem.W.Frag} {mg : Str → Option Value} {base : Heap} {k : Nat}
abbrev nLn : List Str := ["_law_tree_here", "_law_found", "_law_name", "_law_child", "_law_path_here"]
theorem scLn : FnScope nLn ["_law_tree_here"] (defScope (top 44)) := ⟨rfl, rfl, rfl, by decide +kernel, rfl, by decide +kernel, by decide +kernel⟩
theorem ok_lnodes {n : Nat} (hn6 : n < 6) (D : Def K mg "_law_nodes" (top 44) ["_law_tree_here"]) (C : Cal P w K mg base n "_law_nodes" ["_law_tree_here"] (spLNodes K n)) : Cal P w K mg base (n + 1) "_law_nodes" ["_law_tree_here"] (spLNodes K (n + 1)) := by
  refine D.cal scLn (fun vs H Q E h => ?_) (fun f cdv A outer s H vs Q E hr h => ?_)
  · obtain ⟨v, t, rfl, _⟩ := h
    rfl
  obtain ⟨v, t, rfl, hd, ht, q⟩ := h
  refine ⟨_, pss_cons (ps_set (i := 1) scLn.nd rfl (Or.inl rfl) (pe_lst (pa_cons (pe_tup pa_nil) pa_nil)))
    (pss_cons (ps_for PassesOwn.never rfl (pi_tup (pe_ix ix_tup (pv 0) pe_int (fun _ _ => rfl))) (pg_tup rfl (pgs_cons (pg_name (i := 2) scLn.nd rfl (Or.inr rfl)) (pgs_cons (pg_name (i := 3) scLn.nd rfl (Or.inl rfl)) pgs_nil)))
      (pss_one (ps_expr (pe_bm PySem.F.plainAttrs_list PySem.F.slot_list_extend PySem.F.type_list_extend mt_extend (pv 1)
        (pa_cons (pe_lc (own := [("_law_path_here", 4)]) (g := gName 4) (tt := tYes) rfl scLn.nd (pi_list (pe_c C hr rfl (pa_cons (pv 3) pa_nil))) (blkOk_by (N := nLn) (sc := defScope (top 44)) (by decide +kernel))
          (fun _ _ _ _ _ => pg_name (i := 4) scLn.nd rfl (Or.inl rfl)) (fun _ _ _ _ _ => pts_nil)
          (fun _ _ _ _ _ => pe_op (r := rCatA K) op_catA (pe_tup (pa_cons (pv 2) pa_nil)) (pv 4))) pa_nil)))))
    (pss_one (ps_ret (pv 1)))), ?_⟩
  obtain ⟨a, x1, x2, rfl, hs, d1, d2⟩ := (show Da K H v (.tuple [.tuple ((vPs t.ps).map dPair), .tuple ((kNP t.ks).map dPair)]) from hd).tup2
  refine ⟨Nat.zero_le _, fun e0 he0 => ⟨by show 1 ≤ sizeLine; decide, fun L hL => ?_⟩⟩
  have s1 : Same H (L2.upd H e0 (.tup [])) := Same.new he0 _
  have s2 : Same (L2.upd H e0 (.tup [])) (L2.upd (L2.upd H e0 (.tup [])) L (.lst [.ref e0])) := Same.new hL _
  have s12 := s1.trans s2
  have hLH : H L = none := s1.free hL
  obtain ⟨b2, xs2, rfl, hb2, hp2⟩ := d2.tupI
  refine ⟨_, rfl, a, _, _, _, rfl, rfl, SqT.sm s12 hs, rfl, b2, rfl, ⟨_, SqT.sm s12 hb2⟩, ?_⟩
  have lx2 : xs2.length = (kids t.ks).length := by rw [Paired.length hp2, List.length_map, kNP_kids, List.length_map]
  have d0 : Da K (L2.upd H e0 (.tup [])) (.ref e0) (dPath []) := daPath (p := []) (SqT.of upd_same) (fun _ h => by cases h)
  refine for_it (walk_tup (xs := xs2)) (fun i σ H' => ∃ o2 o3 ys, σ = [some (.ref a), some (.ref L), o2, o3, none] ∧ KB L H H' ∧ H' L = some (.lst ys) ∧ Paired (Da K H') ys (([] :: ((kids t.ks).take i).flatMap fun x => pathsT x.2 ([] ++ [x.1])).map dPath))
    ⟨_, _, [.ref e0], rfl, (KB.of s1).upd _, upd_same, .cons (d0.sm s2) .nil⟩ (fun i σ H' _ p => ?_) (fun i x σ H2 H3 hi p y => ?_) (fun σ H' p => ?_)
  · obtain ⟨_, _, _, _, kb, _⟩ := p
    exact SqT.sm (kb.all hLH) hb2
  · obtain ⟨rfl, hy⟩ := y
    obtain ⟨o2, o3, ys, rfl, kb, hL2, hys⟩ := p
    obtain ⟨e, he⟩ : ∃ e, (kids t.ks)[i]? = some e := ⟨_, List.getElem?_eq_getElem (by omega)⟩
    have he2 : (kNP t.ks)[i]? = some (e.1, dTree e.2) := by rw [kNP_kids, List.getElem?_map, he]; rfl
    obtain ⟨b, z2, h1, h2, h3⟩ := pairs_at hp2 he2
    rw [hy] at h1
    cases h1
    have sm := kb.all hLH
    have hte := ht.2.2.2 e (List.mem_of_getElem? he)
    refine ⟨b, _, rfl, SqT.sm sm h2, rfl, .str e.1, [z2], rfl, z2, [], rfl, rfl, ?_⟩
    refine ⟨_, rfl, .inl ⟨rfl, _, SqL.of hL2⟩, ?_⟩
    refine ⟨_, rfl, z2, e.2, rfl, h3.sm sm, hte.2, fun M zs H4 s4 hM0 hM hzs => ?_⟩
    have lzs : (pathsT e.2 []).length = zs.length := by rw [Paired.length hzs, List.length_map]
    have lpz := paths_len (p := []) hte.2
    have hpcn := pc_small n (by omega)
    refine ⟨M, rfl, ⟨_, SqL.of hM⟩, fun R hR => ?_⟩
    refine lc_map (walk_list (xs := zs)) (pathsT e.2 []) (fun r => [e.1] ++ r) (fun H v c => Da K H v (dPath c)) (fun D H H' ys v c hD k h => h.tk (k.tk hD)) hR lzs (by omega) (fun H2 s1 => s1.seq (SqL.of hM)) yat_same (fun j y r H5 H6 N hr2 s5 hy2 m => ?_) (fun H5 ws s5 hR5 hws => ?_)
    · obtain ⟨rfl, hy2⟩ := hy2
      obtain ⟨dd, hdd, hyd⟩ := LiI.paired_get hzs hy2
      rw [List.getElem?_map, hr2] at hdd
      cases hdd
      refine ⟨rfl, _, rfl, by show 1 ≤ sizeLine; decide, fun c hc => ?_⟩
      have s7 : Same H6 (L2.upd H6 c (.tup [.str e.1])) := Same.new hc _
      refine ⟨_, rfl, cat_path (p := [e.1]) (one_path (nmB_ok hte.1)) ((hyd.sm s5).sm s7) ?_ fun u H8 s8 hu => m _ _ (s7.trans s8) hu⟩
      obtain ⟨r', er, hrl, _⟩ := paths_in hte.2 r (List.mem_of_getElem? hr2)
      have er : r = r' := er
      subst er
      show 1 + r.length ≤ 1000
      omega
    · have s45 := s4.trans s5
      have hL5 := s45 _ _ hL2
      have lws : ws.length ≤ pc n := by
        rw [Paired.length hws, List.length_map]
        exact lpz
      have lys : ys.length ≤ 1 + 3 * pc n := by
        rw [Paired.length hys, List.length_map, List.length_cons]
        have h1 := flat_le (fun x : Str × Tree => pathsT x.2 ([] ++ [x.1])) (pc n) ((kids t.ks).take i) fun x hx => paths_len (ht.2.2.2 x (List.mem_of_mem_take hx)).2
        have h2 : ((kids t.ks).take i).length * pc n ≤ 3 * pc n := Nat.mul_le_mul_right _ (by rw [List.length_take]; have := ht.2.2.1; omega)
        omega
      refine ⟨L, R, ys, ws, rfl, rfl, hL5, hR5, by rw [sizeLine_eq]; omega, ?_⟩
      have tk : TK H5 (L2.upd H5 L (.lst (ys ++ ws))) := ((KB.refl L H5).upd _).tk hL5
      refine ⟨_, _, ys ++ ws, rfl, ((kb.same s45).upd _), upd_same, ?_⟩
      have ex : (kids t.ks).take (i + 1) = (kids t.ks).take i ++ [e] := by rw [List.take_add_one, he]; rfl
      rw [ex, List.flatMap_append, ← List.cons_append, List.map_append]
      refine paired_append (Paired.mapP hys fun v c h => (h.sm s45).tk tk) ?_
      rw [List.flatMap_cons, List.flatMap_nil, List.append_nil, pathsT_pre ([] ++ [e.1]) e.2]
      exact paired_map2 (Paired.mapP hws fun v c h => h.tk tk)
  · obtain ⟨o2, o3, ys, rfl, kb, hL2, hys⟩ := p
    refine ⟨_, rfl, ?_⟩
    rw [lx2, List.take_length, ← pathsK_kids] at hys
    exact q L ys _ (kb.all hLH) hLH hL2 hys
theorem lnodes_all (D : Def K mg "_law_nodes" (top 44) ["_law_tree_here"]) : ∀ n : Nat, n ≤ 6 → Cal P w K mg base n "_law_nodes" ["_law_tree_here"] (spLNodes K n)
  | 0, _ => D.zero fun vs H Q E h => by
    obtain ⟨v, t, _, _, h, _⟩ := h
    exact h.elim
  | n + 1, h => ok_lnodes (by omega) D (lnodes_all D n (by omega))
end
end VN

/-! _law_key, _law_entry. -/
namespace VN
open PySem PySem.Spec PyProof.Rows L2

/-- a test whose answer is told in between -/
def tMidT (t : TT) : TT := fun σ H Q => ∃ M : Bool → Hp → Prop, t σ H M ∧ ∀ b H', M b H' → Q b H'
theorem pt_mid {X : Cx} {e : Expr} {t : TT} (h : L2.PT X e t) : L2.PT X e (tMidT t) := by
  refine ⟨fun pins s σ H Q I hw => ?_⟩
  obtain ⟨M, hw, k⟩ := hw
  exact thn (h.run pins s σ H _ I hw) fun b s1 ⟨H', I2, q⟩ => ⟨H', I2, k _ _ q⟩
def spLEnt (K : PySem.W.Frag) : Sp := fun vs H Q _ => ∃ (st l0 lp : Addr) (ys : List V) (ps : List Path) (n : Nat), vs = [.ref st, .ref lp] ∧ H lp = some (.lst ys) ∧ lp ≠ st ∧ lp ≠ l0 ∧ Paired (Da K H) ys (ps.map dPath) ∧ ps ≠ [] ∧ ps.length ≤ 900 ∧ (∀ p ∈ ps, p.length ≤ 4 ∧ ∀ x ∈ p, nmB x = true) ∧ Stm H st l0 n ∧ n < 500000 ∧
  ∀ v H' e, KS st l0 H H' → Stm H' st l0 (n + 700) → Da K H' v e.data → EOk e → Q v H'
section
variable {P : Program} {w : World} {K : PySem.W.Frag} {mg : Str → Option Value} {base : Heap} {k : Nat}
abbrev nLk2 : List Str := ["_law_entry_here"]
theorem scLk2 : FnScope nLk2 ["_law_entry_here"] (defScope (top 45)) := ⟨rfl, rfl, rfl, by decide +kernel, rfl, by decide +kernel, by decide +kernel⟩
theorem ok_lkey (D : Def K mg "_law_key" (top 45) ["_law_entry_here"]) : Cal P w K mg base 1 "_law_key" ["_law_entry_here"] (spKey K) := by
  refine D.cal scLk2 (fun vs H Q E h => ?_) (fun f cdv A outer s H vs Q E hr h => ?_)
  · obtain ⟨v, e, rfl, _⟩ := h
    rfl
  obtain ⟨v, e, rfl, hd, he, q⟩ := h
  refine ⟨_, pss_cons (ps_if (pt_cmpR op_in_seq (pe_ix ix_tup (pv 0) pe_int (fun _ _ => rfl)) (pe_tup (pa_cons pe_str (pa_cons pe_str pa_nil))) (by rfl))
    (pss_one (ps_ret (pe_tup (pa_cons pe_str (pa_cons (pe_ix ix_tup (pv 0) pe_int (fun _ _ => rfl)) (pa_cons (pe_ix ix_tup (pv 0) pe_int (fun _ _ => rfl)) pa_nil)))))) pss_nil) (pss_one (ps_ret (pe_slice sl_tupA (pv 0) po_none (po_some pe_int)))), ?_⟩
  have key3 : ∀ {H1 : Hp} {p : Path} {n : Str} {x2 : V}, Same H H1 → Da K H x2 (dPath p) → nmB n = true → ∀ r, H1 r = none → e.key = .tup [.text "prop", .tup (p.map .text), .text n] → Q (.ref r) (L2.upd H1 r (.tup [.str "prop", x2, .str n])) := fun {H1 p n x2} s1 d2 hn r hr e1 => by
    have s2 : Same H1 (L2.upd H1 r (.tup [.str "prop", x2, .str n])) := Same.new hr _
    refine q _ _ (s1.trans s2) ⟨key_ok he, ⟨_, rfl⟩, ?_⟩
    rw [e1]
    show Dp K _ _ (.tuple [.str "prop", .tuple (NestedKey.datas (p.map .text)), .str n])
    rw [datas_text]
    exact (daTup (SqT.of upd_same) (.cons (daStr (by decide +kernel)) (.cons (d2.sm (s1.trans s2)) (.cons (daStr (nmB_ok hn)) .nil)))).dp
  have key2 : ∀ {H1 : Hp} {p : Path} {a : Str} {x2 : V}, Same H H1 → Da K H x2 (dPath p) → PyData.strOk a = true → ∀ r, SqT K H1 r [.str a, x2] → e.key = .tup [.text a, .tup (p.map .text)] → Q (.ref r) H1 := fun {H1 p a x2} s1 d2 ha r hr e1 => by
    refine q _ _ s1 ⟨key_ok he, ⟨_, rfl⟩, ?_⟩
    rw [e1]
    show Dp K _ _ (.tuple [.str a, .tuple (NestedKey.datas (p.map .text))])
    rw [datas_text]
    exact (daTup hr (.cons (daStr ha) (.cons (d2.sm s1) .nil))).dp
  cases e with
  | hide p =>
    obtain ⟨a, x1, x2, rfl, hs, d1, d2⟩ := (show Da K H v (.tuple [.str "hide", dPath p]) from hd).tup2
    obtain rfl := d1.strI
    refine ⟨_, rfl, a, _, _, _, rfl, rfl, hs, rfl, by show 2 ≤ sizeLine; decide, fun c hc => ?_⟩
    have s1 : Same H (L2.upd H c (.tup [.str "set", .str "drop"])) := Same.new hc _
    refine ⟨c, _, rfl, .inr (SqT.of upd_same), rfl, rfl, false, by decide +kernel, ?_⟩
    refine ⟨_, rfl, 2, rfl, a, _, rfl, SqT.sm s1 hs, fun _ => key2 s1 d2 (by decide +kernel) a (SqT.sm s1 hs) rfl, fun h => absurd ⟨rfl, rfl⟩ h⟩
  | put p t =>
    obtain ⟨a, x1, x2, x3, rfl, hs, d1, d2, d3⟩ := (show Da K H v (.tuple [.str "put", dPath p, dTree t]) from hd).tup3
    obtain rfl := d1.strI
    refine ⟨_, rfl, a, _, _, _, rfl, rfl, hs, rfl, by show 2 ≤ sizeLine; decide, fun c hc => ?_⟩
    have s1 : Same H (L2.upd H c (.tup [.str "set", .str "drop"])) := Same.new hc _
    refine ⟨c, _, rfl, .inr (SqT.of upd_same), rfl, rfl, false, by decide +kernel, ?_⟩
    refine ⟨_, rfl, 2, rfl, a, _, rfl, SqT.sm s1 hs, fun h => absurd (show (2 : Nat) = 3 from h.2) (by decide), fun _ r hr => ?_⟩
    have s2 : Same (L2.upd H c (.tup [.str "set", .str "drop"])) (L2.upd (L2.upd H c (.tup [.str "set", .str "drop"])) r (.tup [.str "put", x2])) := Same.new hr _
    exact key2 (s1.trans s2) d2 (by decide +kernel) r (SqT.of upd_same) rfl
  | drop p n =>
    obtain ⟨a, x1, x2, x3, rfl, hs, d1, d2, d3⟩ := (show Da K H v (.tuple [.str "drop", dPath p, .str n]) from hd).tup3
    obtain rfl := d1.strI
    obtain rfl := d3.strI
    refine ⟨_, rfl, a, _, _, _, rfl, rfl, hs, rfl, by show 2 ≤ sizeLine; decide, fun c hc => ?_⟩
    have s1 : Same H (L2.upd H c (.tup [.str "set", .str "drop"])) := Same.new hc _
    have hs1 := SqT.sm s1 hs
    refine ⟨c, _, rfl, .inr (SqT.of upd_same), rfl, rfl, true, by decide +kernel, ?_⟩
    exact ⟨_, rfl, a, _, _, _, rfl, rfl, hs1, rfl, _, rfl, a, _, _, _, rfl, rfl, hs1, rfl, by show 3 ≤ sizeLine; decide, fun r hr => key3 s1 d2 he.2 r hr rfl⟩
  | set p n v =>
    obtain ⟨a, x1, x2, x3, x4, rfl, hs, d1, d2, d3, d4⟩ := (show Da K H _ (.tuple [.str "set", dPath p, .str n, dVal v]) from hd).tup4
    obtain rfl := d1.strI
    obtain rfl := d3.strI
    refine ⟨_, rfl, a, _, _, _, rfl, rfl, hs, rfl, by show 2 ≤ sizeLine; decide, fun c hc => ?_⟩
    have s1 : Same H (L2.upd H c (.tup [.str "set", .str "drop"])) := Same.new hc _
    have hs1 := SqT.sm s1 hs
    refine ⟨c, _, rfl, .inr (SqT.of upd_same), rfl, rfl, true, by decide +kernel, ?_⟩
    exact ⟨_, rfl, a, _, _, _, rfl, rfl, hs1, rfl, _, rfl, a, _, _, _, rfl, rfl, hs1, rfl, by show 3 ≤ sizeLine; decide, fun r hr => key3 s1 d2 he.2.1 r hr rfl⟩
abbrev nLe : List Str := ["_law_stream", "_law_paths", "_law_path_here", "_law_way", "_law_name"]
theorem scLe : FnScope nLe ["_law_stream", "_law_paths"] (defScope (top 46)) := ⟨rfl, rfl, rfl, by decide +kernel, rfl, by decide +kernel, by decide +kernel⟩
theorem ok_lent (D : Def K mg "_law_entry" (top 46) ["_law_stream", "_law_paths"]) (T : Txt mg) (C : Cal P w K mg base 1 "_law_draw" ["_law_stream", "_law_many"] spDraw) (CP : Cal P w K mg base 2 "_law_path" ["_law_stream", "_law_most"] (spLPath K)) (CV : Cal P w K mg base 3 "_law_value" ["_law_stream"] (spLVal K))
    (CT : Cal P w K mg base 7 "_law_tree" ["_law_stream", "_law_left", "_law_deep"] (spLTree K 3)) : Cal P w K mg base 8 "_law_entry" ["_law_stream", "_law_paths"] (spLEnt K) := by
  refine D.cal scLe (fun vs H Q E h => ?_) (fun f cdv A outer s H vs Q E hr h => ?_)
  · obtain ⟨st, l0, lp, ys, ps, n, rfl, _⟩ := h
    rfl
  obtain ⟨st, l0, lp, ys, ps, n, rfl, hlp, lpst, lpl0, hys, hps0, hpsl, hps, hst, hn, k⟩ := h
  have hr1 : Room 1 _ := hr.mono (by decide)
  have hr2 : Room 2 _ := hr.mono (by decide)
  have hr3 : Room 3 _ := hr.mono (by decide)
  refine ⟨_, pss_cons (ps_set (i := 2) scLe.nd rfl (Or.inl rfl) (pe_ix ix_list (pv 1) (pe_c C hr1 rfl (pa_cons (pv 0) (pa_cons (pe_callB c_len rfl T.len b_len (pa_cons (pv 1) pa_nil)) pa_nil))) (fun _ _ => rfl)))
    (pss_cons (ps_mid (ps_if (PW.pt (pw_and (pt_cmpR op_eq (pe_c C hr1 rfl (pa_cons (pv 0) (pa_cons pe_int pa_nil))) pe_int (nomark _)) (pw_and1 (pt_cmpR op_lt (pe_callB c_len rfl T.len b_len (pa_cons (pv 2) pa_nil)) pe_int (nomark _)))))
      (pss_one (ps_set (i := 2) scLe.nd rfl (Or.inl rfl) (pe_op op_catA (pv 2) (pe_c CP hr2 rfl (pa_cons (pv 0) (pa_cons pe_int pa_nil)))))) pss_nil))
    (pss_cons (ps_set (i := 3) scLe.nd rfl (Or.inl rfl) (pe_c C hr1 rfl (pa_cons (pv 0) (pa_cons pe_int pa_nil))))
    (pss_cons (ps_if (pt_mid (PW.pt (pw_or (pt_cmpR op_lt (pv 3) pe_int (nomark _)) (pw_or1 (pt_cmpR (op_eqD hr.units) (pv 2) (pe_tup pa_nil) (nomark _))))))
      (pss_cons (ps_set (i := 4) scLe.nd rfl (Or.inl rfl) (pe_ix ix_list (pe_lst (pa_cons pe_str (pa_cons pe_str (pa_cons pe_str (pa_cons pe_str pa_nil))))) (pe_c C hr1 rfl (pa_cons (pv 0) (pa_cons pe_int pa_nil))) (fun _ _ => rfl)))
      (pss_one (ps_ret (pe_ifExp (pt_cmpR op_eq (pv 3) pe_int (nomark _)) (pe_tup (pa_cons pe_str (pa_cons (pv 2) (pa_cons (pv 4) pa_nil)))) (pe_tup (pa_cons pe_str (pa_cons (pv 2) (pa_cons (pv 4) (pa_cons (pe_c CV hr3 rfl (pa_cons (pv 0) pa_nil)) pa_nil))))))))) pss_nil)
    (pss_cons (ps_if (pt_cmpR op_eq (pv 3) pe_int (nomark _)) (pss_one (ps_ret (pe_tup (pa_cons pe_str (pa_cons (pv 2) pa_nil))))) pss_nil)
    (pss_one (ps_ret (pe_tup (pa_cons pe_str (pa_cons (pv 2) (pa_cons (pe_c CT hr rfl (pa_cons (pv 0) (pa_cons (pe_lst (pa_cons (pe_op op_add pe_int (pe_c C hr1 rfl (pa_cons (pv 0) (pa_cons pe_int pa_nil)))) pa_nil)) (pa_cons pe_int pa_nil)))) pa_nil)))))))))), ?_⟩
  have lys : ys.length = ps.length := by rw [Paired.length hys, List.length_map]
  have lps : 0 < ps.length := List.length_pos_iff.mpr hps0
  -- path = paths[draw(stream, len(paths))]
  refine ⟨_, rfl, _, rfl, _, rfl, lp, ys, rfl, .inl (SqL.of hlp), st, l0, (ys.length : Int), n, rfl, by omega, by omega, hst, by omega, fun z H1 k1 st1 z0 z1 => ?_⟩
  have tk1 := hst.tk k1
  obtain ⟨j, hj⟩ : ∃ j : Nat, z = (j : Int) := ⟨z.toNat, by omega⟩
  subst hj
  have hjl : j < ys.length := by omega
  obtain ⟨p0, hp0⟩ : ∃ p0, ps[j]? = some p0 := ⟨_, List.getElem?_eq_getElem (by omega)⟩
  have hyj : ys[j]? = some ys[j] := List.getElem?_eq_getElem hjl
  have dp0 : Da K H ys[j] (dPath p0) := by
    obtain ⟨dd, hdd, hyd⟩ := LiI.paired_get hys hyj
    rw [List.getElem?_map, hp0] at hdd
    cases hdd
    exact hyd
  have hp0m := hps p0 (List.mem_of_getElem? hp0)
  refine ⟨lp, ys, (j : Int), ys[j], rfl, rfl, SqL.of (k1 _ _ lpst lpl0 hlp), atI_nat hyj, ?_⟩
  -- perhaps one step on
  refine ⟨fun σ' H' => ∃ u p, σ' = [some (.ref st), some (.ref lp), some u, none, none] ∧ KS st l0 H H' ∧ Stm H' st l0 (n + 5) ∧ Da K H' u (dPath p) ∧ p.length ≤ 4 ∧ ∀ x ∈ p, nmB x = true, ?_, ?_⟩
  · refine ⟨_, rfl, st, l0, 4, n + 1, rfl, by decide, by decide, st1, by omega, fun y H2 k2 st2 y0 y1 => ?_⟩
    have dp2 := (dp0.tk tk1).tk (st1.tk k2)
    refine ⟨rfl, _, rfl, ite2 (fun c => ?_) (fun c => ?_)⟩
    · obtain ⟨a, ea, ha⟩ := dp2.pathI
      refine ⟨_, rfl, a, _, by rw [ea], .inr ha, _, _, rfl, rfl, _, rfl, ite2 (fun c2 => ?_) (fun c2 => ?_)⟩
      · have hl4 : (((p0.map V.str).length : Nat) : Int) < 4 := of_decide_eq_true c2
        rw [List.length_map] at hl4
        refine ⟨_, rfl, _, rfl, st, l0, 1, n + 1 + 1, rfl, by decide, by decide, st2, by omega, fun u H3 p k3 st3 du hpl hpn => ?_⟩
        refine cat_path (dp2.tk (st2.tk k3)) du (by omega) fun r H4 s4 hr4 => ?_
        refine ⟨r, p0 ++ p, rfl, k1.trans (k2.trans (k3.trans (KS.of s4))), (st3.sm s4).le (by omega), hr4, by rw [List.length_append]; omega, fun x hx => ?_⟩
        rcases List.mem_append.mp hx with h | h
        · exact hp0m.2 x h
        · exact hpn x h
      · exact ⟨_, p0, rfl, k1.trans k2, st2.le (by omega), dp2, hp0m.1, hp0m.2⟩
    · exact ⟨_, p0, rfl, k1.trans k2, st2.le (by omega), dp2, hp0m.1, hp0m.2⟩
  rintro σ' H2 ⟨u, p, rfl, k2, st2, du, hpl, hpn⟩
  have hpb : pathB p = true := by
    unfold pathB
    rw [decide_eq_true (by omega), List.all_eq_true.mpr hpn]; rfl
  refine ⟨_, rfl, st, l0, 6, n + 5, rfl, by decide, by decide, st2, by omega, fun way H3 k3 st3 w0 w1 => ?_⟩
  have du3 := du.tk (st2.tk k3)
  -- way < 3 or path == ()
  refine ⟨fun b H' => Same H3 H' ∧ (b = false → p ≠ []), ?_, ?_⟩
  · refine ⟨_, rfl, _, _, rfl, rfl, _, rfl, ite2 (fun c => ?_) (fun c => ?_)⟩
    · exact ⟨Same.refl _, fun h => by first | exact absurd h (by decide) | exact absurd (c.symm.trans h) (by decide)⟩
    · refine ⟨_, rfl, Nat.zero_le _, fun e he => ?_⟩
      have s4 : Same H3 (L2.upd H3 e (.tup [])) := Same.new he _
      refine ⟨dPath p, .tuple [], (du3.sm s4).dp, da_nil.dp, shaped_path du.gd, by decide +kernel, _, rfl, s4, fun h z => ?_⟩
      rw [z] at h
      exact absurd h (by decide)
  rintro b H4 ⟨s4, hb⟩
  have du4 := du3.sm s4
  have st4 := st3.sm s4
  have k04 : KS st l0 H H4 := k2.trans (k3.trans (KS.of s4))
  cases b with
  | true =>
    refine iteT ?_
    refine ⟨by show 4 ≤ sizeLine; decide, fun q hq => ?_⟩
    have s5 : Same H4 (L2.upd H4 q (.lst (four.map V.str))) := Same.new hq _
    refine ⟨_, rfl, st, l0, 4, n + 5 + 1, rfl, by decide, by decide, st4.sm s5, by omega, fun z H6 k6 st6 z0 z1 => ?_⟩
    have e6 : H6 q = some (.lst (four.map V.str)) := k6 _ _ (new_ne hq st4.at.1) (new_ne hq st4.at.2) upd_same
    obtain ⟨i, hi⟩ : ∃ i : Nat, z = (i : Int) := ⟨z.toNat, by omega⟩
    subst hi
    obtain ⟨nm, hnm⟩ : ∃ nm, four[i]? = some nm := ⟨_, List.getElem?_eq_getElem (show i < 4 by omega)⟩
    have hnb := four_nm nm (List.mem_of_getElem? hnm)
    refine ⟨q, four.map V.str, (i : Int), .str nm, rfl, rfl, SqL.of e6, atI_nat (by rw [List.getElem?_map, hnm]; rfl), ?_⟩
    have du6 := (du4.sm s5).tk ((st4.sm s5).tk k6)
    have k06 : KS st l0 H H6 := k04.trans ((KS.of s5).trans k6)
    refine ⟨_, rfl, rfl, _, rfl, ite2 (fun c => ?_) (fun c => ?_)⟩
    · refine ⟨_, rfl, _, rfl, by show 3 ≤ sizeLine; decide, fun r hr => ?_⟩
      have s7 : Same H6 (L2.upd H6 r (.tup [.str "drop", u, .str nm])) := Same.new hr _
      exact k _ _ (.drop p nm) (k06.trans (KS.of s7)) ((st6.sm s7).le (by omega)) (daTup (ds := [.str "drop", dPath p, .str nm]) (SqT.of upd_same) (.cons (daStr (by decide +kernel)) (.cons (du6.sm s7) (.cons (daStr (nmB_ok hnb)) .nil)))) ⟨hpb, hnb⟩
    · refine ⟨_, rfl, _, rfl, _, rfl, st, l0, n + 5 + 1 + 1, rfl, st6, by omega, fun v H7 x k7 st7 dv hv => ?_⟩
      refine ⟨by show 4 ≤ sizeLine; decide, fun r hr => ?_⟩
      have s8 : Same H7 (L2.upd H7 r (.tup [.str "set", u, .str nm, v])) := Same.new hr _
      exact k _ _ (.set p nm x) (k06.trans (k7.trans (KS.of s8))) ((st7.sm s8).le (by omega)) (daTup (ds := [.str "set", dPath p, .str nm, dVal x]) (SqT.of upd_same) (.cons (daStr (by decide +kernel)) (.cons ((du6.tk (st6.tk k7)).sm s8) (.cons (daStr (nmB_ok hnb)) (.cons (dv.sm s8) .nil))))) ⟨hpb, hnb, hv⟩
  | false =>
    have hp0 := hb rfl
    refine iteF ?_
    refine ⟨_, rfl, rfl, _, rfl, ite2 (fun c => ?_) (fun c => ?_)⟩
    · refine ⟨_, rfl, by show 2 ≤ sizeLine; decide, fun r hr => ?_⟩
      have s5 : Same H4 (L2.upd H4 r (.tup [.str "hide", u])) := Same.new hr _
      exact k _ _ (.hide p) (k04.trans (KS.of s5)) ((st4.sm s5).le (by omega)) (daTup (ds := [.str "hide", dPath p]) (SqT.of upd_same) (.cons (daStr (by decide +kernel)) (.cons (du4.sm s5) .nil))) ⟨hpb, hp0⟩
    · refine ⟨_, rfl, _, rfl, _, rfl, st, l0, 3, n + 5 + 1, rfl, by decide, by decide, st4, by omega, fun z H5 k5 st5 z0 z1 => ?_⟩
      refine ⟨_, _, rfl, rfl, by show 1 ≤ sizeLine; decide, fun lf hlf => ?_⟩
      have s6 : Same H5 (L2.upd H5 lf (.lst [.int (1 + z)])) := Same.new hlf _
      have lfst := new_ne hlf st5.at.1
      have lfl0 := new_ne hlf st5.at.2
      have e3 : ct 3 = 559 := rfl
      refine ⟨st, l0, lf, 2, 1 + z, n + 5 + 1 + 1, rfl, rfl, upd_same, lfst, lfl0, st5.sm s6, by rw [e3]; omega, fun v H7 t z7 k7 lf7 st7 dv ht => ?_⟩
      have tk7 := (st5.sm s6).tk3 upd_same k7
      refine ⟨by show 3 ≤ sizeLine; decide, fun r hr => ?_⟩
      have s8 : Same H7 (L2.upd H7 r (.tup [.str "put", u, v])) := Same.new hr _
      have k07 : KS st l0 H H7 := fun b o h1 h2 e => k7 _ _ h1 h2 (ne_of_none (k5 _ _ h1 h2 (k04 _ _ h1 h2 e)) hlf) (s6 _ _ (k5 _ _ h1 h2 (k04 _ _ h1 h2 e)))
      exact k _ _ (.put p t) (k07.trans (KS.of s8)) ((st7.sm s8).le (by rw [e3]; omega)) (daTup (ds := [.str "put", dPath p, dTree t]) (SqT.of upd_same) (.cons (daStr (by decide +kernel)) (.cons ((((du4.tk (st4.tk k5)).sm s6).tk tk7).sm s8) (.cons (dv.sm s8) .nil)))) ⟨hpb, hp0, ht, by omega⟩
end
end VN

/-! _law_table. -/
namespace VN
open PySem PySem.Spec PyProof.Rows L2
open PySem.W (AllAlike Sortable dataLe)

def setE (es : List Ent) (e : Ent) : List Ent := if (es.any fun o => decide (o.key = e.key)) = true then es.map fun o => if o.key = e.key then e else o else es ++ [e]
abbrev TeP (K : PySem.W.Frag) (H : Hp) : List (NestedKey × V) → List Ent → Prop := Paired fun kv e => kv.1 = e.key ∧ Da K H kv.2 e.data
theorem te_put {K : PySem.W.Frag} {H : Hp} {kvs : List (NestedKey × V)} {es : List Ent} (h : TeP K H kvs es) {e : Ent} {v : V} (hv : Da K H v e.data) : TeP K H (putK kvs e.key v) (setE es e) := by
  have hh : (kvs.any fun kv => decide (kv.1 = e.key)) = es.any fun o => decide (o.key = e.key) := by
    induction h with
    | nil => rfl
    | cons q _ ih => rw [List.any_cons, List.any_cons, ih, q.1]
  unfold putK setE
  rw [hh]
  split
  · rename_i c0
    clear c0 hh
    induction h with
    | nil => exact .nil
    | @cons kv o es xs q t ih =>
      rw [List.map_cons, List.map_cons]
      refine .cons ?_ ih
      by_cases c : kv.1 = e.key
      · rw [if_pos c, if_pos (q.1.symm.trans c)]; exact ⟨c, hv⟩
      · rw [if_neg c, if_neg (fun z => c (q.1.trans z))]; exact q
  · exact Paired.snoc h ⟨rfl, hv⟩
theorem setE_ok {es : List Ent} {e : Ent} (he : EOk e) (h : ∀ o ∈ es, EOk o) : ∀ o ∈ setE es e, EOk o := fun o ho => by
  unfold setE at ho
  split at ho
  · obtain ⟨x, hx, rfl⟩ := List.mem_map.mp ho
    split
    · exact he
    · exact h x hx
  · rcases List.mem_append.mp ho with h1 | h1
    · exact h o h1
    · rw [List.mem_singleton.mp h1]; exact he
theorem setE_len (es : List Ent) (e : Ent) : (setE es e).length ≤ es.length + 1 := by
  unfold setE
  split
  · rw [List.length_map]; omega
  · rw [List.length_append]; exact Nat.le_refl _
theorem te_keys {K : PySem.W.Frag} {H : Hp} {kvs : List (NestedKey × V)} {es : List Ent} (h : TeP K H kvs es) : kvs.map (·.1) = es.map Ent.key := by
  induction h with
  | nil => rfl
  | cons q _ ih => rw [List.map_cons, List.map_cons, ih, q.1]
theorem te_val {K : PySem.W.Frag} {H : Hp} {kvs : List (NestedKey × V)} {es : List Ent} (h : TeP K H kvs es) (nd : (es.map Ent.key).Nodup) {e : Ent} (he : e ∈ es) : ∃ v, valV kvs e.key = some v ∧ Da K H v e.data := by
  induction h with
  | nil => cases he
  | @cons kv o kvs es q t ih =>
    rw [List.map_cons, List.nodup_cons] at nd
    rcases List.mem_cons.mp he with rfl | he
    · exact ⟨kv.2, valV_pos q.1, q.2⟩
    · obtain ⟨v, h1, h2⟩ := ih nd.2 he
      refine ⟨v, ?_, h2⟩
      rw [valV_neg (fun z => nd.1 (List.mem_map.mpr ⟨e, he, z.symm.trans q.1⟩))]
      exact h1
theorem te_tk {K : PySem.W.Frag} {H H' : Hp} (t : TK H H') {kvs : List (NestedKey × V)} {es : List Ent} (h : TeP K H kvs es) : TeP K H' kvs es := Paired.mapP h fun _ _ q => ⟨q.1, q.2.tk t⟩
theorem leK_total : PySem.W.TotalLe leK := PySem.W.sortLe_total (PyProof.Rows.listOrd PyProof.Rows.itemOrd) false fun e : Ent => PySem.W.keyToks e.key.data
theorem sort_ok {es : List Ent} (ok : ∀ e ∈ es, EOk e) (nd : (es.map Ent.key).Nodup) (len : es.length ≤ 60) : TbOk (es.mergeSort leK) where
  ok e he := ok e (List.mem_mergeSort.mp he)
  nd := by
    have p : ((es.mergeSort leK).map Ent.key).Perm (es.map Ent.key) := (List.mergeSort_perm es leK).map _
    exact p.nodup_iff.mpr nd
  so := PySem.W.sort_pairwise leK_total es
  len := by rw [List.length_mergeSort]; exact len
theorem sort_keys (es : List Ent) : (es.mergeSort leK).map Ent.key = (es.map Ent.key).mergeSort (dataLe false NestedKey.data) := PySem.W.sort_maps Ent.key fun a _ b _ => rfl
def spLTab (K : PySem.W.Frag) : Sp := fun vs H Q _ => ∃ (st l0 lp : Addr) (ys : List V) (ps : List Path) (m : Int) (n : Nat), vs = [.ref st, .ref lp, .int m] ∧ 0 ≤ m ∧ m ≤ 10 ∧ H lp = some (.lst ys) ∧ lp ≠ st ∧ lp ≠ l0 ∧ Paired (Da K H) ys (ps.map dPath) ∧ ps ≠ [] ∧ ps.length ≤ 900 ∧
  (∀ p ∈ ps, p.length ≤ 4 ∧ ∀ x ∈ p, nmB x = true) ∧ Stm H st l0 n ∧ n < 400000 ∧ ∀ v H' es, KS st l0 H H' → Stm H' st l0 (n + 8000) → Da K H' v (dTab es) → TbOk es → Q v H'
section
variable {P : Program} {w : World} {K : PySem.W.Frag} {mg : Str → Option Value} {base : Heap} {k : Nat}
abbrev nLb : List Str := ["_law_stream", "_law_paths", "_law_most", "_law_found", "_law_k", "_law_entry_here", "_law_key_here"]
theorem scLb : FnScope nLb ["_law_stream", "_law_paths", "_law_most"] (defScope (top 47)) := ⟨rfl, rfl, rfl, by decide +kernel, rfl, by decide +kernel, by decide +kernel⟩
theorem ok_ltab (D : Def K mg "_law_table" (top 47) ["_law_stream", "_law_paths", "_law_most"]) (T : Txt mg) (C : Cal P w K mg base 1 "_law_draw" ["_law_stream", "_law_many"] spDraw) (CE : Cal P w K mg base 8 "_law_entry" ["_law_stream", "_law_paths"] (spLEnt K)) (CK : Cal P w K mg base 1 "_law_key" ["_law_entry_here"] (spKey K)) :
    Cal P w K mg base 9 "_law_table" ["_law_stream", "_law_paths", "_law_most"] (spLTab K) := by
  refine D.cal scLb (fun vs H Q E h => ?_) (fun f cdv A outer s H vs Q E hr h => ?_)
  · obtain ⟨st, l0, lp, ys, ps, m, n, rfl, _⟩ := h
    rfl
  obtain ⟨st, l0, lp, ys, ps, m, n, rfl, hm0, hm10, hlp, lpst, lpl0, hys, hps0, hpsl, hps, hst, hn, k⟩ := h
  have hr1 : Room 1 _ := hr.mono (by decide)
  refine ⟨_, pss_cons (ps_set (i := 3) scLb.nd rfl (Or.inr rfl) pe_nnew)
    (pss_cons (ps_for PassesOwn.never rfl (pi_range1 rfl T.range (pa_cons (pe_c C hr1 rfl (pa_cons (pv 0) (pa_cons (pe_op op_add (pv 2) pe_int) pa_nil))) pa_nil)) (pg_name (i := 4) scLb.nd rfl (Or.inl rfl))
      (pss_cons (ps_set (i := 5) scLb.nd rfl (Or.inl rfl) (pe_c CE hr rfl (pa_cons (pv 0) (pa_cons (pv 1) pa_nil))))
      (pss_cons (ps_nput hr.units (pv 3) (pe_c CK hr1 rfl (pa_cons (pv 5) pa_nil)) (pv 5) rfl)
      (pss_one (ps_if (PW.pt (pw_and (pt_cmpR op_eq (pe_ix ix_tup (pv 5) pe_int (fun _ _ => rfl)) pe_str (nomark _)) (pw_and1 (pt_cmpR op_eq (pe_c C hr1 rfl (pa_cons (pv 0) (pa_cons pe_int pa_nil))) pe_int (nomark _)))))
        (pss_one (ps_nput hr.units (pv 3) (pe_tup (pa_cons pe_str (pa_cons (pe_ix ix_tup (pv 5) pe_int (fun _ _ => rfl)) pa_nil))) (pe_tup (pa_cons pe_str (pa_cons (pe_ix ix_tup (pv 5) pe_int (fun _ _ => rfl)) pa_nil))) rfl)) pss_nil)))))
    (pss_one (ps_ret (pe_callTy call_tuple_of rfl T.tuple b_tuple (pa_cons (pe_lc (own := [("_law_key_here", 6)]) (g := gName 6) (tt := tYes) (te := tNGet P w K (tVar 3) (tVar 6)) rfl scLb.nd (pi_list (pe_callB (cr_sortND rfl hr.units) rfl T.sorted b_sorted (pa_cons (pv 3) pa_nil))) (blkOk_by (N := nLb) (sc := defScope (top 47)) (by decide +kernel))
        (fun _ _ _ _ _ => pg_name (i := 6) scLb.nd rfl (Or.inl rfl)) (fun _ _ _ _ _ => pts_nil) (fun _ _ _ _ _ => pe_nget hr.units (pv 3) (pv 6) (fun _ _ => rfl))) pa_nil))))), ?_⟩
  -- found = {}
  intro d H1 hd h1 nd1
  have s1 := same_of_new hd h1
  have st1 := hst.sm s1
  have dst := new_ne hd hst.at.1
  have dl0 := new_ne hd hst.at.2
  have dlp : d ≠ lp := new_ne hd (by rw [hlp]; exact fun z => nomatch z)
  refine ⟨_, rfl, _, rfl, _, _, rfl, rfl, st, l0, m + 1, n, rfl, by omega, by omega, st1, by omega, fun j H2 k2 st2 j0 j1 => ?_⟩
  have nd2 : ND P w K H2 d [] := by
    obtain ⟨xs, e⟩ := nd1.obj
    exact nd1.keep (st1.tk k2) ((k2 _ _ dst dl0 e).trans e.symm)
  have k12 : KS st l0 H H2 := (KS.of s1).trans k2
  refine ⟨j, rfl, by omega, by omega, ?_⟩
  -- a thing is put into the dict
  have putS : ∀ {Ha Hb : Hp} {kvs : List (NestedKey × V)} {x : Nat}, (∀ c, c ≠ d → Hb c = Ha c) → KS st l0 H Ha → Stm Ha st l0 x → KS st l0 H Hb ∧ Stm Hb st l0 x := fun {Ha Hb kvs x} hc ka sa =>
    ⟨fun b u h1 h2 e => by rw [hc b (ne_of_none e hd)]; exact ka b u h1 h2 e, by
      obtain ⟨rest, cur, cnt, mix, f1, f2, f⟩ := sa
      exact ⟨rest, cur, cnt, mix, by rw [hc st (Ne.symm dst)]; exact f1, by rw [hc l0 (Ne.symm dl0)]; exact f2, f⟩⟩
  refine for_it (walk_range (lo := 0) (n := j.toNat)) (fun i σ H' => ∃ o4 o5 kvs, ∃ es : List Ent, σ = [some (.ref st), some (.ref lp), some (.int m), some (.ref d), o4, o5, none] ∧ KS st l0 H H' ∧ Stm H' st l0 (n + 1 + 710 * i) ∧ ND P w K H' d kvs ∧ TeP K H' kvs es ∧ (∀ e ∈ es, EOk e) ∧ es.length ≤ 2 * i)
    ⟨_, _, [], [], rfl, k12, st2, nd2, .nil, (fun _ h => by cases h), Nat.zero_le _⟩ (fun _ _ _ _ _ => trivial) (fun i x σ H3 H4 hi p y => ?_) (fun σ H3 p => ?_)
  · obtain ⟨rfl, rfl⟩ := y
    obtain ⟨o4, o5, kvs, es, rfl, k4, st4, nd, te, ok, len⟩ := p
    have tk4 := hst.tk k4
    refine ⟨_, rfl, _, rfl, st, l0, lp, ys, ps, n + 1 + 710 * i, rfl, k4 _ _ lpst lpl0 hlp, lpst, lpl0, Paired.mapP hys fun v c h => h.tk tk4, hps0, hpsl, hps, st4, by omega, fun v H5 e k5 st5 dv he => ?_⟩
    have tk5 := st4.tk k5
    have nd5 : ND P w K H5 d kvs := by
      obtain ⟨xs, e0⟩ := nd.obj
      exact nd.keep tk5 ((k5 _ _ dst dl0 e0).trans e0.symm)
    have te5 := te_tk tk5 te
    have len2 : kvs.length ≤ 100 := by rw [Paired.length te]; omega
    -- found[key(entry)] = entry
    refine ⟨_, rfl, _, rfl, _, rfl, v, e, rfl, dv, he, fun r H6 s6 hk6 => ?_⟩
    refine ⟨d, e.key, kvs, rfl, hk6, nd5.sm s6, by rw [sizeLine_eq]; omega, fun H7 h7 tk7 nd7 => ?_⟩
    have te7 := te_tk tk7 (te_put (te_tk (TK.of s6) te5) (dv.sm s6))
    obtain ⟨k7, st7⟩ := putS (kvs := kvs) h7 ((k4.trans k5).trans (KS.of s6)) (st5.sm s6)
    have dv7 := (dv.sm s6).tk tk7
    have ok7 := setE_ok he ok
    have len7 : (setE es e).length ≤ 2 * i + 1 := Nat.le_trans (setE_len _ _) (by omega)
    have lenk7 : (putK kvs e.key v).length ≤ 101 := Nat.le_trans (length_putK _ _ _) (by omega)
    obtain ⟨b, x2, rest, rfl, hb, d2⟩ := ent_at dv7
    refine ⟨_, rfl, b, _, _, _, rfl, rfl, hb, atI_nat (j := 0) rfl, rfl, _, rfl, ite2 (fun c => ?_) (fun c => ?_)⟩
    · have hput : ∃ p t, e = .put p t := by
        cases e with
        | put p t => exact ⟨p, t, rfl⟩
        | drop _ _ => exact absurd (of_decide_eq_true c) (show ¬ V.str "drop" = V.str "put" by decide +kernel)
        | hide _ => exact absurd (of_decide_eq_true c) (show ¬ V.str "hide" = V.str "put" by decide +kernel)
        | set _ _ _ => exact absurd (of_decide_eq_true c) (show ¬ V.str "set" = V.str "put" by decide +kernel)
      obtain ⟨p, t, rfl⟩ := hput
      refine ⟨_, rfl, st, l0, 3, _, rfl, by decide, by decide, st7, by omega, fun z H8 k8 st8 z0 z1 => ?_⟩
      have tk8 := st7.tk k8
      have nd8 : ND P w K H8 d (putK kvs (Ent.put p t).key (.ref b)) := by
        obtain ⟨xs, e0⟩ := nd7.obj
        exact nd7.keep tk8 ((k8 _ _ dst dl0 e0).trans e0.symm)
      have te8 := te_tk tk8 te7
      refine ⟨rfl, _, rfl, ite2 (fun c2 => ?_) (fun c2 => ?_)⟩
      · have hb8 := tk8.sqT hb
        refine ⟨_, rfl, b, _, _, _, rfl, rfl, hb8, atI_nat (j := 1) rfl, by show 2 ≤ sizeLine; decide, fun t1 ht1 => ?_⟩
        have s9 : Same H8 (L2.upd H8 t1 (.tup [.str "hide", x2])) := Same.new ht1 _
        refine ⟨_, rfl, _, rfl, b, _, _, _, rfl, rfl, SqT.sm s9 hb8, atI_nat (j := 1) rfl, by show 2 ≤ sizeLine; decide, fun t2 ht2 => ?_⟩
        have s10 : Same (L2.upd H8 t1 (.tup [.str "hide", x2])) (L2.upd (L2.upd H8 t1 (.tup [.str "hide", x2])) t2 (.tup [.str "hide", x2])) := Same.new ht2 _
        have s810 := s9.trans s10
        have d28 := d2.tk tk8
        have dv1 : Da K (L2.upd H8 t1 (.tup [.str "hide", x2])) (.ref t1) (Ent.hide p).data := daTup (ds := [.str "hide", dPath p]) (SqT.of upd_same) (.cons (daStr (by decide +kernel)) (.cons (d28.sm s9) .nil))
        have dk : Da K (L2.upd (L2.upd H8 t1 (.tup [.str "hide", x2])) t2 (.tup [.str "hide", x2])) (.ref t2) (.tuple [.str "hide", dPath p]) := daTup (SqT.of upd_same) (.cons (daStr (by decide +kernel)) (.cons (d28.sm s810) .nil))
        have hide_ok : EOk (.hide p) := ⟨he.1, he.2.1⟩
        have hky : Ky K (L2.upd (L2.upd H8 t1 (.tup [.str "hide", x2])) t2 (.tup [.str "hide", x2])) (.ref t2) (Ent.hide p).key := ⟨key_ok hide_ok, ⟨_, rfl⟩, by rw [key_data]; exact dk.dp⟩
        refine ⟨d, (Ent.hide p).key, _, rfl, hky, nd8.sm s810, by rw [sizeLine_eq]; omega, fun H11 h11 tk11 nd11 => ?_⟩
        have te11 := te_tk tk11 (te_put (te_tk (TK.of s810) te8) (dv1.sm s10))
        obtain ⟨k11, st11⟩ := putS (kvs := kvs) h11 ((k7.trans k8).trans (KS.of s810)) (st8.sm s810)
        exact ⟨_, _, _, _, rfl, k11, st11.le (by omega), nd11, te11, setE_ok hide_ok ok7, Nat.le_trans (setE_len _ _) (by omega)⟩
      · exact ⟨_, _, _, _, rfl, k7.trans k8, st8.le (by omega), nd8, te8, ok7, by omega⟩
    · exact ⟨_, _, _, _, rfl, k7, st7.le (by omega), nd7, te7, ok7, by omega⟩
  obtain ⟨o4, o5, kvs, es, rfl, k3, st3, nd, te, ok, len⟩ := p
  have hj : j.toNat ≤ 10 := by omega
  have lk : kvs.length = es.length := Paired.length te
  have ekd : (kvs.map fun e => e.1.data) = es.map fun e => e.key.data := by
    have := congrArg (List.map NestedKey.data) (te_keys te)
    rw [List.map_map, List.map_map] at this
    exact this
  have ndk : (es.map Ent.key).Nodup := by
    obtain ⟨xs, _, _, _, _, h⟩ := nd
    rw [← te_keys te]; exact h
  refine ⟨_, rfl, d, kvs, rfl, nd, by omega, by rw [ekd]; exact keys_alike es, by rw [ekd]; exact keys_sortable es, fun H4 p vs hp e4 hvs => ?_⟩
  have s4 : Same H3 H4 := by rw [e4]; exact Same.new hp _
  have p4 : H4 p = some (.lst vs) := by rw [e4]; exact upd_same
  have tb : TbOk (es.mergeSort leK) := sort_ok ok ndk (by omega)
  rw [te_keys te, ← sort_keys] at hvs
  have lvs : (es.mergeSort leK).length = vs.length := by rw [Paired.length hvs, List.length_map]
  have le20 : (es.mergeSort leK).length ≤ 60 := tb.len
  refine ⟨p, rfl, ⟨vs, SqL.of p4⟩, fun L hL => ?_⟩
  refine lc_map (walk_list (xs := vs)) (es.mergeSort leK) (fun e => e) (fun H v (e : Ent) => Da K H v e.data) (fun D H H' ys v c hD k h => h.tk (k.tk hD)) hL lvs (by omega) (fun H2 s1 => s1.seq (SqL.of p4)) yat_same (fun i y e H5 H6 N he s5 hy m => ?_) (fun H5 zs s5 hL5 hzs => ?_)
  · obtain ⟨rfl, hy⟩ := hy
    obtain ⟨kk, hkk, hyk⟩ := LiI.paired_get hvs hy
    rw [List.getElem?_map, he] at hkk
    cases hkk
    obtain ⟨v, hv1, hv2⟩ := te_val te ndk (List.mem_mergeSort.mp (List.mem_of_getElem? he))
    have s36 := s4.trans s5
    exact ⟨rfl, _, rfl, _, rfl, d, e.key, kvs, v, rfl, hyk.tk (TK.of s36), nd.sm s36, hv1, m _ _ (Same.refl _) (hv2.sm s36)⟩
  · rw [List.map_id'] at hzs
    refine ⟨L, zs, rfl, .inl ⟨SqL.of hL5, fun r hr => ?_⟩⟩
    have s6 : Same H5 (L2.upd H5 r (.tup zs)) := Same.new hr _
    have s36 := (s4.trans s5).trans s6
    exact k _ _ _ (k3.trans (KS.of s36)) ((st3.sm s36).le (by omega)) (daTup (ds := (es.mergeSort leK).map Ent.data) (SqT.of upd_same) (paired_map2 (Paired.mapP hzs fun v d h => h.sm s6))) tb
end
end VN

/-! Rule of this proof's own: t[::-1] of a tuple. -/
namespace VN
open PySem PySem.Spec PyProof.Rows L2 HT
section
variable {prog : Program} {w : World} {A : Around} {E : Value → Shared → Prop} {s : Shared}
theorem applied_rev {sl : Addr} {vl vu vs : Value} {n : Nat} {Q : Int × Int × Nat → Shared → Prop} (hs : s.heap.IsSliceOf sl vl vu vs) (pl : IsPart vl none) (pu : IsPart vu none) (ps : IsPart vs (some (-1))) (h : Q ((n : Int) - 1, -1, n) s) :
    wpAny (model prog w) A (Builtin.Slice.sliceApplied (.ref sl) (pure (n : Int))) Q E s := by
  obtain ⟨os, hos, hcs, hds⟩ := id hs
  unfold Builtin.Slice.sliceApplied Builtin.Slice.sliceFields
  refine wpAny_bind (wpAny_bind (wpAny_field hos hds (x := vl) rfl (wpAny_bind (wpAny_field hos hds (x := vu) rfl (wpAny_bind (wpAny_field hos hds (x := vs) rfl (wpAny_pure ?_)))))))
  refine wpAny_bind (slicePart_ ps ?_)
  show wpAny _ _ (if ((-1 : Int) == 0) = true then _ else _) _ _ s
  rw [if_neg (by decide)]
  refine wpAny_bind (slicePart_ pl (wpAny_bind (slicePart_ pu (wpAny_bind (wpAny_pure ?_)))))
  have e : Builtin.Slice.slicePlaces ((n : Int) - 1) (-1) (-1) = n := by
    unfold Builtin.Slice.slicePlaces
    rw [if_neg (by decide)]
    by_cases c : (n : Int) - 1 > -1
    · rw [if_pos c, show (-(-1 : Int)) = 1 from rfl, Int.ediv_one]; omega
    · rw [if_neg c]; omega
  show wpAny _ _ (pure ((n : Int) - 1, (-1 : Int), Builtin.Slice.slicePlaces ((n : Int) - 1) (-1) (-1))) _ _ s
  rw [e]
  exact wpAny_pure h
theorem pick_rev (xs : Array Value) : ((List.range xs.size).filterMap fun (k : Nat) => xs[(((xs.size : Int) - 1) + (k : Int) * -1).toNat]?).toArray = xs.toList.reverse.toArray := by
  congr 1
  have h := PySem.W.krv_all xs.toList.reverse.toArray
  have sz : xs.toList.reverse.toArray.size = xs.size := by simp
  rw [sz] at h
  have e2 : xs.toList.reverse.toArray.toList = xs.toList.reverse := by simp
  rw [e2] at h
  rw [← h]
  refine filterMap_congr_mem fun k hk => ?_
  have hk : k < xs.size := List.mem_range.mp hk
  have e3 : (((xs.size : Int) - 1) + (k : Int) * -1).toNat = xs.size - 1 - k := by omega
  have e4 : xs.toList.reverse.toArray[k]? = xs.toList.reverse[k]? := by simp
  rw [e3, e4, List.getElem?_reverse (by simpa using hk), Array.length_toList, Array.getElem?_toList]
where
  filterMap_congr_mem {α β : Type} {f g : α → Option β} : ∀ {l : List α}, (∀ x ∈ l, f x = g x) → l.filterMap f = l.filterMap g := by
    intro l
    induction l with
    | nil => intro _; rfl
    | cons x l ih =>
      intro h
      rw [List.filterMap_cons, List.filterMap_cons, h x List.mem_cons_self, ih fun y hy => h y (List.mem_cons_of_mem _ hy)]
theorem getItem_rev {t sl : Addr} {items : Array Value} {vl vu vs : Value} {Q : Value → Shared → Prop} (ht : IsTup s.heap t items) (hs : s.heap.IsSliceOf sl vl vu vs) (pl : IsPart vl none) (pu : IsPart vu none) (ps : IsPart vs (some (-1)))
    (h : Q (.ref s.heap.objs.size) { s with heap := s.heap.push { cls := .type "tuple", data := .seq items.toList.reverse.toArray } }) (hsz : items.size ≤ sizeLine) : wpAny (model prog w) A (getItem (.ref t) (.ref sl)) Q E s := by
  have htake : sizeOk (.seq items.toList.reverse.toArray) := by
    show items.toList.reverse.toArray.size ≤ sizeLine
    rw [List.size_toArray, List.length_reverse, Array.length_toList]
    omega
  obtain ⟨os, hos, hcs, hds⟩ := id hs
  have hTs : s.TypeIs (.ref sl) "slice" := ⟨os, hos, hcs⟩
  unfold getItem
  try with_reducible refine wpAny_holding ?_
  first | refine wpAny_bind (wpAny_pure ?_) | skip
  refine wpAny_bind (wpAny_sequenceKey ht.typeIs (by decide) ?_)
  refine wpAny_bind (wpAny_callSpecial?_slot (name := Str.ofString "__getitem__") ht.typeIs PyProof.Rows.slot_tuple_getitem
    (wpAny_call_entry PyProof.Rows.slot_tuple_getitem ht.typeIs entry_tuple_getitem ?_ (args_tuple_getitem _ _)))
  show wpAny _ _ (Builtin.Tuple.tupleItemsOf (.ref t) >>= _) _ _ s
  refine wpAny_bind (tupleItemsOf_ ht ?_)
  refine wpAny_bind (wpAny_typeOf hTs ?_)
  rw [if_pos (by decide)]
  refine wpAny_bind (applied_rev hs pl pu ps ?_)
  have hno : ¬ ((((items.size : Int) - 1) == 0 && (-1 : Int) == 1 && items.size == items.size) = true) := by
    intro q
    rw [Bool.and_eq_true, Bool.and_eq_true] at q
    exact absurd q.1.2 (by decide)
  show wpAny _ _ (if (((items.size : Int) - 1) == 0 && (-1 : Int) == 1 && items.size == items.size) = true then _ else _) _ _ s
  rw [if_neg hno, pick_rev]
  first
    | exact wpAny_bind (m := Builtin.Tuple.tupleExact _) (wpAny_newObj_type (wpAny_pure ⟨_, rfl, wpAny_pure h⟩) htake)
    | exact wpAny_bind (m := Builtin.Tuple.tupleExact _) (wpAny_newObj_type (wpAny_bind (wpAny_pure (wpAny_pure ⟨_, rfl, wpAny_pure h⟩))) htake)
    | exact wpAny_bind (wpAny_bind (m := Builtin.Tuple.tupleExact _) (wpAny_newObj_type (wpAny_pure (wpAny_pure ⟨_, rfl, wpAny_pure h⟩)) htake))
    | exact wpAny_bind (wpAny_bind (m := Builtin.Tuple.tupleExact _) (wpAny_newObj_type (wpAny_pure ⟨_, rfl, wpAny_pure h⟩) htake))
end
section
variable {X : Cx}
def tRevT (K : PySem.W.Frag) (te : TE) : TE := fun σ H Q => te σ H fun x H1 => ∃ a xs, x = .ref a ∧ SqT K H1 a xs ∧ ∀ p, H1 p = none → Q (.ref p) (L2.upd H1 p (.tup xs.reverse))
theorem pe_revT {e : Expr} {te : TE} {k : Nat} {p1 p2 p3 pos : Pos} (he : PE X e te) : PE X (.Subscript e (.Slice none none (some (.UnaryOp .USub (.Constant (.int 1) k p1) p2)) p3) pos) (tRevT X.K te) := by
  refine ⟨fun pins s σ H Q I h => ?_⟩
  refine Subscript_ (thn (he.run pins s σ H _ I h) fun v s1 ⟨x, H1, I1, r1, q1⟩ => ?_)
  obtain ⟨a, xs, ex, hx, q⟩ := q1
  subst ex
  cases r1
  have hst : PO X (some (.UnaryOp .USub (.Constant (.int 1) k p1) p2)) (tPart (tUn (rU fun i => .int (-i)) (tC (.int 1)))) := po_some (pe_un un_neg pe_int)
  refine wpAny_Slice (thn (po_none.run pins s1 σ H1 (fun o H2 => o = none ∧ H2 = H1) I1 ⟨rfl, rfl⟩) fun vl s2 ⟨l, H2, I2, pl, el, e2⟩ => ?_)
  subst el e2
  refine thn (po_none.run pins s2 σ H2 (fun o H3 => o = none ∧ H3 = H2) I2 ⟨rfl, rfl⟩) fun vu s3 ⟨u, H3, I3, pu, eu, e3⟩ => ?_
  subst eu e3
  refine thn (hst.run pins s3 σ H3 (fun o H4 => o = some (-1) ∧ H4 = H3) I3 ⟨1, rfl, -1, rfl, rfl, rfl⟩) fun vs s4 ⟨o, H4, I4, ps, eo, e4⟩ => ?_
  subst eo e4
  have I5 : Inv X pins σ H4 { s4 with heap := s4.heap.push { cls := .type "slice", data := .fields #[vl, vu, vs] } } := I4.kept (t' := s4.toks) fun b ob q => Heap.get?_push_of_some _ q
  obtain ⟨its, r, ht, hz⟩ := I5.tuple hx
  have hlen := r.length
  show wpAny (model X.prog X.w) X.A (subscriptTail e (.Slice none none (some (.UnaryOp .USub (.Constant (.int 1) k p1) p2)) p3) (.ref a) (.ref s4.heap.objs.size)) (EP X pins σ Q) X.xe { s4 with heap := s4.heap.push { cls := .type "slice", data := .fields #[vl, vu, vs] } }
  refine tail_any (ops := [.ref a, .ref s4.heap.objs.size]) ht.typeIs (PyProof.Rows.slot_tuple_getitem.lookup) ?_ (by with_unfolding_all rfl)
  refine getItem_rev ht (Heap.IsSliceOf.new _ vl vu vs) pl pu ps ?_ (by rw [List.size_toArray]; omega)
  refine ⟨.ref _, _, I5.laid (t' := s4.toks) (o := .tup xs.reverse) (fun b ob q => Heap.get?_push_of_some _ q) (Nat.le_refl _) ?_, rfl, q _ (I5.hok.fresh (Nat.le_refl _))⟩
  exact ⟨by rw [List.length_reverse]; exact hz, its.reverse, r.reverse, IsTup.new _ _⟩
end
end VN

/-! _law_chain, _law_does. -/
namespace VN
open PySem PySem.Spec PyProof.Rows L2

/-! ### how deep what is made is -/
theorem dep_node {n : Nat} {a b : List NP} (ha : ∀ x ∈ a, x.2.depth ≤ n) (hb : ∀ x ∈ b, x.2.depth ≤ n) : (dNode a b).depth ≤ n + 3 := by
  have pr : ∀ {l : List NP}, (∀ x ∈ l, x.2.depth ≤ n) → PyData.depthAll (l.map dPair) ≤ n + 1 := fun {l} h => depthAll_le fun d hd => by
    obtain ⟨x, hx, rfl⟩ := List.mem_map.mp hd
    have := h x hx
    show (PyData.tuple [.str x.1, x.2]).depth ≤ n + 1
    simp only [PyData.depth, PyData.depthAll]; omega
  have h1 := pr ha
  have h2 := pr hb
  show (PyData.tuple [.tuple (a.map dPair), .tuple (b.map dPair)]).depth ≤ n + 3
  simp only [PyData.depth, PyData.depthAll]; omega
theorem dep_val (v : PVal) : (dVal v).depth ≤ 2 := by
  have pd : ∀ p : Path, (dPath p).depth ≤ 1 := fun p => by
    have : PyData.depthAll (p.map .str) ≤ 0 := depthAll_le fun d hd => by
      obtain ⟨x, _, rfl⟩ := List.mem_map.mp hd
      simp [PyData.depth]
    show (PyData.tuple (p.map .str)).depth ≤ 1
    simp only [PyData.depth]; omega
  cases v with
  | int i => simp [dVal, PyData.depth]
  | nm x => simp [dVal, PyData.depth]
  | link p =>
    have := pd p
    show (PyData.tuple [.str "link", dPath p]).depth ≤ 2
    simp only [PyData.depth, PyData.depthAll]; omega
theorem mem_setNP {nps : List NP} {n : Str} {d : PyData} {x : NP} (h : x ∈ setNP nps n d) : x.2 = d ∨ x ∈ nps := by
  unfold setNP at h
  split at h
  · obtain ⟨y, hy, e⟩ := List.mem_map.mp h
    split at e
    · rw [← e]; exact .inl rfl
    · rw [← e]; exact .inr hy
  · rcases List.mem_append.mp h with h | h
    · exact .inr h
    · rw [List.mem_singleton.mp h]; exact .inl rfl
theorem mem_addNP {nps : List NP} {n : Str} {d : PyData} {x : NP} (h : x ∈ addNP nps n d) : x.2 = d ∨ x ∈ nps := by
  unfold addNP at h
  split at h
  · exact .inr h
  · rcases List.mem_append.mp h with h | h
    · exact .inr h
    · rw [List.mem_singleton.mp h]; exact .inl rfl
theorem dep_steps : ∀ (l : List Ent) {nps : List NP}, (∀ x ∈ nps, x.2.depth ≤ 2) → ∀ x ∈ l.foldl stepE nps, x.2.depth ≤ 2
  | [], _, h => h
  | e :: l, nps, h => dep_steps l (nps := stepE nps e) fun x hx => by
    cases e with
    | set p n v =>
      rcases mem_setNP hx with h1 | h1
      · rw [h1]; exact dep_val v
      · exact h x h1
    | drop p n => exact h x (List.mem_filter.mp hx).1
    | hide p => exact h x hx
    | put p t => exact h x hx
theorem dep_puts {es : List Ent} (ok : ∀ e ∈ es, EOk e) {p : Path} {n : Nat} (hn : 12 ≤ n) : ∀ (l : List Str) {nps : List NP}, (∀ x ∈ nps, x.2.depth ≤ n) → ∀ x ∈ l.foldl (putStep es p) nps, x.2.depth ≤ n
  | [], _, h => h
  | m :: l, nps, h => dep_puts ok hn l (nps := putStep es p nps m) fun x hx => by
    unfold putStep at hx
    split at hx
    · rename_i t ht
      rcases mem_addNP hx with h1 | h1
      · rw [h1]
        obtain ⟨t0, hm⟩ := putTree_some.mp ⟨t, ht⟩
        have hm2 : Ent.put (p ++ [m]) t ∈ es := by
          obtain ⟨y, hy, e⟩ := Option.map_eq_some_iff.mp (show ((putsOf es).find? fun x => decide (x.1 = p ++ [m])).map (·.2) = some t from ht)
          have h2 := List.find?_some hy
          have h3 := List.mem_of_find?_eq_some hy
          have h4 : y.1 = p ++ [m] := of_decide_eq_true h2
          obtain ⟨a, b⟩ := y
          subst h4 e
          exact mem_puts.mp h3
        exact Nat.le_trans (fit_depth _ _ (fit_tree (ok _ hm2).2.2.1)) hn
      · exact h x h1
    · exact h x hx
theorem dep_made {es : List Ent} (ok : ∀ e ∈ es, EOk e) : ∀ {n : Nat} {t : Tree} (p : Path), TOk n t → (madeT es t p).depth ≤ 3 * n + 12
  | 0, _, _, h => h.elim
  | n + 1, t, p, h => by
    show (dNode (sortNP (rawPs es t.ps p)) (sortNP (addPuts es p (madeKs es p t.ks)))).depth ≤ 3 * (n + 1) + 12
    refine Nat.le_trans (dep_node (n := 3 * n + 12) (fun x hx => ?_) fun x hx => ?_) (by omega)
    · have := dep_steps (propsOf es p) (nps := vPs t.ps) (fun y hy => by
        obtain ⟨q, _, rfl⟩ := List.mem_map.mp hy
        exact dep_val q.2) x (mem_sort.mp hx)
      omega
    · refine dep_puts ok (by omega) (belowOf es p) (fun y hy => ?_) x (mem_sort.mp hx)
      rw [madeKs_kids] at hy
      obtain ⟨z, hz, e⟩ := List.mem_filterMap.mp hy
      split at e
      · cases e
      · injection e with e
        rw [← e]
        exact dep_made ok _ (h.2.2.2 z hz).2
theorem shaped_made {es : List Ent} (ok : ∀ e ∈ es, EOk e) {t : Tree} {p : Path} (h : TOk 9 t) (g : good (madeT es t p) = true) : SeqAt.shaped (madeT es t p) = true :=
  shaped_of g (Nat.le_trans (dep_made ok p h) (by omega))

/-! ### chains -/
theorem chain_ok : ∀ {p : Path} {X : List (Str × PVal)}, (∀ x ∈ p, nmB x = true) → PsOk X → TOk (p.length + 1) (chain p ⟨X, .nil⟩)
  | [], X, _, hX => ⟨hX, List.Pairwise.nil, Nat.zero_le _, fun _ h => by cases h⟩
  | x :: r, X, hp, hX => by
    refine ⟨⟨(fun _ h => by cases h), (fun _ h => by cases h), List.Pairwise.nil, Nat.zero_le _⟩, List.pairwise_singleton _ _, by show 1 ≤ 3; omega, fun y hy => ?_⟩
    have hy : y ∈ [(x, (⟨(chain r ⟨X, .nil⟩).ps, (chain r ⟨X, .nil⟩).ks⟩ : Tree))] := hy
    rw [List.mem_singleton.mp hy]
    exact ⟨hp x List.mem_cons_self, chain_ok (fun z hz => hp z (List.mem_cons_of_mem _ hz)) hX⟩
def spChain (K : PySem.W.Frag) : Sp := fun vs H Q _ => ∃ u v p X, vs = [u, v] ∧ Da K H u (dPath p) ∧ p.length ≤ 100 ∧ Da K H v (.tuple ((vPs X).map dPair)) ∧ ∀ r H', Same H H' → Da K H' r (dTree (chain p ⟨X, .nil⟩)) → Q r H'
section
variable {P : Program} {w : World} {K : PySem.W.Frag} {mg : Str → Option Value} {base : Heap} {k : Nat}
abbrev nCh : List Str := ["_law_path_here", "_law_props_here", "_law_found", "_law_name"]
theorem scCh : FnScope nCh ["_law_path_here", "_law_props_here"] (defScope (top 48)) := ⟨rfl, rfl, rfl, by decide +kernel, rfl, by decide +kernel, by decide +kernel⟩
theorem ok_chain (D : Def K mg "_law_chain" (top 48) ["_law_path_here", "_law_props_here"]) : Cal P w K mg base 1 "_law_chain" ["_law_path_here", "_law_props_here"] (spChain K) := by
  refine D.cal scCh (fun vs H Q E h => ?_) (fun f cdv A outer s H vs Q E hr h => ?_)
  · obtain ⟨u, v, p, X, rfl, _⟩ := h
    rfl
  obtain ⟨u, v, p, X, rfl, hu, hpl, hv, k⟩ := h
  refine ⟨_, pss_cons (ps_set (i := 2) scCh.nd rfl (Or.inl rfl) (pe_tup (pa_cons (pv 1) (pa_cons (pe_tup pa_nil) pa_nil))))
    (pss_cons (ps_for PassesOwn.never rfl (pi_tup (pe_revT (pv 0))) (pg_name (i := 3) scCh.nd rfl (Or.inl rfl))
      (pss_one (ps_set (i := 2) scCh.nd rfl (Or.inl rfl) (pe_tup (pa_cons (pe_tup pa_nil) (pa_cons (pe_tup (pa_cons (pe_tup (pa_cons (pv 3) (pa_cons (pv 2) pa_nil))) pa_nil)) pa_nil))))))
    (pss_one (ps_ret (pv 2)))), ?_⟩
  refine ⟨_, rfl, Nat.zero_le _, fun a ha => ⟨by show 2 ≤ sizeLine; decide, fun b hb => ?_⟩⟩
  have s1 : Same H (L2.upd H a (.tup [])) := Same.new ha _
  have s2 : Same (L2.upd H a (.tup [])) (L2.upd (L2.upd H a (.tup [])) b (.tup [v, .ref a])) := Same.new hb _
  have s12 := s1.trans s2
  have d0 : Da K (L2.upd (L2.upd H a (.tup [])) b (.tup [v, .ref a])) (.ref b) (dTree (chain [] ⟨X, .nil⟩)) := daTup (ds := [.tuple ((vPs X).map dPair), .tuple ([].map dPair)]) (SqT.of upd_same) (.cons (hv.sm s12) (.cons (da_nil.sm s2) .nil))
  obtain ⟨q, rfl, hq⟩ := hu.pathI
  refine ⟨_, rfl, q, _, rfl, SqT.sm s12 hq, fun t ht => ?_⟩
  have s3 : Same (L2.upd (L2.upd H a (.tup [])) b (.tup [v, .ref a])) (L2.upd (L2.upd (L2.upd H a (.tup [])) b (.tup [v, .ref a])) t (.tup (p.map V.str).reverse)) := Same.new ht _
  obtain ⟨H1, eH1⟩ : ∃ A, A = L2.upd (L2.upd (L2.upd H a (.tup [])) b (.tup [v, .ref a])) t (.tup (p.map V.str).reverse) := ⟨_, rfl⟩
  have s01 : Same H H1 := by rw [eH1]; exact s12.trans s3
  have t1 : SqT K H1 t (p.map V.str).reverse := by rw [eH1]; exact SqT.of upd_same
  have d1 : Da K H1 (.ref b) (dTree (chain [] ⟨X, .nil⟩)) := by rw [eH1]; exact d0.sm s3
  rw [← eH1]
  refine ⟨t, rfl, ⟨_, t1⟩, ?_⟩
  have lr : (p.map V.str).reverse.length = p.length := by rw [List.length_reverse, List.length_map]
  refine for_it (walk_tup (xs := (p.map V.str).reverse)) (fun i σ H' => ∃ r o3, σ = [some (.ref q), some v, some r, o3] ∧ Same H1 H' ∧ Da K H' r (dTree (chain (p.drop (p.length - i)) ⟨X, .nil⟩)))
    ⟨_, _, rfl, Same.refl _, by rw [Nat.sub_zero, List.drop_length]; exact d1⟩ (fun i σ H' _ m => ?_) (fun i x σ H2 H3 hi m y => ?_) (fun σ H2 m => ?_)
  · obtain ⟨_, _, _, sm, _⟩ := m
    exact SqT.sm sm t1
  · obtain ⟨r, o3, rfl, sm, dr⟩ := m
    obtain ⟨rfl, hy⟩ := y
    rw [lr] at hi
    have hx : x = .str (p[p.length - 1 - i]) := by
      rw [List.getElem?_reverse (by rw [List.length_map]; exact hi), List.length_map, List.getElem?_map, List.getElem?_eq_getElem (by omega)] at hy
      exact (Option.some.inj hy).symm
    subst hx
    have ed : p.drop (p.length - (i + 1)) = p[p.length - 1 - i] :: p.drop (p.length - i) := by
      have h1 := List.drop_eq_getElem_cons (l := p) (i := p.length - 1 - i) (by omega)
      rw [show p.length - (i + 1) = p.length - 1 - i by omega, h1, show p.length - 1 - i + 1 = p.length - i by omega]
    have okx : PyData.strOk p[p.length - 1 - i] = true := path_ok hu.gd _ (List.getElem_mem _)
    refine ⟨Nat.zero_le _, fun c1 hc1 => ⟨_, rfl, _, rfl, by show 2 ≤ sizeLine; decide, fun c2 hc2 => ⟨by show 1 ≤ sizeLine; decide, fun c3 hc3 => ⟨by show 2 ≤ sizeLine; decide, fun c4 hc4 => ?_⟩⟩⟩⟩
    have t1' := Same.new hc1 (.tup [])
    have t2' := Same.new hc2 (.tup [.str p[p.length - 1 - i], r])
    have t3' := Same.new hc3 (.tup [.ref c2])
    have t4' := Same.new hc4 (.tup [.ref c1, .ref c3])
    refine ⟨_, _, rfl, sm.trans (t1'.trans (t2'.trans (t3'.trans t4'))), ?_⟩
    rw [ed]
    exact daTup (ds := [.tuple [], .tuple [.tuple [.str p[p.length - 1 - i], dTree (chain (p.drop (p.length - i)) ⟨X, .nil⟩)]]]) (SqT.of upd_same) (.cons (da_nil.sm (t2'.trans (t3'.trans t4')))
      (.cons ((daTup (SqT.of upd_same) (.cons ((daTup (SqT.of upd_same) (.cons (daStr okx) (.cons ((dr.sm t1').sm t2') .nil)) : Da K _ (.ref c2) (.tuple [.str p[p.length - 1 - i], dTree (chain (p.drop (p.length - i)) ⟨X, .nil⟩)])).sm t3') .nil) : Da K _ (.ref c3) (.tuple [.tuple [.str p[p.length - 1 - i], dTree (chain (p.drop (p.length - i)) ⟨X, .nil⟩)]])).sm t4') .nil))
  · obtain ⟨r, o3, rfl, sm, dr⟩ := m
    rw [lr, Nat.sub_self, List.drop_zero] at dr
    exact ⟨_, rfl, k _ _ (s01.trans sm) dr⟩
end
end VN

/-! _law_does. -/
namespace VN
open PySem PySem.Spec PyProof.Rows L2

theorem data_key {o e : Ent} (h : o.data = e.data) : o.key = e.key := by
  have tg : ∀ {a b : Str} {xs ys : List PyData}, PyData.tuple (.str a :: xs) = .tuple (.str b :: ys) → a = b ∧ xs = ys := fun h => by
    injection h with h
    injection h with h1 h2
    injection h1 with h1
    exact ⟨h1, h2⟩
  have hd2 : ∀ {x y : PyData} {xs ys : List PyData}, x :: xs = y :: ys → x = y ∧ xs = ys := fun h => by injection h with a b; exact ⟨a, b⟩
  have st : ∀ {a b : Str}, PyData.str a = .str b → a = b := fun h => by injection h
  cases o <;> cases e
  all_goals
    obtain ⟨h1, h2⟩ := tg h
    first
      | exact absurd h1 (by decide +kernel)
      | skip
  · rename_i p n q m
    obtain ⟨h3, h4⟩ := hd2 h2
    obtain ⟨h5, _⟩ := hd2 h4
    rw [dPath_inj h3, st h5]
  · rename_i p q
    obtain ⟨h3, _⟩ := hd2 h2
    rw [dPath_inj h3]
  · rename_i p t q u
    obtain ⟨h3, _⟩ := hd2 h2
    have := dPath_inj h3
    subst this
    rfl
  · rename_i p n v q m u
    obtain ⟨h3, h4⟩ := hd2 h2
    obtain ⟨h5, _⟩ := hd2 h4
    have e1 := dPath_inj h3
    have e2 := st h5
    subst e1 e2
    rfl
theorem rest_iff {es : List Ent} (ok : ∀ e ∈ es, EOk e) (nd : (es.map Ent.key).Nodup) {e : Ent} (he : e ∈ es) (o : Ent) : o ∈ es.filter (fun o => !PyData.eqv o.data e.data) ↔ o ∈ es ∧ o.key ≠ e.key := by
  have g : ∀ {x : Ent}, x ∈ es → good x.data = true := fun hx => fit_good _ _ (ok _ hx).fit
  rw [List.mem_filter]
  constructor
  · rintro ⟨h1, h2⟩
    refine ⟨h1, fun hk => ?_⟩
    have := same_key nd h1 he hk
    subst this
    rw [eqv_self (g h1)] at h2
    cases h2
  · rintro ⟨h1, h2⟩
    refine ⟨h1, ?_⟩
    rw [eqv_ne (g h1) (g he) (fun z => h2 (data_key z))]; rfl
theorem someP_ok {e : Ent} (he : EOk e) : ∀ X ∈ someP e, PsOk X := by
  have nil : PsOk [] := ⟨(fun _ h => by cases h), (fun _ h => by cases h), List.Pairwise.nil, Nat.zero_le _⟩
  have one : ∀ (n : Str) (i : Int), nmB n = true → PsOk [(n, PVal.int i)] := fun n i hn =>
    ⟨fun p hp => by rw [List.mem_singleton.mp hp]; exact hn, fun p hp => by rw [List.mem_singleton.mp hp]; rfl, List.pairwise_singleton _ _, by show 1 ≤ 100; omega⟩
  intro X hX
  unfold someP at hX
  rcases List.mem_append.mp hX with h | h
  · rcases List.mem_cons.mp h with rfl | h
    · exact nil
    · rw [List.mem_singleton.mp h]; exact one _ _ nm_qq
  · split at h
    · rw [List.mem_singleton.mp h]
      refine one _ _ ?_
      cases e with
      | drop p n => exact he.2
      | set p n v => exact he.2.1
      | hide p => rename_i c; cases c
      | put p t => rename_i c; cases c
    · cases h
theorem cpath_len (e : Ent) : (cpath e).length ≤ e.path.length := by
  cases e with
  | put p t => show p.dropLast.length ≤ p.length; rw [List.length_dropLast]; omega
  | drop p n => exact Nat.le_refl _
  | hide p => exact Nat.le_refl _
  | set p n v => exact Nat.le_refl _
theorem cpath_nm {e : Ent} (he : EOk e) : ∀ x ∈ cpath e, nmB x = true := by
  have h := he.path
  unfold pathB at h
  rw [Bool.and_eq_true, List.all_eq_true] at h
  intro x hx
  refine h.2 x ?_
  cases e with
  | put p t => exact List.dropLast_subset p hx
  | drop p n => exact hx
  | hide p => exact hx
  | set p n v => exact hx
theorem ent_atP {K : PySem.W.Frag} {H : Hp} {x : V} {e : Ent} (h : Da K H x e.data) : ∃ b x2 rest, x = .ref b ∧ SqT K H b (.str (tagOf e) :: x2 :: rest) ∧ Da K H x2 (dPath e.path) ∧ (e.isProp = true → ∃ r, rest = .str e.name :: r) := by
  cases e with
  | drop p n =>
    obtain ⟨a, x1, x2, x3, rfl, hs, d1, d2, d3⟩ := (show Da K H x (.tuple [.str "drop", dPath p, .str n]) from h).tup3
    obtain rfl := d1.strI
    obtain rfl := d3.strI
    exact ⟨a, x2, _, rfl, hs, d2, fun _ => ⟨_, rfl⟩⟩
  | hide p =>
    obtain ⟨a, x1, x2, rfl, hs, d1, d2⟩ := (show Da K H x (.tuple [.str "hide", dPath p]) from h).tup2
    obtain rfl := d1.strI
    exact ⟨a, x2, _, rfl, hs, d2, fun h => by cases h⟩
  | put p t =>
    obtain ⟨a, x1, x2, x3, rfl, hs, d1, d2, d3⟩ := (show Da K H x (.tuple [.str "put", dPath p, dTree t]) from h).tup3
    obtain rfl := d1.strI
    exact ⟨a, x2, _, rfl, hs, d2, fun h => by cases h⟩
  | set p n v =>
    obtain ⟨a, x1, x2, x3, x4, rfl, hs, d1, d2, d3, d4⟩ := (show Da K H x (.tuple [.str "set", dPath p, .str n, dVal v]) from h).tup4
    obtain rfl := d1.strI
    obtain rfl := d3.strI
    exact ⟨a, x2, _, rfl, hs, d2, fun _ => ⟨_, rfl⟩⟩
def spDoes (K : PySem.W.Frag) : Sp := fun vs H Q _ => ∃ tv v es e, vs = [tv, v] ∧ Da K H tv (dTab es) ∧ TbOk es ∧ Norm es ∧ e ∈ es ∧ Da K H v e.data ∧ ∀ H', Same H H' → Q (.bl true) H'
section
variable {P : Program} {w : World} {K : PySem.W.Frag} {mg : Str → Option Value} {base : Heap} {k : Nat}
abbrev nDo : List Str := ["_law_table_here", "_law_entry_here", "_law_rest", "_law_other", "_law_path_here", "_law_some", "_law_props_here", "_law_tree_here"]
theorem scDo : FnScope nDo ["_law_table_here", "_law_entry_here"] (defScope (top 49)) := ⟨rfl, rfl, rfl, by decide +kernel, rfl, by decide +kernel, by decide +kernel⟩
theorem ok_does (D : Def K mg "_law_does" (top 49) ["_law_table_here", "_law_entry_here"]) (T : Txt mg) (CC : Cal P w K mg base 1 "_law_chain" ["_law_path_here", "_law_props_here"] (spChain K)) (CA : Cal P w K mg base 46 "applied" ["table", "tree"] (spApp K)) :
    Cal P w K mg base 47 "_law_does" ["_law_table_here", "_law_entry_here"] (spDoes K) := by
  refine D.cal scDo (fun vs H Q E h => ?_) (fun f cdv A outer s H vs Q E hr h => ?_)
  · obtain ⟨tv, v, es, e, rfl, _⟩ := h
    rfl
  obtain ⟨tv, v, es, e, rfl, htv, htb, hN, hem, hv, k⟩ := h
  have hr1 : Room 1 _ := hr.mono (by decide)
  refine ⟨_, pss_cons (ps_setLc (i := 2) (own := [("_law_other", 3)]) (g := gName 3) rfl scDo.nd rfl rfl (sw_true rfl rfl rfl (by decide +kernel)) (pi_tup (pv 0)) (blkOk_by (N := nDo) (sc := defScope (top 49)) (by decide +kernel))
        (fun _ _ _ _ _ => pg_name (i := 3) scDo.nd rfl (Or.inl rfl)) (fun _ _ _ _ _ => pts_one (pt_cmpR (r := rNeD K) (op_neD hr.units) (pv 3) (pv 1) (nomark _))) (fun _ _ _ _ _ => pv 3))
    (pss_cons (ps_set (i := 4) scDo.nd rfl (Or.inl rfl) (pe_ifExp (pt_cmpR op_eq (pe_ix ix_tup (pv 1) pe_int (fun _ _ => rfl)) pe_str (nomark _)) (pe_slice sl_tupA (pe_ix ix_tup (pv 1) pe_int (fun _ _ => rfl)) po_none (po_some (pe_un un_neg pe_int))) (pe_ix ix_tup (pv 1) pe_int (fun _ _ => rfl))))
    (pss_cons (ps_set (i := 5) scDo.nd rfl (Or.inl rfl) (pe_lst (pa_cons (pe_tup pa_nil) (pa_cons (pe_tup (pa_cons (pe_tup (pa_cons pe_str (pa_cons pe_int pa_nil))) pa_nil)) pa_nil))))
    (pss_cons (ps_mid (ps_if (pt_cmpR op_in_seq (pe_ix ix_tup (pv 1) pe_int (fun _ _ => rfl)) (pe_tup (pa_cons pe_str (pa_cons pe_str pa_nil))) (by rfl))
      (pss_one (ps_expr (pe_bm PySem.F.plainAttrs_list PySem.F.slot_list_append PySem.F.type_list_append mt_append (pv 5) (pa_cons (pe_tup (pa_cons (pe_tup (pa_cons (pe_ix ix_tup (pv 1) pe_int (fun _ _ => rfl)) (pa_cons pe_int pa_nil))) pa_nil)) pa_nil)))) pss_nil))
    (pss_cons (ps_for PassesOwn.never rfl (pi_list (pv 5)) (pg_name (i := 6) scDo.nd rfl (Or.inl rfl))
      (pss_cons (ps_set (i := 7) scDo.nd rfl (Or.inl rfl) (pe_c CC hr1 rfl (pa_cons (pv 4) (pa_cons (pv 6) pa_nil))))
      (pss_one (ps_if (pt_cmpR (op_neD hr.units) (pe_c CA hr rfl (pa_cons (pv 2) (pa_cons (pv 7) pa_nil))) (pe_c CA hr rfl (pa_cons (pv 0) (pa_cons (pv 7) pa_nil))) (nomark _)) (pss_one (ps_ret pe_bl)) pss_nil))))
    (pss_one (ps_ret pe_bl)))))), ?_⟩
  obtain ⟨a, xs, rfl, hs, hx⟩ := (show Da K H tv (.tuple (es.map Ent.data)) from htv).tupI
  have lx : xs.length = es.length := by rw [Paired.length hx, List.length_map]
  have len := htb.len
  have he := htb.ok e hem
  have ge := hv.gd
  -- rest
  refine ⟨_, rfl, a, rfl, ⟨_, hs⟩, fun L hL => ?_⟩
  refine lc_gen (walk_tup (xs := xs)) es (fun o => !PyData.eqv o.data e.data) Ent.data (Da K) stays_da hL lx.symm (by omega) (fun H2 s1 => SqT.sm s1 hs) yat_same (fun i y o H2 H3 N M ho s1 hy n m => ?_) (fun H1 ys s1 hL1 hys => ?_)
  · obtain ⟨rfl, hy⟩ := hy
    obtain ⟨dd, hdd, hyd⟩ := LiI.paired_get hx hy
    rw [List.getElem?_map, ho] at hdd
    cases hdd
    have oko := htb.ok o (List.mem_of_getElem? ho)
    refine ⟨rfl, _, rfl, _, rfl, o.data, e.data, (hyd.sm s1).dp, (hv.sm s1).dp, shaped_fit oko.fit (by omega), shaped_fit he.fit (by omega), _, rfl, ?_⟩
    cases hq : PyData.eqv o.data e.data with
    | true => exact iteF (m (by rw [hq]; rfl) _ (Same.refl _))
    | false => exact iteT ⟨_, rfl, n (by rw [hq]; rfl) _ _ (Same.refl _) (hyd.sm s1)⟩
  have tr : TbOk (es.filter fun o => !PyData.eqv o.data e.data) := htb.filter _
  have hrs := rest_iff htb.ok htb.nd hem
  -- path
  obtain ⟨b, x2, rest, rfl, hb, d2, hrest⟩ := ent_atP hv
  have hb1 := SqT.sm s1 hb
  refine ⟨_, rfl, b, _, _, _, rfl, rfl, hb1, atI_nat (j := 0) rfl, rfl, _, rfl, ?_⟩
  have path : ∀ N : VK, (∀ u H2, Same H1 H2 → Da K H2 u (dPath (cpath e)) → N u H2) → (if decide (V.str (tagOf e) = V.str "put") = true then tSl (rSlA K) (tOp (rIxT K) (tVar 1) (tC (.int 1))) tNoPart (tPart (tUn (rU fun i => .int (-i)) (tC (.int 1)))) [some (.ref a), some (.ref b), some (.ref L), none, none, none, none, none] H1 N
      else tOp (rIxT K) (tVar 1) (tC (.int 1)) [some (.ref a), some (.ref b), some (.ref L), none, none, none, none, none] H1 N) := fun N n => by
    cases e with
    | put p t =>
      refine iteD rfl ?_
      exact ⟨_, rfl, b, _, _, _, rfl, rfl, hb1, atI_nat (j := 1) rfl, 1, rfl, -1, rfl, slice_init (d2.sm s1) he.2.1 n⟩
    | drop p n2 => exact iteN (show ¬ V.str "drop" = V.str "put" by decide +kernel) ⟨_, rfl, b, _, _, _, rfl, rfl, hb1, atI_nat (j := 1) rfl, n _ _ (Same.refl _) (d2.sm s1)⟩
    | hide p => exact iteN (show ¬ V.str "hide" = V.str "put" by decide +kernel) ⟨_, rfl, b, _, _, _, rfl, rfl, hb1, atI_nat (j := 1) rfl, n _ _ (Same.refl _) (d2.sm s1)⟩
    | set p n2 v => exact iteN (show ¬ V.str "set" = V.str "put" by decide +kernel) ⟨_, rfl, b, _, _, _, rfl, rfl, hb1, atI_nat (j := 1) rfl, n _ _ (Same.refl _) (d2.sm s1)⟩
  refine path _ fun u H2 s2 du => ?_
  have s12 := s1.trans s2
  -- some
  refine ⟨Nat.zero_le _, fun t1 ht1 => ⟨by show 2 ≤ sizeLine; decide, fun t2 ht2 => ⟨by show 1 ≤ sizeLine; decide, fun t3 ht3 => ⟨by show 2 ≤ sizeLine; decide, fun S hS => ?_⟩⟩⟩⟩
  have q1 := Same.new ht1 (.tup [])
  have q2 := Same.new ht2 (.tup [.str nQQ, .int 1])
  have q3 := Same.new ht3 (.tup [.ref t2])
  have q4 := Same.new hS (.lst [.ref t1, .ref t3])
  obtain ⟨H3, eH3⟩ : ∃ B, B = L2.upd (L2.upd (L2.upd (L2.upd H2 t1 (.tup [])) t2 (.tup [.str nQQ, .int 1])) t3 (.tup [.ref t2])) S (.lst [.ref t1, .ref t3]) := ⟨_, rfl⟩
  have s23 : Same H2 H3 := by rw [eH3]; exact q1.trans (q2.trans (q3.trans q4))
  have S3 : H3 S = some (.lst [.ref t1, .ref t3]) := by rw [eH3]; exact upd_same
  have p1 : Da K H3 (.ref t1) (.tuple ((vPs []).map dPair)) := by rw [eH3]; exact da_nil.sm (q2.trans (q3.trans q4))
  have p2 : Da K H3 (.ref t3) (.tuple ((vPs [(nQQ, PVal.int 1)]).map dPair)) := by
    rw [eH3]
    exact (daTup (ds := [.tuple [.str nQQ, .int 1]]) (SqT.of upd_same) (.cons ((daTup (SqT.of upd_same) (.cons (daStr (nmB_ok nm_qq)) (.cons daInt .nil)) : Da K _ (.ref t2) (.tuple [.str nQQ, .int 1])).sm q3) .nil)).sm q4
  have e3 : L2.upd (L2.upd (L2.upd (L2.upd H2 t1 (.tup [])) t2 (.tup [.str "qq", .int 1])) t3 (.tup [.ref t2])) S (.lst [.ref t1, .ref t3]) = H3 := eH3.symm
  show tSeq _ _ _ _ (L2.upd (L2.upd (L2.upd (L2.upd H2 t1 (.tup [])) t2 (.tup [.str "qq", .int 1])) t3 (.tup [.ref t2])) S (.lst [.ref t1, .ref t3]))
  rw [e3]
  clear eH3 e3
  have s13 := s12.trans s23
  have hSH : H1 S = none := by
    cases e1 : H1 S with
    | none => rfl
    | some o =>
      have := q3 _ _ (q2 _ _ (q1 _ _ (s2 _ _ e1)))
      rw [hS] at this; cases this
  refine ⟨fun σ' H' => ∃ ys, σ' = [some (.ref a), some (.ref b), some (.ref L), none, some u, some (.ref S), none, none] ∧ KB S H3 H' ∧ H' S = some (.lst ys) ∧ Paired (Da K H') ys ((someP e).map fun X => .tuple ((vPs X).map dPair)), ?_, ?_⟩
  · have hb3 := SqT.sm s13 hb
    refine ⟨_, rfl, b, _, _, _, rfl, rfl, hb3, atI_nat (j := 0) rfl, by show 2 ≤ sizeLine; decide, fun c hc => ?_⟩
    have s4 : Same H3 (L2.upd H3 c (.tup [.str "set", .str "drop"])) := Same.new hc _
    have base2 : Paired (Da K (L2.upd H3 c (.tup [.str "set", .str "drop"]))) [.ref t1, .ref t3] (([[], [(nQQ, PVal.int 1)]] : List (List (Str × PVal))).map fun X => .tuple ((vPs X).map dPair)) := .cons (p1.sm s4) (.cons (p2.sm s4) .nil)
    refine ⟨c, _, rfl, .inr (SqT.of upd_same), rfl, rfl, e.isProp, ?_, ?_⟩
    · cases e with
      | drop _ _ => exact congrArg V.bl (show inV (.str "drop") [.str "set", .str "drop"] = true by decide +kernel)
      | hide _ => exact congrArg V.bl (show inV (.str "hide") [.str "set", .str "drop"] = false by decide +kernel)
      | put _ _ => exact congrArg V.bl (show inV (.str "put") [.str "set", .str "drop"] = false by decide +kernel)
      | set _ _ _ => exact congrArg V.bl (show inV (.str "set") [.str "set", .str "drop"] = true by decide +kernel)
    cases hp : e.isProp with
    | true =>
      refine iteT ?_
      have eP : (someP e).map (fun X => PyData.tuple ((vPs X).map dPair)) = (([[], [(nQQ, PVal.int 1)]] : List (List (Str × PVal))).map fun X => .tuple ((vPs X).map dPair)) ++ [.tuple ((vPs [(e.name, PVal.int 123456)]).map dPair)] := by
        unfold someP
        rw [if_pos hp, List.map_append]; rfl
      obtain ⟨r', rfl⟩ := hrest hp
      have hnm : PyData.strOk e.name = true := by
        cases e with
        | drop p n => exact nmB_ok he.2
        | set p n v => exact nmB_ok he.2.1
        | hide p => cases hp
        | put p t => cases hp
      have S4 := s4 _ _ S3
      have hb4 := SqT.sm s4 hb3
      refine ⟨_, rfl, .inl ⟨rfl, _, SqL.of S4⟩, _, rfl, b, _, _, _, rfl, rfl, hb4, atI_nat (j := 2) rfl, by show 2 ≤ sizeLine; decide, fun t5 ht5 => ⟨by show 1 ≤ sizeLine; decide, fun t6 ht6 => ?_⟩⟩
      have q5 := Same.new ht5 (.tup [.str e.name, .int 123456])
      have q6 := Same.new ht6 (.tup [.ref t5])
      have S6 := q6 _ _ (q5 _ _ S4)
      refine ⟨S, _, .ref t6, rfl, rfl, S6, by show 2 < sizeLine; decide, ?_⟩
      have dn : Da K (L2.upd (L2.upd (L2.upd H3 c (.tup [.str "set", .str "drop"])) t5 (.tup [.str e.name, .int 123456])) t6 (.tup [.ref t5])) (.ref t6) (.tuple ((vPs [(e.name, PVal.int 123456)]).map dPair)) := by
        exact daTup (ds := [.tuple [.str e.name, .int 123456]]) (SqT.of upd_same) (.cons ((daTup (SqT.of upd_same) (.cons (daStr hnm) (.cons daInt .nil)) : Da K _ (.ref t5) (.tuple [.str e.name, .int 123456])).sm q6) .nil)
      have tkU : TK (L2.upd (L2.upd (L2.upd H3 c (.tup [.str "set", .str "drop"])) t5 (.tup [.str e.name, .int 123456])) t6 (.tup [.ref t5])) (L2.upd (L2.upd (L2.upd (L2.upd H3 c (.tup [.str "set", .str "drop"])) t5 (.tup [.str e.name, .int 123456])) t6 (.tup [.ref t5])) S (.lst ([.ref t1, .ref t3] ++ [.ref t6]))) := TK.upd S6 (fun _ z => nomatch z) (fun _ _ z => nomatch z)
      refine ⟨_, rfl, (KB.of (s4.trans (q5.trans q6))).upd _, upd_same, ?_⟩
      rw [eP]
      exact paired_append (Paired.mapP base2 fun v d h => (h.sm (q5.trans q6)).tk tkU) (.cons (dn.tk tkU) .nil)
    | false =>
      have eP : (someP e).map (fun X => PyData.tuple ((vPs X).map dPair)) = (([[], [(nQQ, PVal.int 1)]] : List (List (Str × PVal))).map fun X => .tuple ((vPs X).map dPair)) := by
        unfold someP
        rw [if_neg (by rw [hp]; exact Bool.false_ne_true), List.append_nil]
      refine iteF ⟨_, rfl, KB.of s4, s4 _ _ S3, ?_⟩
      rw [eP]
      exact base2
  rintro σ' H4 ⟨zs, rfl, kb, S4, hzs⟩
  have s34 : Same H1 H4 := fun b o e1 => kb b o (ne_of_none e1 hSH) (s23 _ _ (s2 _ _ e1))
  have s04 := s1.trans s34
  have du4 : Da K H4 u (dPath (cpath e)) := (du.sm s23).tk (kb.tk S3)
  have lz : zs.length = (someP e).length := by rw [Paired.length hzs, List.length_map]
  have hcl := cpath_len e
  have hpb := he.path
  unfold pathB at hpb
  rw [Bool.and_eq_true, decide_eq_true_eq] at hpb
  obtain ⟨X0, hX0, hne⟩ := does hN hem hrs
  refine ⟨_, rfl, S, rfl, ⟨_, SqL.of S4⟩, ?_⟩
  refine for_it (walk_list (xs := zs)) (fun i σ H' => ∃ o6 o7, σ = [some (.ref a), some (.ref b), some (.ref L), none, some u, some (.ref S), o6, o7] ∧ Same H4 H' ∧ ∀ X ∈ (someP e).take i, madeT (es.filter fun o => !PyData.eqv o.data e.data) (chain (cpath e) ⟨X, .nil⟩) [] = madeT es (chain (cpath e) ⟨X, .nil⟩) [])
    ⟨_, _, rfl, Same.refl _, fun _ h => by cases h⟩ (fun i σ H' _ p => ?_) (fun i x σ H5 H6 hi p y => ?_) (fun σ H5 p => ?_)
  · obtain ⟨_, _, _, sm, _⟩ := p
    exact sm.seq (SqL.of S4)
  · obtain ⟨o6, o7, rfl, sm, heq⟩ := p
    obtain ⟨rfl, hy⟩ := y
    obtain ⟨X, hX⟩ : ∃ X, (someP e)[i]? = some X := ⟨_, List.getElem?_eq_getElem (by omega)⟩
    have hXm := List.mem_of_getElem? hX
    have dX : Da K H6 x (.tuple ((vPs X).map dPair)) := by
      obtain ⟨dd, hdd, hyd⟩ := LiI.paired_get hzs hy
      rw [List.getElem?_map, hX] at hdd
      cases hdd
      exact hyd.sm sm
    have ct9 : TOk 9 (chain (cpath e) ⟨X, .nil⟩) := (chain_ok (cpath_nm he) (someP_ok he X hXm)).le (by omega)
    refine ⟨_, rfl, _, rfl, u, x, cpath e, X, rfl, du4.sm sm, by omega, dX, fun r H7 s7 dr => ?_⟩
    have s17 := s34.trans (sm.trans s7)
    have tabR : TabAt K H7 (.ref L) (es.filter fun o => !PyData.eqv o.data e.data) := ⟨L, ys, rfl, .inl (s17.seq (SqL.of hL1)), Paired.mapP hys fun v d h => h.sm s17⟩
    refine ⟨_, rfl, _, rfl, _, r, _, _, rfl, tabR, tr, dr, ct9, fun r1 H8 s8 dr1 => ?_⟩
    refine ⟨_, rfl, _, rfl, _, r, _, _, rfl, (htv.sm (s1.trans (s17.trans s8))).tab, htb, dr.sm s8, ct9, fun r2 H9 s9 dr2 => ?_⟩
    refine ⟨_, _, (dr1.sm s9).dp, dr2.dp, shaped_made tr.ok ct9 dr1.gd, shaped_made htb.ok ct9 dr2.gd, _, rfl, ?_⟩
    have s19 := s17.trans (s8.trans s9)
    cases hq : PyData.eqv (madeT (es.filter fun o => !PyData.eqv o.data e.data) (chain (cpath e) ⟨X, .nil⟩) []) (madeT es (chain (cpath e) ⟨X, .nil⟩) []) with
    | true =>
      refine iteF ⟨_, _, rfl, sm.trans (s7.trans (s8.trans s9)), fun Z hZ => ?_⟩
      rw [List.take_add_one, hX] at hZ
      rcases List.mem_append.mp hZ with h | h
      · exact heq Z h
      · rw [List.mem_singleton.mp h]
        exact (eqv_eq _ _ dr1.gd dr2.gd).mp hq
    | false => exact iteT (k _ (s1.trans s19))
  · obtain ⟨o6, o7, rfl, sm, heq⟩ := p
    rw [lz, List.take_length] at heq
    exact absurd (heq X0 hX0) hne
end
end VN

/-! law. -/
namespace VN
open PySem PySem.Spec PyProof.Rows L2

theorem norm_normal {es : List Ent} (h : TbOk es) : Norm (normal es) where
  nd := (h.filter _).nd
  nz e he hp := by
    have := h.ok e (List.mem_filter.mp he).1
    cases e with
    | hide p => exact this.2
    | put p t => exact this.2.1
    | drop p n => cases hp
    | set p n v => cases hp
  ni o ho q hq e := by
    have h1 : (!idle (hidesOf es) o) = true := (List.mem_filter.mp ho).2
    have h2 : q ∈ hidesOf es := mem_hides.mpr (List.mem_filter.mp (mem_hides.mp hq)).1
    have h3 : ¬ (o.isProp = true ∨ o.path ≠ q) := fun z => by
      rw [idle_iff.mpr ⟨q, h2, e, z⟩] at h1
      cases h1
    refine ⟨?_, ?_⟩
    · cases hp : o.isProp with
      | false => rfl
      | true => exact absurd (.inl hp) h3
    · exact Classical.byContradiction fun z => h3 (.inr z)
theorem hides_ne {es : List Ent} (h : TbOk es) : ∀ q ∈ hidesOf es, q ≠ [] := fun q hq => (h.ok _ (mem_hides.mp hq)).2
def spLaw (K : PySem.W.Frag) : Sp := fun vs H Q _ => ∃ (a : Addr) (ns : List Int), vs = [.ref a] ∧ SqL K H a (ns.map V.int) ∧ ns.length ≤ 63 ∧ ∀ H', Q (.bl true) H'
section
variable {P : Program} {w : World} {K : PySem.W.Frag} {mg : Str → Option Value} {base : Heap} {k : Nat}
abbrev nLw : List Str := ["_law_script", "_law_stream", "_law_turn", "_law_tree_here", "_law_table_here", "_law_found", "_law_other", "_law_entry_here"]
theorem scLw : FnScope nLw ["_law_script"] (defScope (top 50)) := ⟨rfl, rfl, rfl, by decide +kernel, rfl, by decide +kernel, by decide +kernel⟩
theorem ok_law {f : Addr} {fd : FuncData} (F : Fun K "law" "law" (top 50) f fd) (T : Txt mg) (CD : Cal P w K mg base 1 "_law_draw" ["_law_stream", "_law_many"] spDraw) (CT : Cal P w K mg base 9 "_law_tree" ["_law_stream", "_law_left", "_law_deep"] (spLTree K 5))
    (CB : Cal P w K mg base 9 "_law_table" ["_law_stream", "_law_paths", "_law_most"] (spLTab K)) (CN : Cal P w K mg base 5 "_law_nodes" ["_law_tree_here"] (spLNodes K 5)) (CM : Cal P w K mg base 46 "normal" ["table"] (spNormal K)) (CA : Cal P w K mg base 46 "applied" ["table", "tree"] (spApp K))
    (CO : Cal P w K mg base 47 "_law_does" ["_law_table_here", "_law_entry_here"] (spDoes K)) : FnOk P w K mg base CX0 48 f fd ["_law_script"] (spLaw K) := by
  refine F.ok scLw (fun vs H Q E h => ?_) (fun cdv A outer s H vs Q E hr h => ?_)
  · obtain ⟨a, ns, rfl, _⟩ := h
    rfl
  obtain ⟨a, ns, rfl, hS, hlen, k⟩ := h
  have hr1 : Room 1 _ := hr.mono (by decide)
  have hr5 : Room 5 _ := hr.mono (by decide)
  have hr9 : Room 9 _ := hr.mono (by decide)
  have hr46 : Room 46 _ := hr.mono (by decide)
  refine ⟨_, pss_cons (ps_set (i := 1) scLw.nd rfl (Or.inl rfl) (pe_lst (pa_cons (pe_callTy call_list_of rfl T.list b_list (pa_cons (pv 0) pa_nil)) (pa_cons pe_int (pa_cons pe_int (pa_cons pe_int pa_nil))))))
    (pss_cons (ps_for PassesOwn.never rfl (pi_range1 rfl T.range (pa_cons pe_int pa_nil)) (pg_name (i := 2) scLw.nd rfl (Or.inl rfl))
      (pss_cons (ps_set (i := 3) scLw.nd rfl (Or.inl rfl) (pe_c CT hr9 rfl (pa_cons (pv 1) (pa_cons (pe_lst (pa_cons (pe_op op_add pe_int (pe_c CD hr1 rfl (pa_cons (pv 1) (pa_cons pe_int pa_nil)))) pa_nil)) (pa_cons pe_int pa_nil)))))
      (pss_cons (ps_set (i := 4) scLw.nd rfl (Or.inl rfl) (pe_c CB hr9 rfl (pa_cons (pv 1) (pa_cons (pe_c CN hr5 rfl (pa_cons (pv 3) pa_nil)) (pa_cons pe_int pa_nil)))))
      (pss_cons (ps_set (i := 5) scLw.nd rfl (Or.inr rfl) (pe_c CM hr46 rfl (pa_cons (pv 4) pa_nil)))
      (pss_cons (ps_if (pt_cmpR (op_neD hr.units) (pe_c CA hr46 rfl (pa_cons (pv 5) (pa_cons (pv 3) pa_nil))) (pe_c CA hr46 rfl (pa_cons (pv 4) (pa_cons (pv 3) pa_nil))) (nomark _)) (pss_one (ps_ret pe_bl)) pss_nil)
      (pss_cons (ps_set (i := 6) scLw.nd rfl (Or.inl rfl) (pe_c CT hr9 rfl (pa_cons (pv 1) (pa_cons (pe_lst (pa_cons (pe_op op_add pe_int (pe_c CD hr1 rfl (pa_cons (pv 1) (pa_cons pe_int pa_nil)))) pa_nil)) (pa_cons pe_int pa_nil)))))
      (pss_cons (ps_if (pt_cmpR (op_neD hr.units) (pe_c CA hr46 rfl (pa_cons (pv 5) (pa_cons (pv 6) pa_nil))) (pe_c CA hr46 rfl (pa_cons (pv 4) (pa_cons (pv 6) pa_nil))) (nomark _)) (pss_one (ps_ret pe_bl)) pss_nil)
      (pss_one (ps_if (pt_not (pt_val (pe_callB (cr_all rfl) rfl T.all b_all (pa_cons (pe_lc (own := [("_law_entry_here", 7)]) (g := gName 7) (tt := tYes) rfl scLw.nd (pi_tup (pv 5)) (blkOk_by (N := nLw) (sc := defScope (top 50)) (by decide +kernel))
        (fun _ _ _ _ _ => pg_name (i := 7) scLw.nd rfl (Or.inl rfl)) (fun _ _ _ _ _ => pts_nil) (fun _ _ _ _ _ => pe_c CO hr rfl (pa_cons (pv 5) (pa_cons (pv 7) pa_nil)))) pa_nil)))) (pss_one (ps_ret pe_bl)) pss_nil)))))))))
    (pss_one (ps_ret pe_bl))), ?_⟩
  -- stream = [list(script), 0, 0, 0]
  refine ⟨_, rfl, a, _, rfl, .inl hS, fun l0 hl0 => ⟨by show 4 ≤ sizeLine; decide, fun st hst => ?_⟩⟩
  have q1 : Same H (L2.upd H l0 (.lst (ns.map V.int))) := Same.new hl0 _
  have q2 := Same.new hst (.lst [.ref l0, .int 0, .int 0, .int 0])
  have st0 : Stm (L2.upd (L2.upd H l0 (.lst (ns.map V.int))) st (.lst [.ref l0, .int 0, .int 0, .int 0])) st l0 (20000 * 0) := ⟨ns, 0, 0, 0, upd_same, q2 _ _ upd_same, by omega, by omega, by omega, by omega, by omega, hlen⟩
  have e5 : ct 5 = 5203 := rfl
  refine ⟨4, rfl, by decide, by decide, ?_⟩
  refine for_it (walk_range (lo := 0) (n := (4 : Int).toNat)) (fun i σ H' => ∃ o2 o3 o4 o5 o6, σ = [some (.ref a), some (.ref st), o2, o3, o4, o5, o6, none] ∧ Stm H' st l0 (20000 * i))
    ⟨_, _, _, _, _, rfl, st0⟩ (fun _ _ _ _ _ => trivial) (fun i x σ H1 H2 hi p y => ?_) (fun σ H1 p => ?_)
  · obtain ⟨rfl, rfl⟩ := y
    obtain ⟨o2, o3, o4, o5, o6, rfl, st1⟩ := p
    have hi4 : i < 4 := hi
    -- the tree
    refine ⟨_, rfl, _, rfl, st, l0, 12, 20000 * i, rfl, by decide, by decide, st1, by omega, fun z H3 k3 st3 z0 z1 => ⟨_, _, rfl, rfl, by show 1 ≤ sizeLine; decide, fun lf hlf => ?_⟩⟩
    have s4 : Same H3 (L2.upd H3 lf (.lst [.int (1 + z)])) := Same.new hlf _
    have st4 := st3.sm s4
    refine ⟨st, l0, lf, 4, 1 + z, 20000 * i + 1, rfl, rfl, upd_same, new_ne hlf st3.at.1, new_ne hlf st3.at.2, st4, by rw [e5]; omega, fun tv H5 t z5 k5 lf5 st5 dt ht => ?_⟩
    rw [e5] at st5
    -- the table
    refine ⟨_, rfl, _, rfl, tv, t, rfl, dt, ht, fun lp ys H6 s6 hlp0 hlp hys => ?_⟩
    have st6 := st5.sm s6
    have lpt := paths_len (p := []) ht
    refine ⟨st, l0, lp, ys, pathsT t [], 10, 20000 * i + 1 + 5203, rfl, by decide, by decide, hlp, new_ne hlp0 st5.at.1, new_ne hlp0 st5.at.2, hys, (by unfold pathsT; exact fun z => nomatch z), Nat.le_trans lpt (by decide), fun q hq => ?_, st6, by omega, fun bv H7 es k7 st7 db htb => ?_⟩
    · obtain ⟨r, er, hl, hn⟩ := paths_in ht q hq
      have er : q = r := er
      subst er
      exact ⟨by omega, hn⟩
    have dt7 := (dt.sm s6).tk (st6.tk k7)
    have ht9 := ht.le (show 5 ≤ 9 by omega)
    -- normal
    refine ⟨_, rfl, bv, es, rfl, db.tab, htb, fun fv H8 s8 df => ?_⟩
    have tbn : TbOk (normal es) := htb.filter _
    -- the first look
    refine ⟨_, rfl, _, rfl, fv, tv, _, t, rfl, df.tab, tbn, dt7.sm s8, ht9, fun r1 H9 s9 d1 => ?_⟩
    refine ⟨_, rfl, _, rfl, bv, tv, _, t, rfl, (db.sm (s8.trans s9)).tab, htb, dt7.sm (s8.trans s9), ht9, fun r2 H10 s10 d2 => ?_⟩
    rw [made_normal (hides_ne htb) t] at d1
    refine ⟨_, _, (d1.sm s10).dp, d2.dp, shaped_made htb.ok ht9 d1.gd, shaped_made htb.ok ht9 d2.gd, _, rfl, ?_⟩
    rw [eqv_self d2.gd]
    refine iteF ?_
    have s710 := s8.trans (s9.trans s10)
    have st10 := st7.sm s710
    have db10 := db.sm s710
    have df10 := df.sm (s9.trans s10)
    -- the other tree
    refine ⟨_, rfl, _, rfl, st, l0, 12, 20000 * i + 1 + 5203 + 8000, rfl, by decide, by decide, st10, by omega, fun z2 H11 k11 st11 z20 z21 => ⟨_, _, rfl, rfl, by show 1 ≤ sizeLine; decide, fun lf2 hlf2 => ?_⟩⟩
    have s12 : Same H11 (L2.upd H11 lf2 (.lst [.int (1 + z2)])) := Same.new hlf2 _
    have st12 := st11.sm s12
    refine ⟨st, l0, lf2, 4, 1 + z2, 20000 * i + 1 + 5203 + 8000 + 1, rfl, rfl, upd_same, new_ne hlf2 st11.at.1, new_ne hlf2 st11.at.2, st12, by rw [e5]; omega, fun ov H13 t2 z13 k13 lf13 st13 do2 ht2 => ?_⟩
    rw [e5] at st13
    have tk13 : TK H10 H13 := ((st10.tk k11).trans (TK.of s12)).trans (st12.tk3 upd_same k13)
    have db13 := db10.tk tk13
    have df13 := df10.tk tk13
    have ht29 := ht2.le (show 5 ≤ 9 by omega)
    refine ⟨_, rfl, _, rfl, fv, ov, _, t2, rfl, df13.tab, tbn, do2, ht29, fun r3 H14 s14 d3 => ?_⟩
    refine ⟨_, rfl, _, rfl, bv, ov, _, t2, rfl, (db13.sm s14).tab, htb, do2.sm s14, ht29, fun r4 H15 s15 d4 => ?_⟩
    rw [made_normal (hides_ne htb) t2] at d3
    refine ⟨_, _, (d3.sm s15).dp, d4.dp, shaped_made htb.ok ht29 d3.gd, shaped_made htb.ok ht29 d4.gd, _, rfl, ?_⟩
    rw [eqv_self d4.gd]
    refine iteF ?_
    have s1315 := s14.trans s15
    have st15 := st13.sm s1315
    have df15 := df13.sm s1315
    -- every entry does something
    obtain ⟨b, xs, rfl, hb, hx⟩ := (show Da K H15 fv (.tuple ((normal es).map Ent.data)) from df15).tupI
    have lx : xs.length = (normal es).length := by rw [Paired.length hx, List.length_map]
    have ln := tbn.len
    refine ⟨_, rfl, b, rfl, ⟨_, hb⟩, fun M hM => ?_⟩
    refine lc_map (walk_tup (xs := xs)) (normal es) (fun _ => true) (fun _ v c => v = .bl c) stays_bl hM lx.symm (by omega) (fun H2 s1 => SqT.sm s1 hb) yat_same (fun j y e H16 H17 N he s16 hy n => ?_) (fun H16 zs s16 hM16 hzs => ?_)
    · obtain ⟨rfl, hy⟩ := hy
      obtain ⟨dd, hdd, hyd⟩ := LiI.paired_get hx hy
      rw [List.getElem?_map, he] at hdd
      cases hdd
      exact ⟨rfl, _, rfl, _, rfl, .ref b, y, normal es, e, rfl, df15.sm s16, tbn, norm_normal htb, List.mem_of_getElem? he, hyd.sm s16, fun H' s4 => n _ _ s4 rfl⟩
    rw [bls_of hzs] at hM16
    have e1 : (List.map (fun _ => true) (normal es)).all id = true := by simp
    refine ⟨M, _, rfl, SqL.of hM16, _, rfl, ?_⟩
    rw [e1]
    exact ⟨_, _, _, _, _, rfl, (st15.sm s16).le (by omega)⟩
  · obtain ⟨_, _, _, _, _, rfl, _⟩ := p
    exact k _
end
end VN

/-! What the top has written (printed by gen_head.py). -/
namespace VN
open PySem PySem.Spec PyProof.Rows L2
/-- what stands of a def in the written part -/
def RawF (K : PySem.W.Frag) (x qual : Str) (st : Stmt) (f : Addr) (oc : Value) (od an : Option Addr) (osl : Array (Option Value)) (kV doc pm cd ct : Value) : Prop :=
  K.lookup f = some ⟨oc, od, .func (PySem.W.fnOf x qual (defArgs st) (defBody st) (defScope st) .none kV doc pm an cd ct), osl⟩
theorem def_mk {K : PySem.W.Frag} {h : Heap} {mg : Str → Option Value} {x : Str} {st : Stmt} {ps : List Str} {f : Addr} {oc : Value} {od an : Option Addr} {osl : Array (Option Value)} {kV doc pm cd ct : Value} (X : K.In h) (G : h.Ns mainGlobals mg)
    (a : PySem.W.nsIn K mainGlobals x = some (some (.ref f))) (l : K.lookup f = some ⟨oc, od, .func (PySem.W.fnOf x x (defArgs st) (defBody st) (defScope st) .none kV doc pm an cd ct), osl⟩) (c : PySem.W.codeIn K cd x = true) (k : PySem.W.keepIn K (.ref f) = true)
    (b : ∀ (kV doc pm : Value) (an : Option Addr) (cdv ct : Value) (us : List Value), us.length = ps.length → bindArgs (PySem.W.fnOf x x (defArgs st) (defBody st) (defScope st) .none kV doc pm an cdv ct) ⟨us, []⟩ = pure (ps.zip us)) : Def K mg x st ps :=
  ⟨f, _, fun_mk l c k, PySem.W.mg_of X G a, (fun_mk l c k).binds b⟩

section
variable {P : Program} {w : World} {K : PySem.W.Frag} {mg : Str → Option Value} {base : Heap}
theorem law_all {C fI fL : Addr} {fdI fdL : FuncData} (T : Txt mg) (R : RTxt K mg C) (M : Mk K C fI) (FI : Fun K "__init__" "Rules.__init__" (inClass (top 29) 0) fI fdI) (bI : L2.Binds K fdI ["self", "entries"] []) (FL : Fun K "law" "law" (top 50) fL fdL)
    (D3 : Def K mg "as_tuples" (top 3) ["thing"])
    (D4 : Def K mg "is_name" (top 4) ["value"])
    (D5 : Def K mg "is_integer" (top 5) ["value"])
    (D6 : Def K mg "is_path" (top 6) ["value"])
    (D7 : Def K mg "is_link" (top 7) ["value"])
    (D8 : Def K mg "is_value" (top 8) ["value"])
    (D15 : Def K mg "are_named" (top 15) ["pairs"])
    (D16 : Def K mg "is_ascending" (top 16) ["pairs"])
    (D17 : Def K mg "is_tree_of" (top 17) ["value", "levels"])
    (D18 : Def K mg "is_tree" (top 18) ["value"])
    (D19 : Def K mg "checked_tree" (top 19) ["value"])
    (D20 : Def K mg "paths_of" (top 20) ["part", "path"])
    (D21 : Def K mg "nodes" (top 21) ["tree"])
    (D23 : Def K mg "is_put" (top 23) ["value"])
    (D24 : Def K mg "is_entry" (top 24) ["value"])
    (D25 : Def K mg "made_key" (top 25) ["entry"])
    (D26 : Def K mg "in_key_order" (top 26) ["entries"])
    (D27 : Def K mg "checked_table" (top 27) ["entries"])
    (D30 : Def K mg "made_props" (top 30) ["rules", "pairs", "path"])
    (D31 : Def K mg "made_tree" (top 31) ["rules", "part", "path"])
    (D32 : Def K mg "applied" (top 32) ["table", "tree"])
    (D34 : Def K mg "begins" (top 34) ["path", "other"])
    (D35 : Def K mg "is_idle" (top 35) ["entry", "hides"])
    (D36 : Def K mg "normal_table" (top 36) ["entries"])
    (D37 : Def K mg "normal" (top 37) ["table"])
    (D39 : Def K mg "_law_draw" (top 39) ["_law_stream", "_law_many"])
    (D40 : Def K mg "_law_path" (top 40) ["_law_stream", "_law_most"])
    (D41 : Def K mg "_law_value" (top 41) ["_law_stream"])
    (D42 : Def K mg "_law_props" (top 42) ["_law_stream"])
    (D43 : Def K mg "_law_tree" (top 43) ["_law_stream", "_law_left", "_law_deep"])
    (D44 : Def K mg "_law_nodes" (top 44) ["_law_tree_here"])
    (D45 : Def K mg "_law_key" (top 45) ["_law_entry_here"])
    (D46 : Def K mg "_law_entry" (top 46) ["_law_stream", "_law_paths"])
    (D47 : Def K mg "_law_table" (top 47) ["_law_stream", "_law_paths", "_law_most"])
    (D48 : Def K mg "_law_chain" (top 48) ["_law_path_here", "_law_props_here"])
    (D49 : Def K mg "_law_does" (top 49) ["_law_table_here", "_law_entry_here"])
    : FnOk P w K mg base CX0 48 fL fdL ["_law_script"] (spLaw K) := by
  have c3 := ok_as (P := P) (w := w) (base := base) D3 T 40
  have c4 := ok_name (P := P) (w := w) (base := base) D4 T
  have c5 := ok_int (P := P) (w := w) (base := base) D5 T
  have c6 := ok_path (P := P) (w := w) (base := base) D6 T c4
  have c7 := ok_link (P := P) (w := w) (base := base) D7 T c6
  have c8 := ok_value (P := P) (w := w) (base := base) D8 T c5 c4 c7
  have c15 := ok_named (P := P) (w := w) (base := base) D15 T c4
  have c16 := ok_asc (P := P) (w := w) (base := base) D16 T
  have c17 := treeOf_all (P := P) (w := w) (base := base) D17 T c15 c16 c8 9
  have c18 := ok_isTree (P := P) (w := w) (base := base) D18 T c17
  have c19 := ok_chkT (P := P) (w := w) (base := base) D19 T c3 c18
  have c20 := pathsOf_all (P := P) (w := w) (K := K) (base := base) D20 3 (by decide)
  have c21 := ok_nodes (P := P) (w := w) (base := base) D21 c19 c20
  have c23 := ok_put (P := P) (w := w) (base := base) D23 T c6 c18 c21
  have c24 := ok_entry (P := P) (w := w) (base := base) D24 T c6 c4 c8 c23
  have c25 := ok_key (P := P) (w := w) (K := K) (base := base) D25
  have c26 := ok_order (P := P) (w := w) (base := base) D26 T c25
  have c27 := ok_chk (P := P) (w := w) (base := base) D27 T c3 c24 c25 c26
  have cI := ok_init (P := P) (w := w) (base := base) FI T R
  have c30 := ok_props (P := P) (w := w) (base := base) D30 T R
  have c31 := made_all (P := P) (w := w) (base := base) D31 T R c30 9
  have c32 := ok_applied (P := P) (w := w) (base := base) D32 R M cI bI c27 c19 c31
  have c34 := ok_begins (P := P) (w := w) (K := K) (base := base) D34 T
  have c35 := ok_idle (P := P) (w := w) (base := base) D35 T c34
  have c36 := ok_nt (P := P) (w := w) (base := base) D36 T c35
  have c37 := ok_normal (P := P) (w := w) (base := base) D37 c36 c27
  have c39 := ok_draw (P := P) (w := w) (base := base) D39 T
  have c40 := ok_lpath (P := P) (w := w) (base := base) D40 T c39
  have c41 := ok_lval (P := P) (w := w) (base := base) D41 T c39 c40
  have c42 := ok_lprops (P := P) (w := w) (base := base) D42 T c39 c41
  have c43 := ltree_all (P := P) (w := w) (base := base) D43 T c39 c42
  have c44 := lnodes_all (P := P) (w := w) (K := K) (base := base) D44 5 (by decide)
  have c45 := ok_lkey (P := P) (w := w) (K := K) (base := base) D45
  have c46 := ok_lent (P := P) (w := w) (base := base) D46 T c39 c40 c41 (c43 3)
  have c47 := ok_ltab (P := P) (w := w) (base := base) D47 T c39 c46 c45
  have c48 := ok_chain (P := P) (w := w) (K := K) (base := base) D48
  have c49 := ok_does (P := P) (w := w) (base := base) D49 T c48 c32
  exact ok_law (P := P) (w := w) (base := base) FL T c39 (c43 5) c47 c44 c37 c32 c49
end
theorem all_mk {l : PySem.W.OpenLaw} {w : World} {K : PySem.W.Frag} {h : Heap} {mg : Str → Option Value} {fa C fI : Addr} (X : K.In h) (G : h.Ns mainGlobals mg) (hfa : mg "law" = some (.ref fa))
    {f3 f4 f5 f6 f7 f8 f15 f16 f17 f18 f19 f20 f21 f23 f24 f25 f26 f27 f30 f31 f32 f34 f35 f36 f37 f39 f40 f41 f42 f43 f44 f45 f46 f47 f48 f49 f50 : Addr}
    {odI anI od3 an3 od4 an4 od5 an5 od6 an6 od7 an7 od8 an8 od15 an15 od16 an16 od17 an17 od18 an18 od19 an19 od20 an20 od21 an21 od23 an23 od24 an24 od25 an25 od26 an26 od27 an27 od30 an30 od31 an31 od32 an32 od34 an34 od35 an35 od36 an36 od37 an37 od39 an39 od40 an40 od41 an41 od42 an42 od43 an43 od44 an44 od45 an45 od46 an46 od47 an47 od48 an48 od49 an49 od50 an50 : Option Addr} {slI sl3 sl4 sl5 sl6 sl7 sl8 sl15 sl16 sl17 sl18 sl19 sl20 sl21 sl23 sl24 sl25 sl26 sl27 sl30 sl31 sl32 sl34 sl35 sl36 sl37 sl39 sl40 sl41 sl42 sl43 sl44 sl45 sl46 sl47 sl48 sl49 sl50 : Array (Option Value)}
    {ocI kVI dcI pmI cdI ctI oc3 kV3 dc3 pm3 cd3 ct3 oc4 kV4 dc4 pm4 cd4 ct4 oc5 kV5 dc5 pm5 cd5 ct5 oc6 kV6 dc6 pm6 cd6 ct6 oc7 kV7 dc7 pm7 cd7 ct7 oc8 kV8 dc8 pm8 cd8 ct8 oc15 kV15 dc15 pm15 cd15 ct15 oc16 kV16 dc16 pm16 cd16 ct16 oc17 kV17 dc17 pm17 cd17 ct17 oc18 kV18 dc18 pm18 cd18 ct18 oc19 kV19 dc19 pm19 cd19 ct19 oc20 kV20 dc20 pm20 cd20 ct20 oc21 kV21 dc21 pm21 cd21 ct21 oc23 kV23 dc23 pm23 cd23 ct23 oc24 kV24 dc24 pm24 cd24 ct24 oc25 kV25 dc25 pm25 cd25 ct25 oc26 kV26 dc26 pm26 cd26 ct26 oc27 kV27 dc27 pm27 cd27 ct27 oc30 kV30 dc30 pm30 cd30 ct30 oc31 kV31 dc31 pm31 cd31 ct31 oc32 kV32 dc32 pm32 cd32 ct32 oc34 kV34 dc34 pm34 cd34 ct34 oc35 kV35 dc35 pm35 cd35 ct35 oc36 kV36 dc36 pm36 cd36 ct36 oc37 kV37 dc37 pm37 cd37 ct37 oc39 kV39 dc39 pm39 cd39 ct39 oc40 kV40 dc40 pm40 cd40 ct40 oc41 kV41 dc41 pm41 cd41 ct41 oc42 kV42 dc42 pm42 cd42 ct42 oc43 kV43 dc43 pm43 cd43 ct43 oc44 kV44 dc44 pm44 cd44 ct44 oc45 kV45 dc45 pm45 cd45 ct45 oc46 kV46 dc46 pm46 cd46 ct46 oc47 kV47 dc47 pm47 cd47 ct47 oc48 kV48 dc48 pm48 cd48 ct48 oc49 kV49 dc49 pm49 cd49 ct49 oc50 kV50 dc50 pm50 cd50 ct50 : Value} {tL tM : Tok}
    (a3 : PySem.W.nsIn K mainGlobals "as_tuples" = some (some (.ref f3)))
    (l3 : K.lookup f3 = some ⟨oc3, od3, .func (PySem.W.fnOf "as_tuples" "as_tuples" (defArgs (top 3)) (defBody (top 3)) (defScope (top 3)) .none kV3 dc3 pm3 an3 cd3 ct3), sl3⟩)
    (c3 : PySem.W.codeIn K cd3 "as_tuples" = true) (k3 : PySem.W.keepIn K (.ref f3) = true)
    (a4 : PySem.W.nsIn K mainGlobals "is_name" = some (some (.ref f4)))
    (l4 : K.lookup f4 = some ⟨oc4, od4, .func (PySem.W.fnOf "is_name" "is_name" (defArgs (top 4)) (defBody (top 4)) (defScope (top 4)) .none kV4 dc4 pm4 an4 cd4 ct4), sl4⟩)
    (c4 : PySem.W.codeIn K cd4 "is_name" = true) (k4 : PySem.W.keepIn K (.ref f4) = true)
    (a5 : PySem.W.nsIn K mainGlobals "is_integer" = some (some (.ref f5)))
    (l5 : K.lookup f5 = some ⟨oc5, od5, .func (PySem.W.fnOf "is_integer" "is_integer" (defArgs (top 5)) (defBody (top 5)) (defScope (top 5)) .none kV5 dc5 pm5 an5 cd5 ct5), sl5⟩)
    (c5 : PySem.W.codeIn K cd5 "is_integer" = true) (k5 : PySem.W.keepIn K (.ref f5) = true)
    (a6 : PySem.W.nsIn K mainGlobals "is_path" = some (some (.ref f6)))
    (l6 : K.lookup f6 = some ⟨oc6, od6, .func (PySem.W.fnOf "is_path" "is_path" (defArgs (top 6)) (defBody (top 6)) (defScope (top 6)) .none kV6 dc6 pm6 an6 cd6 ct6), sl6⟩)
    (c6 : PySem.W.codeIn K cd6 "is_path" = true) (k6 : PySem.W.keepIn K (.ref f6) = true)
    (a7 : PySem.W.nsIn K mainGlobals "is_link" = some (some (.ref f7)))
    (l7 : K.lookup f7 = some ⟨oc7, od7, .func (PySem.W.fnOf "is_link" "is_link" (defArgs (top 7)) (defBody (top 7)) (defScope (top 7)) .none kV7 dc7 pm7 an7 cd7 ct7), sl7⟩)
    (c7 : PySem.W.codeIn K cd7 "is_link" = true) (k7 : PySem.W.keepIn K (.ref f7) = true)
    (a8 : PySem.W.nsIn K mainGlobals "is_value" = some (some (.ref f8)))
    (l8 : K.lookup f8 = some ⟨oc8, od8, .func (PySem.W.fnOf "is_value" "is_value" (defArgs (top 8)) (defBody (top 8)) (defScope (top 8)) .none kV8 dc8 pm8 an8 cd8 ct8), sl8⟩)
    (c8 : PySem.W.codeIn K cd8 "is_value" = true) (k8 : PySem.W.keepIn K (.ref f8) = true)
    (a15 : PySem.W.nsIn K mainGlobals "are_named" = some (some (.ref f15)))
    (l15 : K.lookup f15 = some ⟨oc15, od15, .func (PySem.W.fnOf "are_named" "are_named" (defArgs (top 15)) (defBody (top 15)) (defScope (top 15)) .none kV15 dc15 pm15 an15 cd15 ct15), sl15⟩)
    (c15 : PySem.W.codeIn K cd15 "are_named" = true) (k15 : PySem.W.keepIn K (.ref f15) = true)
    (a16 : PySem.W.nsIn K mainGlobals "is_ascending" = some (some (.ref f16)))
    (l16 : K.lookup f16 = some ⟨oc16, od16, .func (PySem.W.fnOf "is_ascending" "is_ascending" (defArgs (top 16)) (defBody (top 16)) (defScope (top 16)) .none kV16 dc16 pm16 an16 cd16 ct16), sl16⟩)
    (c16 : PySem.W.codeIn K cd16 "is_ascending" = true) (k16 : PySem.W.keepIn K (.ref f16) = true)
    (a17 : PySem.W.nsIn K mainGlobals "is_tree_of" = some (some (.ref f17)))
    (l17 : K.lookup f17 = some ⟨oc17, od17, .func (PySem.W.fnOf "is_tree_of" "is_tree_of" (defArgs (top 17)) (defBody (top 17)) (defScope (top 17)) .none kV17 dc17 pm17 an17 cd17 ct17), sl17⟩)
    (c17 : PySem.W.codeIn K cd17 "is_tree_of" = true) (k17 : PySem.W.keepIn K (.ref f17) = true)
    (a18 : PySem.W.nsIn K mainGlobals "is_tree" = some (some (.ref f18)))
    (l18 : K.lookup f18 = some ⟨oc18, od18, .func (PySem.W.fnOf "is_tree" "is_tree" (defArgs (top 18)) (defBody (top 18)) (defScope (top 18)) .none kV18 dc18 pm18 an18 cd18 ct18), sl18⟩)
    (c18 : PySem.W.codeIn K cd18 "is_tree" = true) (k18 : PySem.W.keepIn K (.ref f18) = true)
    (a19 : PySem.W.nsIn K mainGlobals "checked_tree" = some (some (.ref f19)))
    (l19 : K.lookup f19 = some ⟨oc19, od19, .func (PySem.W.fnOf "checked_tree" "checked_tree" (defArgs (top 19)) (defBody (top 19)) (defScope (top 19)) .none kV19 dc19 pm19 an19 cd19 ct19), sl19⟩)
    (c19 : PySem.W.codeIn K cd19 "checked_tree" = true) (k19 : PySem.W.keepIn K (.ref f19) = true)
    (a20 : PySem.W.nsIn K mainGlobals "paths_of" = some (some (.ref f20)))
    (l20 : K.lookup f20 = some ⟨oc20, od20, .func (PySem.W.fnOf "paths_of" "paths_of" (defArgs (top 20)) (defBody (top 20)) (defScope (top 20)) .none kV20 dc20 pm20 an20 cd20 ct20), sl20⟩)
    (c20 : PySem.W.codeIn K cd20 "paths_of" = true) (k20 : PySem.W.keepIn K (.ref f20) = true)
    (a21 : PySem.W.nsIn K mainGlobals "nodes" = some (some (.ref f21)))
    (l21 : K.lookup f21 = some ⟨oc21, od21, .func (PySem.W.fnOf "nodes" "nodes" (defArgs (top 21)) (defBody (top 21)) (defScope (top 21)) .none kV21 dc21 pm21 an21 cd21 ct21), sl21⟩)
    (c21 : PySem.W.codeIn K cd21 "nodes" = true) (k21 : PySem.W.keepIn K (.ref f21) = true)
    (a23 : PySem.W.nsIn K mainGlobals "is_put" = some (some (.ref f23)))
    (l23 : K.lookup f23 = some ⟨oc23, od23, .func (PySem.W.fnOf "is_put" "is_put" (defArgs (top 23)) (defBody (top 23)) (defScope (top 23)) .none kV23 dc23 pm23 an23 cd23 ct23), sl23⟩)
    (c23 : PySem.W.codeIn K cd23 "is_put" = true) (k23 : PySem.W.keepIn K (.ref f23) = true)
    (a24 : PySem.W.nsIn K mainGlobals "is_entry" = some (some (.ref f24)))
    (l24 : K.lookup f24 = some ⟨oc24, od24, .func (PySem.W.fnOf "is_entry" "is_entry" (defArgs (top 24)) (defBody (top 24)) (defScope (top 24)) .none kV24 dc24 pm24 an24 cd24 ct24), sl24⟩)
    (c24 : PySem.W.codeIn K cd24 "is_entry" = true) (k24 : PySem.W.keepIn K (.ref f24) = true)
    (a25 : PySem.W.nsIn K mainGlobals "made_key" = some (some (.ref f25)))
    (l25 : K.lookup f25 = some ⟨oc25, od25, .func (PySem.W.fnOf "made_key" "made_key" (defArgs (top 25)) (defBody (top 25)) (defScope (top 25)) .none kV25 dc25 pm25 an25 cd25 ct25), sl25⟩)
    (c25 : PySem.W.codeIn K cd25 "made_key" = true) (k25 : PySem.W.keepIn K (.ref f25) = true)
    (a26 : PySem.W.nsIn K mainGlobals "in_key_order" = some (some (.ref f26)))
    (l26 : K.lookup f26 = some ⟨oc26, od26, .func (PySem.W.fnOf "in_key_order" "in_key_order" (defArgs (top 26)) (defBody (top 26)) (defScope (top 26)) .none kV26 dc26 pm26 an26 cd26 ct26), sl26⟩)
    (c26 : PySem.W.codeIn K cd26 "in_key_order" = true) (k26 : PySem.W.keepIn K (.ref f26) = true)
    (a27 : PySem.W.nsIn K mainGlobals "checked_table" = some (some (.ref f27)))
    (l27 : K.lookup f27 = some ⟨oc27, od27, .func (PySem.W.fnOf "checked_table" "checked_table" (defArgs (top 27)) (defBody (top 27)) (defScope (top 27)) .none kV27 dc27 pm27 an27 cd27 ct27), sl27⟩)
    (c27 : PySem.W.codeIn K cd27 "checked_table" = true) (k27 : PySem.W.keepIn K (.ref f27) = true)
    (a30 : PySem.W.nsIn K mainGlobals "made_props" = some (some (.ref f30)))
    (l30 : K.lookup f30 = some ⟨oc30, od30, .func (PySem.W.fnOf "made_props" "made_props" (defArgs (top 30)) (defBody (top 30)) (defScope (top 30)) .none kV30 dc30 pm30 an30 cd30 ct30), sl30⟩)
    (c30 : PySem.W.codeIn K cd30 "made_props" = true) (k30 : PySem.W.keepIn K (.ref f30) = true)
    (a31 : PySem.W.nsIn K mainGlobals "made_tree" = some (some (.ref f31)))
    (l31 : K.lookup f31 = some ⟨oc31, od31, .func (PySem.W.fnOf "made_tree" "made_tree" (defArgs (top 31)) (defBody (top 31)) (defScope (top 31)) .none kV31 dc31 pm31 an31 cd31 ct31), sl31⟩)
    (c31 : PySem.W.codeIn K cd31 "made_tree" = true) (k31 : PySem.W.keepIn K (.ref f31) = true)
    (a32 : PySem.W.nsIn K mainGlobals "applied" = some (some (.ref f32)))
    (l32 : K.lookup f32 = some ⟨oc32, od32, .func (PySem.W.fnOf "applied" "applied" (defArgs (top 32)) (defBody (top 32)) (defScope (top 32)) .none kV32 dc32 pm32 an32 cd32 ct32), sl32⟩)
    (c32 : PySem.W.codeIn K cd32 "applied" = true) (k32 : PySem.W.keepIn K (.ref f32) = true)
    (a34 : PySem.W.nsIn K mainGlobals "begins" = some (some (.ref f34)))
    (l34 : K.lookup f34 = some ⟨oc34, od34, .func (PySem.W.fnOf "begins" "begins" (defArgs (top 34)) (defBody (top 34)) (defScope (top 34)) .none kV34 dc34 pm34 an34 cd34 ct34), sl34⟩)
    (c34 : PySem.W.codeIn K cd34 "begins" = true) (k34 : PySem.W.keepIn K (.ref f34) = true)
    (a35 : PySem.W.nsIn K mainGlobals "is_idle" = some (some (.ref f35)))
    (l35 : K.lookup f35 = some ⟨oc35, od35, .func (PySem.W.fnOf "is_idle" "is_idle" (defArgs (top 35)) (defBody (top 35)) (defScope (top 35)) .none kV35 dc35 pm35 an35 cd35 ct35), sl35⟩)
    (c35 : PySem.W.codeIn K cd35 "is_idle" = true) (k35 : PySem.W.keepIn K (.ref f35) = true)
    (a36 : PySem.W.nsIn K mainGlobals "normal_table" = some (some (.ref f36)))
    (l36 : K.lookup f36 = some ⟨oc36, od36, .func (PySem.W.fnOf "normal_table" "normal_table" (defArgs (top 36)) (defBody (top 36)) (defScope (top 36)) .none kV36 dc36 pm36 an36 cd36 ct36), sl36⟩)
    (c36 : PySem.W.codeIn K cd36 "normal_table" = true) (k36 : PySem.W.keepIn K (.ref f36) = true)
    (a37 : PySem.W.nsIn K mainGlobals "normal" = some (some (.ref f37)))
    (l37 : K.lookup f37 = some ⟨oc37, od37, .func (PySem.W.fnOf "normal" "normal" (defArgs (top 37)) (defBody (top 37)) (defScope (top 37)) .none kV37 dc37 pm37 an37 cd37 ct37), sl37⟩)
    (c37 : PySem.W.codeIn K cd37 "normal" = true) (k37 : PySem.W.keepIn K (.ref f37) = true)
    (a39 : PySem.W.nsIn K mainGlobals "_law_draw" = some (some (.ref f39)))
    (l39 : K.lookup f39 = some ⟨oc39, od39, .func (PySem.W.fnOf "_law_draw" "_law_draw" (defArgs (top 39)) (defBody (top 39)) (defScope (top 39)) .none kV39 dc39 pm39 an39 cd39 ct39), sl39⟩)
    (c39 : PySem.W.codeIn K cd39 "_law_draw" = true) (k39 : PySem.W.keepIn K (.ref f39) = true)
    (a40 : PySem.W.nsIn K mainGlobals "_law_path" = some (some (.ref f40)))
    (l40 : K.lookup f40 = some ⟨oc40, od40, .func (PySem.W.fnOf "_law_path" "_law_path" (defArgs (top 40)) (defBody (top 40)) (defScope (top 40)) .none kV40 dc40 pm40 an40 cd40 ct40), sl40⟩)
    (c40 : PySem.W.codeIn K cd40 "_law_path" = true) (k40 : PySem.W.keepIn K (.ref f40) = true)
    (a41 : PySem.W.nsIn K mainGlobals "_law_value" = some (some (.ref f41)))
    (l41 : K.lookup f41 = some ⟨oc41, od41, .func (PySem.W.fnOf "_law_value" "_law_value" (defArgs (top 41)) (defBody (top 41)) (defScope (top 41)) .none kV41 dc41 pm41 an41 cd41 ct41), sl41⟩)
    (c41 : PySem.W.codeIn K cd41 "_law_value" = true) (k41 : PySem.W.keepIn K (.ref f41) = true)
    (a42 : PySem.W.nsIn K mainGlobals "_law_props" = some (some (.ref f42)))
    (l42 : K.lookup f42 = some ⟨oc42, od42, .func (PySem.W.fnOf "_law_props" "_law_props" (defArgs (top 42)) (defBody (top 42)) (defScope (top 42)) .none kV42 dc42 pm42 an42 cd42 ct42), sl42⟩)
    (c42 : PySem.W.codeIn K cd42 "_law_props" = true) (k42 : PySem.W.keepIn K (.ref f42) = true)
    (a43 : PySem.W.nsIn K mainGlobals "_law_tree" = some (some (.ref f43)))
    (l43 : K.lookup f43 = some ⟨oc43, od43, .func (PySem.W.fnOf "_law_tree" "_law_tree" (defArgs (top 43)) (defBody (top 43)) (defScope (top 43)) .none kV43 dc43 pm43 an43 cd43 ct43), sl43⟩)
    (c43 : PySem.W.codeIn K cd43 "_law_tree" = true) (k43 : PySem.W.keepIn K (.ref f43) = true)
    (a44 : PySem.W.nsIn K mainGlobals "_law_nodes" = some (some (.ref f44)))
    (l44 : K.lookup f44 = some ⟨oc44, od44, .func (PySem.W.fnOf "_law_nodes" "_law_nodes" (defArgs (top 44)) (defBody (top 44)) (defScope (top 44)) .none kV44 dc44 pm44 an44 cd44 ct44), sl44⟩)
    (c44 : PySem.W.codeIn K cd44 "_law_nodes" = true) (k44 : PySem.W.keepIn K (.ref f44) = true)
    (a45 : PySem.W.nsIn K mainGlobals "_law_key" = some (some (.ref f45)))
    (l45 : K.lookup f45 = some ⟨oc45, od45, .func (PySem.W.fnOf "_law_key" "_law_key" (defArgs (top 45)) (defBody (top 45)) (defScope (top 45)) .none kV45 dc45 pm45 an45 cd45 ct45), sl45⟩)
    (c45 : PySem.W.codeIn K cd45 "_law_key" = true) (k45 : PySem.W.keepIn K (.ref f45) = true)
    (a46 : PySem.W.nsIn K mainGlobals "_law_entry" = some (some (.ref f46)))
    (l46 : K.lookup f46 = some ⟨oc46, od46, .func (PySem.W.fnOf "_law_entry" "_law_entry" (defArgs (top 46)) (defBody (top 46)) (defScope (top 46)) .none kV46 dc46 pm46 an46 cd46 ct46), sl46⟩)
    (c46 : PySem.W.codeIn K cd46 "_law_entry" = true) (k46 : PySem.W.keepIn K (.ref f46) = true)
    (a47 : PySem.W.nsIn K mainGlobals "_law_table" = some (some (.ref f47)))
    (l47 : K.lookup f47 = some ⟨oc47, od47, .func (PySem.W.fnOf "_law_table" "_law_table" (defArgs (top 47)) (defBody (top 47)) (defScope (top 47)) .none kV47 dc47 pm47 an47 cd47 ct47), sl47⟩)
    (c47 : PySem.W.codeIn K cd47 "_law_table" = true) (k47 : PySem.W.keepIn K (.ref f47) = true)
    (a48 : PySem.W.nsIn K mainGlobals "_law_chain" = some (some (.ref f48)))
    (l48 : K.lookup f48 = some ⟨oc48, od48, .func (PySem.W.fnOf "_law_chain" "_law_chain" (defArgs (top 48)) (defBody (top 48)) (defScope (top 48)) .none kV48 dc48 pm48 an48 cd48 ct48), sl48⟩)
    (c48 : PySem.W.codeIn K cd48 "_law_chain" = true) (k48 : PySem.W.keepIn K (.ref f48) = true)
    (a49 : PySem.W.nsIn K mainGlobals "_law_does" = some (some (.ref f49)))
    (l49 : K.lookup f49 = some ⟨oc49, od49, .func (PySem.W.fnOf "_law_does" "_law_does" (defArgs (top 49)) (defBody (top 49)) (defScope (top 49)) .none kV49 dc49 pm49 an49 cd49 ct49), sl49⟩)
    (c49 : PySem.W.codeIn K cd49 "_law_does" = true) (k49 : PySem.W.keepIn K (.ref f49) = true)
    (a50 : PySem.W.nsIn K mainGlobals "law" = some (some (.ref f50)))
    (l50 : K.lookup f50 = some ⟨oc50, od50, .func (PySem.W.fnOf "law" "law" (defArgs (top 50)) (defBody (top 50)) (defScope (top 50)) .none kV50 dc50 pm50 an50 cd50 ct50), sl50⟩)
    (c50 : PySem.W.codeIn K cd50 "law" = true) (k50 : PySem.W.keepIn K (.ref f50) = true)
    (aC : PySem.W.nsIn K mainGlobals "Rules" = some (some (.ref C))) (aI : PySem.W.findIn K (.ref C) "__init__" = some (some (.ref fI))) (iI : PySem.W.isFn K (.ref fI) = true)
    (lI : K.lookup fI = some ⟨ocI, odI, .func (PySem.W.fnOf "__init__" "Rules.__init__" (defArgs (inClass (top 29) 0)) (defBody (inClass (top 29) 0)) (defScope (inClass (top 29) 0)) .none kVI dcI pmI anI cdI ctI), slI⟩) (cI : PySem.W.codeIn K cdI "Rules.__init__" = true) (kI : PySem.W.keepIn K (.ref fI) = true)
    (pg : PySem.W.plainGet K C Str.empty = true) (hd : PySem.W.hasDictIn K C = true) (po : PySem.W.plainOver K C = true) (sa : PySem.W.findIn K (.ref C) "__setattr__" = some (some (.builtin "object.__setattr__"))) (mk : PySem.W.makesIn K C = true) (kc : PySem.W.keepIn K (.ref C) = true)
    (nH : PySem.W.findIn K (.ref C) "hides" = some none) (nP : PySem.W.findIn K (.ref C) "puts" = some none) (nB : PySem.W.findIn K (.ref C) "below" = some none) (nR : PySem.W.findIn K (.ref C) "props" = some none)
    (vL : PySem.W.nsIn K mainGlobals "LETTERS" = some (some (.str "abcdefghijklmnopqrstuvwxyz" tL))) (vM : PySem.W.nsIn K mainGlobals "MOST" = some (some (.int 8 tM)))
    (z_isinstance : PySem.W.nsIn K mainGlobals "isinstance" = some none)
    (z_len : PySem.W.nsIn K mainGlobals "len" = some none)
    (z_all : PySem.W.nsIn K mainGlobals "all" = some none)
    (z_any : PySem.W.nsIn K mainGlobals "any" = some none)
    (z_sorted : PySem.W.nsIn K mainGlobals "sorted" = some none)
    (z_set : PySem.W.nsIn K mainGlobals "set" = some none)
    (z_dict : PySem.W.nsIn K mainGlobals "dict" = some none)
    (z_tuple : PySem.W.nsIn K mainGlobals "tuple" = some none)
    (z_list : PySem.W.nsIn K mainGlobals "list" = some none)
    (z_int : PySem.W.nsIn K mainGlobals "int" = some none)
    (z_str : PySem.W.nsIn K mainGlobals "str" = some none)
    (z_bool : PySem.W.nsIn K mainGlobals "bool" = some none)
    (z_enumerate : PySem.W.nsIn K mainGlobals "enumerate" = some none)
    (z_range : PySem.W.nsIn K mainGlobals "range" = some none)
    : ∃ fd : FuncData, (∀ (s : Shared) (v : Value), BindsTo s fd ⟨[v], []⟩ [("_law_script", v)]) ∧ ∀ base : Heap, K.In base → base.Ns mainGlobals mg → FnOk l.prog w K mg base CX0 48 fa fd ["_law_script"] (spLaw K) := by
  have e := hfa.symm.trans (PySem.W.mg_of X G a50)
  cases e
  have T : Txt mg := { isi := PySem.W.mg_none_of X G z_isinstance, len := PySem.W.mg_none_of X G z_len, all := PySem.W.mg_none_of X G z_all, any := PySem.W.mg_none_of X G z_any, sorted := PySem.W.mg_none_of X G z_sorted, set := PySem.W.mg_none_of X G z_set, dict := PySem.W.mg_none_of X G z_dict, tuple := PySem.W.mg_none_of X G z_tuple, list := PySem.W.mg_none_of X G z_list, int := PySem.W.mg_none_of X G z_int, str := PySem.W.mg_none_of X G z_str, bool := PySem.W.mg_none_of X G z_bool, enumerate := PySem.W.mg_none_of X G z_enumerate, range := PySem.W.mg_none_of X G z_range, letters := ⟨tL, PySem.W.mg_of X G vL⟩, most := ⟨tM, PySem.W.mg_of X G vM⟩ }
  have R : RTxt K mg C := ⟨⟨pg, hd, po, sa⟩, nH, nP, nB, nR, PySem.W.mg_of X G aC⟩
  have FI := fun_mk (st := inClass (top 29) 0) lI cI kI
  have bI := FI.binds (ps := ["self", "entries"]) fun _ _ _ _ _ _ us hl => match us, hl with | [_, _], _ => rfl
  refine ⟨PySem.W.fnOf "law" "law" (defArgs (top 50)) (defBody (top 50)) (defScope (top 50)) .none kV50 dc50 pm50 an50 cd50 ct50, fun s v => .of_eq rfl, fun base _ _ => ?_⟩
  exact law_all T R ⟨mk, aI, iI, kc⟩ FI bI (fun_mk (st := top 50) l50 c50 k50)
    (def_mk X G a3 l3 c3 k3 fun _ _ _ _ _ _ us hl => match us, hl with | [_], _ => rfl)
    (def_mk X G a4 l4 c4 k4 fun _ _ _ _ _ _ us hl => match us, hl with | [_], _ => rfl)
    (def_mk X G a5 l5 c5 k5 fun _ _ _ _ _ _ us hl => match us, hl with | [_], _ => rfl)
    (def_mk X G a6 l6 c6 k6 fun _ _ _ _ _ _ us hl => match us, hl with | [_], _ => rfl)
    (def_mk X G a7 l7 c7 k7 fun _ _ _ _ _ _ us hl => match us, hl with | [_], _ => rfl)
    (def_mk X G a8 l8 c8 k8 fun _ _ _ _ _ _ us hl => match us, hl with | [_], _ => rfl)
    (def_mk X G a15 l15 c15 k15 fun _ _ _ _ _ _ us hl => match us, hl with | [_], _ => rfl)
    (def_mk X G a16 l16 c16 k16 fun _ _ _ _ _ _ us hl => match us, hl with | [_], _ => rfl)
    (def_mk X G a17 l17 c17 k17 fun _ _ _ _ _ _ us hl => match us, hl with | [_, _], _ => rfl)
    (def_mk X G a18 l18 c18 k18 fun _ _ _ _ _ _ us hl => match us, hl with | [_], _ => rfl)
    (def_mk X G a19 l19 c19 k19 fun _ _ _ _ _ _ us hl => match us, hl with | [_], _ => rfl)
    (def_mk X G a20 l20 c20 k20 fun _ _ _ _ _ _ us hl => match us, hl with | [_, _], _ => rfl)
    (def_mk X G a21 l21 c21 k21 fun _ _ _ _ _ _ us hl => match us, hl with | [_], _ => rfl)
    (def_mk X G a23 l23 c23 k23 fun _ _ _ _ _ _ us hl => match us, hl with | [_], _ => rfl)
    (def_mk X G a24 l24 c24 k24 fun _ _ _ _ _ _ us hl => match us, hl with | [_], _ => rfl)
    (def_mk X G a25 l25 c25 k25 fun _ _ _ _ _ _ us hl => match us, hl with | [_], _ => rfl)
    (def_mk X G a26 l26 c26 k26 fun _ _ _ _ _ _ us hl => match us, hl with | [_], _ => rfl)
    (def_mk X G a27 l27 c27 k27 fun _ _ _ _ _ _ us hl => match us, hl with | [_], _ => rfl)
    (def_mk X G a30 l30 c30 k30 fun _ _ _ _ _ _ us hl => match us, hl with | [_, _, _], _ => rfl)
    (def_mk X G a31 l31 c31 k31 fun _ _ _ _ _ _ us hl => match us, hl with | [_, _, _], _ => rfl)
    (def_mk X G a32 l32 c32 k32 fun _ _ _ _ _ _ us hl => match us, hl with | [_, _], _ => rfl)
    (def_mk X G a34 l34 c34 k34 fun _ _ _ _ _ _ us hl => match us, hl with | [_, _], _ => rfl)
    (def_mk X G a35 l35 c35 k35 fun _ _ _ _ _ _ us hl => match us, hl with | [_, _], _ => rfl)
    (def_mk X G a36 l36 c36 k36 fun _ _ _ _ _ _ us hl => match us, hl with | [_], _ => rfl)
    (def_mk X G a37 l37 c37 k37 fun _ _ _ _ _ _ us hl => match us, hl with | [_], _ => rfl)
    (def_mk X G a39 l39 c39 k39 fun _ _ _ _ _ _ us hl => match us, hl with | [_, _], _ => rfl)
    (def_mk X G a40 l40 c40 k40 fun _ _ _ _ _ _ us hl => match us, hl with | [_, _], _ => rfl)
    (def_mk X G a41 l41 c41 k41 fun _ _ _ _ _ _ us hl => match us, hl with | [_], _ => rfl)
    (def_mk X G a42 l42 c42 k42 fun _ _ _ _ _ _ us hl => match us, hl with | [_], _ => rfl)
    (def_mk X G a43 l43 c43 k43 fun _ _ _ _ _ _ us hl => match us, hl with | [_, _, _], _ => rfl)
    (def_mk X G a44 l44 c44 k44 fun _ _ _ _ _ _ us hl => match us, hl with | [_], _ => rfl)
    (def_mk X G a45 l45 c45 k45 fun _ _ _ _ _ _ us hl => match us, hl with | [_], _ => rfl)
    (def_mk X G a46 l46 c46 k46 fun _ _ _ _ _ _ us hl => match us, hl with | [_, _], _ => rfl)
    (def_mk X G a47 l47 c47 k47 fun _ _ _ _ _ _ us hl => match us, hl with | [_, _, _], _ => rfl)
    (def_mk X G a48 l48 c48 k48 fun _ _ _ _ _ _ us hl => match us, hl with | [_, _], _ => rfl)
    (def_mk X G a49 l49 c49 k49 fun _ _ _ _ _ _ us hl => match us, hl with | [_, _], _ => rfl)
theorem walk {l : PySem.W.OpenLaw} {q : Program} {loose : List Str} {XP : (Str → Option Value) → Heap → Prop} {YP : World → Heap → Prop} {d : DefRec} {K : Params → PySem.W.Frag} (hn : l.most = some 63) (hdf : d.params.defaults = [])
    (hY : ∀ (w : World) (h : Heap), YP w h → (K w.params).In h)
    (F : ∀ (w : World) (mg : Str → Option Value) (fa : Addr) (h : Heap), (K w.params).In h → h.Ns mainGlobals mg → mg d.name = some (.ref fa) →
      ∃ fd : FuncData, (∀ (s : Shared) (u : Value), BindsTo s fd ⟨[u], []⟩ [("_law_script", u)]) ∧ ∀ base : Heap, (K w.params).In base → base.Ns mainGlobals mg → FnOk l.prog w (K w.params) mg base CX0 48 fa fd ["_law_script"] (spLaw (K w.params))) :
    PySem.W.WalkO q loose XP YP l.row.toRowW d [] (fun f vs => PySem.call f vs) :=
  L2.walk_of (n := 63) (k := 48) (x := "_law_script") (CX := fun _ => CX0) (sp := fun w => spLaw (K w.params)) hn (by decide) hdf ⟨rfl, by decide, by decide⟩ hY F (fun _ _ a ns hl _ hS => ⟨a, ns, rfl, hS, hl, fun _ => rfl⟩) fun _ _ _ _ _ z => z
end VN

open PySem PySem.W PyProof.Rows in
set_option maxRecDepth 100000 in
set_option maxHeartbeats 0 in
theorem PySem.Challenge.cw_variantnest_k33_whole_normal_does_the_sa_holds : PySem.Challenge.rw_variantnest_k33_whole_normal_does_the_sa.Holds := by
  w_on; o_law; k_head; (case hw => w_witness2)
  k_fill
  refine VN.walk (l := PySem.Challenge.rw_variantnest_k33_whole_normal_does_the_sa) rfl rfl (fun w h Y => PySem.W.kIn_of Y) ?F
  case F =>
    intro w mg fa h KX G hmg
    refine' VN.all_mk KX G hmg ?a3 ?l3 ?c3 ?k3 ?a4 ?l4 ?c4 ?k4 ?a5 ?l5 ?c5 ?k5 ?a6 ?l6 ?c6 ?k6 ?a7 ?l7 ?c7 ?k7 ?a8 ?l8 ?c8 ?k8 ?a15 ?l15 ?c15 ?k15 ?a16 ?l16 ?c16 ?k16 ?a17 ?l17 ?c17 ?k17 ?a18 ?l18 ?c18 ?k18 ?a19 ?l19 ?c19 ?k19 ?a20 ?l20 ?c20 ?k20 ?a21 ?l21 ?c21 ?k21 ?a23 ?l23 ?c23 ?k23 ?a24 ?l24 ?c24 ?k24 ?a25 ?l25 ?c25 ?k25 ?a26 ?l26 ?c26 ?k26 ?a27 ?l27 ?c27 ?k27 ?a30 ?l30 ?c30 ?k30 ?a31 ?l31 ?c31 ?k31 ?a32 ?l32 ?c32 ?k32 ?a34 ?l34 ?c34 ?k34 ?a35 ?l35 ?c35 ?k35 ?a36 ?l36 ?c36 ?k36 ?a37 ?l37 ?c37 ?k37 ?a39 ?l39 ?c39 ?k39 ?a40 ?l40 ?c40 ?k40 ?a41 ?l41 ?c41 ?k41 ?a42 ?l42 ?c42 ?k42 ?a43 ?l43 ?c43 ?k43 ?a44 ?l44 ?c44 ?k44 ?a45 ?l45 ?c45 ?k45 ?a46 ?l46 ?c46 ?k46 ?a47 ?l47 ?c47 ?k47 ?a48 ?l48 ?c48 ?k48 ?a49 ?l49 ?c49 ?k49 ?a50 ?l50 ?c50 ?k50 ?aC ?aI ?iI ?lI ?cI ?kI ?pg ?hd ?po ?sa ?mk ?kc ?nH ?nP ?nB ?nR ?vL ?vM ?z_isinstance ?z_len ?z_all ?z_any ?z_sorted ?z_set ?z_dict ?z_tuple ?z_list ?z_int ?z_str ?z_bool ?z_enumerate ?z_range
    (case a3 => k_is)
    (case l3 => k_is)
    (case c3 => k_is)
    (case k3 => k_is)
    (case a4 => k_is)
    (case l4 => k_is)
    (case c4 => k_is)
    (case k4 => k_is)
    (case a5 => k_is)
    (case l5 => k_is)
    (case c5 => k_is)
    (case k5 => k_is)
    (case a6 => k_is)
    (case l6 => k_is)
    (case c6 => k_is)
    (case k6 => k_is)
    (case a7 => k_is)
    (case l7 => k_is)
    (case c7 => k_is)
    (case k7 => k_is)
    (case a8 => k_is)
    (case l8 => k_is)
    (case c8 => k_is)
    (case k8 => k_is)
    (case a15 => k_is)
    (case l15 => k_is)
    (case c15 => k_is)
    (case k15 => k_is)
    (case a16 => k_is)
    (case l16 => k_is)
    (case c16 => k_is)
    (case k16 => k_is)
    (case a17 => k_is)
    (case l17 => k_is)
    (case c17 => k_is)
    (case k17 => k_is)
    (case a18 => k_is)
    (case l18 => k_is)
    (case c18 => k_is)
    (case k18 => k_is)
    (case a19 => k_is)
    (case l19 => k_is)
    (case c19 => k_is)
    (case k19 => k_is)
    (case a20 => k_is)
    (case l20 => k_is)
    (case c20 => k_is)
    (case k20 => k_is)
    (case a21 => k_is)
    (case l21 => k_is)
    (case c21 => k_is)
    (case k21 => k_is)
    (case a23 => k_is)
    (case l23 => k_is)
    (case c23 => k_is)
    (case k23 => k_is)
    (case a24 => k_is)
    (case l24 => k_is)
    (case c24 => k_is)
    (case k24 => k_is)
    (case a25 => k_is)
    (case l25 => k_is)
    (case c25 => k_is)
    (case k25 => k_is)
    (case a26 => k_is)
    (case l26 => k_is)
    (case c26 => k_is)
    (case k26 => k_is)
    (case a27 => k_is)
    (case l27 => k_is)
    (case c27 => k_is)
    (case k27 => k_is)
    (case a30 => k_is)
    (case l30 => k_is)
    (case c30 => k_is)
    (case k30 => k_is)
    (case a31 => k_is)
    (case l31 => k_is)
    (case c31 => k_is)
    (case k31 => k_is)
    (case a32 => k_is)
    (case l32 => k_is)
    (case c32 => k_is)
    (case k32 => k_is)
    (case a34 => k_is)
    (case l34 => k_is)
    (case c34 => k_is)
    (case k34 => k_is)
    (case a35 => k_is)
    (case l35 => k_is)
    (case c35 => k_is)
    (case k35 => k_is)
    (case a36 => k_is)
    (case l36 => k_is)
    (case c36 => k_is)
    (case k36 => k_is)
    (case a37 => k_is)
    (case l37 => k_is)
    (case c37 => k_is)
    (case k37 => k_is)
    (case a39 => k_is)
    (case l39 => k_is)
    (case c39 => k_is)
    (case k39 => k_is)
    (case a40 => k_is)
    (case l40 => k_is)
    (case c40 => k_is)
    (case k40 => k_is)
    (case a41 => k_is)
    (case l41 => k_is)
    (case c41 => k_is)
    (case k41 => k_is)
    (case a42 => k_is)
    (case l42 => k_is)
    (case c42 => k_is)
    (case k42 => k_is)
    (case a43 => k_is)
    (case l43 => k_is)
    (case c43 => k_is)
    (case k43 => k_is)
    (case a44 => k_is)
    (case l44 => k_is)
    (case c44 => k_is)
    (case k44 => k_is)
    (case a45 => k_is)
    (case l45 => k_is)
    (case c45 => k_is)
    (case k45 => k_is)
    (case a46 => k_is)
    (case l46 => k_is)
    (case c46 => k_is)
    (case k46 => k_is)
    (case a47 => k_is)
    (case l47 => k_is)
    (case c47 => k_is)
    (case k47 => k_is)
    (case a48 => k_is)
    (case l48 => k_is)
    (case c48 => k_is)
    (case k48 => k_is)
    (case a49 => k_is)
    (case l49 => k_is)
    (case c49 => k_is)
    (case k49 => k_is)
    (case a50 => k_is)
    (case l50 => k_is)
    (case c50 => k_is)
    (case k50 => k_is)
    (case aC => k_is)
    (case aI => k_is)
    (case iI => k_is)
    (case lI => k_is)
    (case cI => k_is)
    (case kI => k_is)
    (case pg => k_is)
    (case hd => k_is)
    (case po => k_is)
    (case sa => k_is)
    (case mk => k_is)
    (case kc => k_is)
    (case nH => k_is)
    (case nP => k_is)
    (case nB => k_is)
    (case nR => k_is)
    (case vL => k_is)
    (case vM => k_is)
    (case z_isinstance => k_is)
    (case z_len => k_is)
    (case z_all => k_is)
    (case z_any => k_is)
    (case z_sorted => k_is)
    (case z_set => k_is)
    (case z_dict => k_is)
    (case z_tuple => k_is)
    (case z_list => k_is)
    (case z_int => k_is)
    (case z_str => k_is)
    (case z_bool => k_is)
    (case z_enumerate => k_is)
    (case z_range => k_is)
