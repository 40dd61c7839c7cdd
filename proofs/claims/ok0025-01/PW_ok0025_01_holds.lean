import PyProof.Rows.All
import Wide.All
import OpenK.AllK
import Wide.FinOn
import PySem.Challenge.RW_ok0025_01
open PySem PySem.W PyProof.Rows
set_option Elab.async false
set_option maxRecDepth 100000
set_option linter.unusedVariables false
set_option linter.unusedSimpArgs false
noncomputable section
set_option genSizeOf false
set_option genInjectivity false

namespace Mine

/-! abstract values and states -/
inductive AV where
  | none
  | bool (b : Bool)
  | int (i : Int)
  | str (s : Str)
  | ref (a : Addr)
  | tup (l : List AV)
  | lst (l : List AV)
  | rng (a b c : Int)
  | inst (x C : Addr) (l : List (Nat × AV))

noncomputable abbrev Fz := Addr → Option Obj

/-- the numbered names -/
noncomputable def nmTab : List Str := ([
  "self", "fixed_atoms", "fixed_functors", "Symbols", "Cells", "Store", "PairSet", "push_arguments", "push_pairs", "same_shape", "is_variable", "rank", 
  "order", "compare_shapes", "compare_tops", "compare", "identical", "variables", "ground", "variable_number", "variant", "subsumes", "_law_open", "_law_pull", 
  "_law_tree", "_law_pair", "_law_filled", "_law_next", "law", "__init__", "F_DOT", "atom", "text", "functor", "func", "name", "arity", "label", "count", 
  "functor_count", "known", "REF", "SRF", "STR", "LIS", "CON", "INT", "FUN", "push", "new_var", "reserve", "trim", "deref", "is_unbound", "bind", "bind_pair", 
  "globalise", "mark", "undo_to", "stack_put", "is_compound", "functor_of", "width", "base", "arg", "new_block", "new_struct", "build_list", "list_cells", 
  "put_term", "take_term", "add", "k", "symbols", "store", "cell", "work", "place", "step", "left", "right", "left_place", "right_place", "tag", "f", "g", 
  "result", "kind", "c1", "c2", "met", "found", "noted", "forward", "backward", "general", "special", "fixed", "chosen", "script", "row", "ways", "names", 
  "deep", "tree", "table", "way", "first", "trees", "cells", "copies", "heap_before", "above", "one", "texts", "atom_numbers", "functors", "functor_numbers", 
  "number", "key", "max_heap", "heap", "stack", "trail", "hb", "bb", "address", "h", "value", "i", "start", "tail", "term", "made", "waiting", "at", "span", 
  "range", "set", "left_over", "reverse", "second", "made_one", "third", "made_two", "list", "other", "get", "len", "append", "tuple", "fresh", "item", 
  "items", "pop", "a", "b", "abs", "alike", "last", "lap", "kid", "min", "inner"] : List String).map Str.ofString
noncomputable def nm (i : Nat) : Str := (nmTab[i]?).getD ⟨#[2097152 + i]⟩
noncomputable def nmKey (s : Str) : Nat := s.cps.toList.foldl (fun a c => a * 2097152 + c) 1
noncomputable def dist : List Nat → Bool
  | [] => true
  | a :: l => l.all (fun b => !Nat.beq a b) && dist l
theorem dist_ok (l : List Nat) (h : dist l = true) : l.Pairwise (· ≠ ·) := by
  induction l with
  | nil => exact .nil
  | cons a l ih =>
    obtain ⟨h1, h2⟩ := Bool.and_eq_true_iff.mp h
    refine .cons (fun b m e => ?_) (ih h2)
    have := List.all_eq_true.mp h1 b m
    rw [e, Nat.beq_refl] at this
    cases this
theorem nmTab_nodup : nmTab.Nodup := List.Pairwise.of_map nmKey (fun _ _ h e => h (congrArg nmKey e)) (dist_ok _ (by decide +kernel))
theorem nmTab_low : nmTab.all (fun s => s.cps.toList.all (· < 2097152)) = true := by decide +kernel
theorem nm_inj (i j : Nat) (h : nm i = nm j) : i = j := by
  unfold nm at h
  cases hi : nmTab[i]? with
  | none =>
    cases hj : nmTab[j]? with
    | none => rw [hi, hj] at h; simp only [Option.getD_none, Str.mk.injEq] at h; have := congrArg (fun a : Array Nat => a.toList) h; simp only [List.cons.injEq] at this; omega
    | some b =>
      rw [hi, hj] at h
      have m := List.all_eq_true.mp nmTab_low b (List.mem_of_getElem? hj)
      simp only [Option.getD_none, Option.getD_some] at h
      rw [← h] at m
      exact absurd m (by simp only [List.all_cons, List.all_nil, Bool.and_true, decide_eq_true_eq]; omega)
  | some a =>
    cases hj : nmTab[j]? with
    | none =>
      rw [hi, hj] at h
      have m := List.all_eq_true.mp nmTab_low a (List.mem_of_getElem? hi)
      simp only [Option.getD_none, Option.getD_some] at h
      rw [h] at m
      exact absurd m (by simp only [List.all_cons, List.all_nil, Bool.and_true, decide_eq_true_eq]; omega)
    | some b =>
      rw [hi, hj] at h
      simp only [Option.getD_some] at h
      subst h
      obtain ⟨hi1, hi2⟩ := List.getElem?_eq_some_iff.mp hi
      obtain ⟨hj1, hj2⟩ := List.getElem?_eq_some_iff.mp hj
      have P := List.pairwise_iff_getElem.mp nmTab_nodup
      rcases Nat.lt_trichotomy i j with q | q | q
      · exact absurd (hi2.trans hj2.symm) (P i j hi1 hj1 q)
      · exact q
      · exact absurd (hj2.trans hi2.symm) (P j i hj1 hi1 q)
theorem nm_ne (x : Str) (h1 : x ∉ nmTab) (h2 : (x.cps.toList.all (· < 2097152)) = true) (i : Nat) : (nm i == x) = false := by
  rw [beq_eq_false_iff_ne]
  intro e
  unfold nm at e
  cases hi : nmTab[i]? with
  | none =>
    rw [hi] at e
    rw [← e] at h2
    exact absurd h2 (by simp only [Option.getD_none, List.all_cons, List.all_nil, Bool.and_true, decide_eq_true_eq]; omega)
  | some a => rw [hi] at e; exact h1 (e ▸ List.mem_of_getElem? hi)
theorem nm_dbg (i : Nat) : (nm i == ("__debug__" : Str)) = false := nm_ne _ (by decide +kernel) (by decide +kernel) i
theorem nm_cdc (i : Nat) : (nm i == ("__classdict__" : Str)) = false := nm_ne _ (by decide +kernel) (by decide +kernel) i
theorem nm_name (i : Nat) : nm i ≠ ("__name__" : Str) := beq_eq_false_iff_ne.mp (nm_ne _ (by decide +kernel) (by decide +kernel) i)

mutual
inductive RV : Fz → Value → AV → Prop
  | none {g} : RV g .none .none
  | bool {g b} : RV g (.bool b) (.bool b)
  | int {g i t} : RV g (.int i t) (.int i)
  | str {g s t} : RV g (.str s t) (.str s)
  | ref {g a} : RV g (.ref a) (.ref a)
  | tup {g a vs n l} : g a = some { cls := .type "tuple", data := .seq vs n } → RVs g vs.toList l → RV g (.ref a) (.tup l)
  | lst {g a o vs n l} : g a = some o → o.cls = .type "list" → o.data = .seq vs n → RVs g vs.toList l → RV g (.ref a) (.lst l)
  | rng {g r a b c t u v} : g r = some { cls := .type "range", data := .fields #[.int a t, .int b u, .int c v] } → RV g (.ref r) (.rng a b c)
  | inst {g x C dx es ep l} : g x = some { cls := .ref C, dict := some dx, data := .plain } → g dx = some { cls := .type "dict", data := .dict es ep } → RVA g es.toList l → RV g (.ref x) (.inst x C l)
inductive RVs : Fz → List Value → List AV → Prop
  | nil {g} : RVs g [] []
  | cons {g v av vs l} : RV g v av → RVs g vs l → RVs g (v :: vs) (av :: l)
inductive RVA : Fz → List DictEntry → List (Nat × AV) → Prop
  | nil {g} : RVA g [] []
  | cons {g h i t v av es l} : RV g v av → RVA g es l → RVA g (⟨h, .str (nm i) t, v⟩ :: es) ((i, av) :: l)
end

noncomputable def FzLe (g g' : Fz) : Prop := ∀ b o, g b = some o → g' b = some o
theorem FzLe.refl (g : Fz) : FzLe g g := fun _ _ e => e
theorem FzLe.trans {g g' g'' : Fz} (x : FzLe g g') (y : FzLe g' g'') : FzLe g g'' := fun b o e => y b o (x b o e)

theorem RV.mono {g g' : Fz} (k : FzLe g g') {v : Value} {av : AV} (h : RV g v av) : RV g' v av :=
  RV.rec (motive_1 := fun v av _ => RV g' v av) (motive_2 := fun v av _ => RVs g' v av) (motive_3 := fun v av _ => RVA g' v av)
    RV.none RV.bool RV.int RV.str RV.ref (fun h _ ih => RV.tup (k _ _ h) ih) (fun h c d _ ih => RV.lst (k _ _ h) c d ih) (fun h => RV.rng (k _ _ h)) (fun h d _ ih => RV.inst (k _ _ h) (k _ _ d) ih)
    RVs.nil (fun _ _ ih1 ih2 => RVs.cons ih1 ih2) RVA.nil (fun _ _ ih1 ih2 => RVA.cons ih1 ih2) h
theorem RVs.mono {g g' : Fz} (k : FzLe g g') {v : List Value} {av : List AV} (h : RVs g v av) : RVs g' v av := by
  induction av generalizing v with
  | nil => cases h; exact .nil
  | cons _ _ ih => cases h with | cons h r => exact .cons (h.mono k) (ih r)
theorem RVA.mono {g g' : Fz} (k : FzLe g g') {v : List DictEntry} {av : List (Nat × AV)} (h : RVA g v av) : RVA g' v av := by
  induction av generalizing v with
  | nil => cases h; exact .nil
  | cons _ _ ih => cases h with | cons h r => exact .cons (h.mono k) (ih r)

theorem RVs.length {g : Fz} {vs : List Value} {l : List AV} (h : RVs g vs l) : vs.length = l.length := by
  induction l generalizing vs with
  | nil => cases h; rfl
  | cons _ _ ih => cases h with | cons _ r => exact congrArg (· + 1) (ih r)
theorem RVs.get {g : Fz} {vs : List Value} {l : List AV} (h : RVs g vs l) {i : Nat} {av : AV} (e : l[i]? = some av) : ∃ v, vs[i]? = some v ∧ RV g v av := by
  induction l generalizing vs i with
  | nil => cases e
  | cons _ _ ih =>
    cases h with | cons h r =>
    cases i with
    | zero => cases e; exact ⟨_, rfl, h⟩
    | succ i => exact ih (i := i) r e
theorem RVs.get' {g : Fz} {vs : List Value} {l : List AV} (h : RVs g vs l) {i : Nat} {v : Value} (e : vs[i]? = some v) : ∃ av, l[i]? = some av ∧ RV g v av := by
  induction l generalizing vs i with
  | nil => cases h; cases e
  | cons _ _ ih =>
    cases h with | cons h r =>
    cases i with
    | zero => cases e; exact ⟨_, rfl, h⟩
    | succ i => exact ih (i := i) r e
theorem RVs.append {g : Fz} {vs : List Value} {l : List AV} {ws : List Value} {m : List AV} (h : RVs g vs l) (y : RVs g ws m) : RVs g (vs ++ ws) (l ++ m) := by
  induction l generalizing vs with
  | nil => cases h; exact y
  | cons _ _ ih => cases h with | cons h r => exact .cons h (ih r)
theorem RVs.take {g : Fz} {vs : List Value} {l : List AV} (h : RVs g vs l) (k : Nat) : RVs g (vs.take k) (l.take k) := by
  induction l generalizing vs k with
  | nil => cases h; rw [List.take_nil, List.take_nil]; exact .nil
  | cons _ _ ih =>
    cases h with | cons h r =>
    cases k with
    | zero => exact .nil
    | succ k => exact .cons h (ih r k)
theorem RVs.set {g : Fz} {vs : List Value} {l : List AV} (h : RVs g vs l) (k : Nat) {v : Value} {av : AV} (x : RV g v av) : RVs g (vs.set k v) (l.set k av) := by
  induction l generalizing vs k with
  | nil => cases h; exact .nil
  | cons _ _ ih =>
    cases h with | cons h r =>
    cases k with
    | zero => exact .cons x r
    | succ k => exact .cons h (ih r k)
theorem RVs.reverse {g : Fz} {vs : List Value} {l : List AV} (h : RVs g vs l) : RVs g vs.reverse l.reverse := by
  induction l generalizing vs with
  | nil => cases h; exact .nil
  | cons _ _ ih =>
    cases h with | cons h r =>
    rw [List.reverse_cons, List.reverse_cons]; exact (ih r).append (.cons h .nil)
theorem RVs.dropLast {g : Fz} {vs l} (h : RVs g vs l) : RVs g vs.dropLast l.dropLast := by
  rw [List.dropLast_eq_take, List.dropLast_eq_take, h.length]; exact h.take _

/-- attributes -/
noncomputable def lk {α : Type} : List (Nat × α) → Nat → Option α
  | [], _ => none
  | (i, a) :: r, j => if i = j then some a else lk r j
noncomputable def put {α : Type} : List (Nat × α) → Nat → α → List (Nat × α)
  | [], j, a => [(j, a)]
  | (i, b) :: r, j, a => if i = j then (i, a) :: r else (i, b) :: put r j a

theorem RVA.find {g : Fz} {es : List DictEntry} {l : List (Nat × AV)} (h : RVA g es l) (j : Nat) : (match lk l j with
    | some av => ∃ e, es.find? (·.key.isStr (nm j)) = some e ∧ RV g e.val av
    | none => es.find? (·.key.isStr (nm j)) = none) := by
  induction l generalizing es with
  | nil => cases h; rfl
  | cons _ _ ih =>
    cases h with | cons h r =>
    rename_i l hh i t v av es
    have ih := ih r
    unfold lk
    by_cases e : i = j
    · subst e
      rw [if_pos rfl]
      refine ⟨⟨hh, .str (nm i) t, v⟩, ?_, h⟩
      rw [List.find?_cons]
      have : (DictEntry.mk hh (.str (nm i) t) v).key.isStr (nm i) = true := beq_self_eq_true _
      rw [this]
    · rw [if_neg e]
      have q : (DictEntry.mk hh (.str (nm i) t) v).key.isStr (nm j) = false := beq_eq_false_iff_ne.mpr fun z => e (nm_inj _ _ z)
      rw [List.find?_cons, q]
      exact ih
theorem RVA.noRef {g : Fz} {es : List DictEntry} {l : List (Nat × AV)} (h : RVA g es l) : es.any (·.refKey) = false := by
  induction l generalizing es with
  | nil => cases h; rfl
  | cons _ _ ih => cases h with | cons h r => rw [List.any_cons, ih r]; rfl

/-! mutable objects -/
structure Cx where
  prog : Program
  w : World
  K : Frag
  B : Heap
  mg : Str → Option Value
  mb : Str → Option Value
  os : OsState

structure Cx.Ok (c : Cx) : Prop where
  kin : c.K.In c.B
  glob : c.B.Ns mainGlobals c.mg
  bltn : c.B.Ns builtinsNs c.mb
  boot : ∀ x : Str, x ≠ ("__name__" : Str) → c.mb x = bootBuiltins x
  nolimit : c.B.NoLimit

end Mine

namespace Mine

inductive RKV {K : Type} : Fz → List (K × Value) → List (K × AV) → Prop
  | nil {g} : RKV g [] []
  | cons {g k v av vs l} : RV g v av → RKV g vs l → RKV g ((k, v) :: vs) ((k, av) :: l)
theorem RKV.mono {K : Type} {g g' : Fz} (k : FzLe g g') {v : List (K × Value)} {av : List (K × AV)} (h : RKV g v av) : RKV g' v av := by
  induction h with
  | nil => exact .nil
  | cons h _ ih => exact .cons (h.mono k) ih
inductive RKT : Fz → List (List Int × Addr × Value) → List (List Int × AV) → Prop
  | nil {g} : RKT g [] []
  | cons {g k a v av vs l} : RV g (.ref a) (.tup (k.map .int)) → RV g v av → RKT g vs l → RKT g ((k, a, v) :: vs) ((k, av) :: l)
theorem RKT.mono {g g' : Fz} (k : FzLe g g') {v : List (List Int × Addr × Value)} {av : List (List Int × AV)} (h : RKT g v av) : RKT g' v av := by
  induction h with
  | nil => exact .nil
  | cons q h _ ih => exact .cons (q.mono k) (h.mono k) ih

inductive MO where
  | list (l : List AV)
  | dictI (l : List (Int × AV))
  | dictS (l : List (Str × AV))
  | dictT (l : List (List Int × AV))
  | set (l : List Int)
  | obj (C dx : Addr)
  | att (l : List (Nat × AV))

noncomputable def HoldsM (c : Cx) (g : Fz) (h : Heap) (a : Addr) : MO → Prop
  | .list l => ∃ vs n, h.get? a = some { cls := .type "list", data := .seq vs n } ∧ RVs g vs.toList l
  | .dictI l => (a == sysModules) = false ∧ ∃ kvs, h.DictOf (intKind c.prog c.w) a kvs ∧ RKV g kvs l
  | .dictS l => (a == sysModules) = false ∧ ∃ kvs, h.DictOf (strKind c.prog c.w) a kvs ∧ RKV g kvs l
  | .dictT l => (a == sysModules) = false ∧ ∃ xs es ep, h.get? a = some { cls := .type "dict", data := .dict es ep } ∧ es.toList = xs.map (entryOfKey (tupleKind (intKind c.prog c.w))) ∧ (xs.map (·.1)).Nodup ∧ RKT g xs l
  | .set l => h.SetOf (intKind c.prog c.w) a (fun k => l.contains k) l.length
  | .obj C dx => h.get? a = some { cls := .ref C, dict := some dx, data := .plain }
  | .att l => ∃ es ep, h.get? a = some { cls := .type "dict", data := .dict es ep } ∧ RVA g es.toList l

theorem HoldsM.alive {c : Cx} {g : Fz} {h : Heap} {a : Addr} {mo : MO} (x : HoldsM c g h a mo) : ∃ o, h.get? a = some o := by
  cases mo with
  | list l => obtain ⟨_, _, e, _⟩ := x; exact ⟨_, e⟩
  | dictI l => obtain ⟨_, _, ⟨_, _, _, e, _⟩, _⟩ := x; exact ⟨_, e⟩
  | dictS l => obtain ⟨_, _, ⟨_, _, _, e, _⟩, _⟩ := x; exact ⟨_, e⟩
  | dictT l => obtain ⟨_, _, _, _, e, _⟩ := x; exact ⟨_, e⟩
  | set l => obtain ⟨_, _, _, _, e, _⟩ := x; exact ⟨_, e⟩
  | obj C dx => exact ⟨_, x⟩
  | att l => obtain ⟨_, _, e, _⟩ := x; exact ⟨_, e⟩
theorem HoldsM.same {c : Cx} {g g' : Fz} {h h' : Heap} {a : Addr} (k : FzLe g g') (e : h'.get? a = h.get? a) {mo : MO} (x : HoldsM c g h a mo) : HoldsM c g' h' a mo := by
  cases mo with
  | list l => obtain ⟨vs, n, q, r⟩ := x; exact ⟨vs, n, e.trans q, r.mono k⟩
  | dictI l => obtain ⟨m, kvs, ⟨o, es, ep, q, r⟩, z⟩ := x; exact ⟨m, kvs, ⟨o, es, ep, e.trans q, r⟩, z.mono k⟩
  | dictS l => obtain ⟨m, kvs, ⟨o, es, ep, q, r⟩, z⟩ := x; exact ⟨m, kvs, ⟨o, es, ep, e.trans q, r⟩, z.mono k⟩
  | dictT l => obtain ⟨m, xs, es, ep, q, r, n, z⟩ := x; exact ⟨m, xs, es, ep, e.trans q, r, n, z.mono k⟩
  | set l => obtain ⟨o, es, ep, t, q, r⟩ := x; exact ⟨o, es, ep, t, e.trans q, r⟩
  | obj C dx => exact e.trans x
  | att l => obtain ⟨es, ep, q, r⟩ := x; exact ⟨es, ep, e.trans q, r.mono k⟩

noncomputable abbrev Objs := Addr → Option MO
noncomputable def frz (O : Objs) (H : List Addr) (h : Heap) : Fz := fun b => if (O b).isSome = true ∨ b ∈ H then none else h.get? b
theorem frz_some {O : Objs} {H : List Addr} {h : Heap} {b : Addr} {o : Obj} : frz O H h b = some o ↔ O b = none ∧ b ∉ H ∧ h.get? b = some o := by
  unfold frz
  split
  · rename_i q
    refine ⟨fun e => (nomatch e), fun ⟨e1, e2, e3⟩ => ?_⟩
    rcases q with q | q
    · rw [e1] at q; cases q
    · exact absurd q e2
  · rename_i q
    rw [not_or] at q
    refine ⟨fun e => ⟨?_, q.2, e⟩, fun e => e.2.2⟩
    cases z : O b with
    | none => rfl
    | some _ => rw [z] at q; exact absurd rfl q.1
noncomputable def up (O : Objs) (a : Addr) (m : MO) : Objs := fun b => if b = a then some m else O b
noncomputable def dl (O : Objs) (a : Addr) : Objs := fun b => if b = a then none else O b
theorem up_self {O : Objs} {a : Addr} {m : MO} : up O a m a = some m := if_pos rfl
theorem up_ne {O : Objs} {a b : Addr} {m : MO} (h : b ≠ a) : up O a m b = O b := if_neg h

structure RelO (c : Cx) (H : List Addr) (O : Objs) (s : Shared) : Prop where
  base : ∀ b o, c.B.get? b = some o → s.heap.get? b = some o ∧ O b = none ∧ b ∉ H
  hid : ∀ b, b ∈ H → O b = none ∧ ∃ o, s.heap.get? b = some o
  objs : ∀ a mo, O a = some mo → HoldsM c (frz O H s.heap) s.heap a mo
  gens : s.gens = #[]
  os : s.os = c.os

theorem RelO.toks {c : Cx} {H : List Addr} {O : Objs} {s : Shared} (R : RelO c H O s) (t : Nat) : RelO c H O { s with toks := t } := ⟨R.base, R.hid, R.objs, R.gens, R.os⟩
theorem RelO.fresh {c : Cx} {H : List Addr} {O : Objs} {s : Shared} (R : RelO c H O s) : O s.heap.objs.size = none ∧ s.heap.objs.size ∉ H ∧ c.B.get? s.heap.objs.size = none := by
  have dead : ∀ o, s.heap.get? s.heap.objs.size ≠ some o := fun o e => absurd (Heap.lt_size e) (Nat.lt_irrefl _)
  refine ⟨?_, fun m => ?_, ?_⟩
  · cases q : O s.heap.objs.size with
    | none => rfl
    | some mo => obtain ⟨o, e⟩ := (R.objs _ _ q).alive; exact absurd e (dead o)
  · obtain ⟨_, o, e⟩ := R.hid _ m; exact dead o e
  · cases q : c.B.get? s.heap.objs.size with
    | none => rfl
    | some o => exact absurd (R.base _ _ q).1 (dead o)

/-- the step relation: what is frozen stays; what others hide stays -/
structure StepO (F H : List Addr) (O : Objs) (h : Heap) (O' : Objs) (h' : Heap) : Prop where
  fz : FzLe (frz O H h) (frz O' H h')
  hid : ∀ b, b ∈ H → b ∉ F → ∀ o, h.get? b = some o → h'.get? b = some o
theorem StepO.refl (F H : List Addr) (O : Objs) (h : Heap) : StepO F H O h O h := ⟨FzLe.refl _, fun _ _ _ _ e => e⟩
theorem StepO.trans {F H : List Addr} {O O' O'' : Objs} {h h' h'' : Heap} (x : StepO F H O h O' h') (y : StepO F H O' h' O'' h'') : StepO F H O h O'' h'' :=
  ⟨x.fz.trans y.fz, fun b m n o e => y.hid b m n o (x.hid b m n o e)⟩

/-- only new things: everything alive stays as it was -/
theorem frz_keeps {O : Objs} {H : List Addr} {h h' : Heap} (k : ∀ b o, h.get? b = some o → h'.get? b = some o) : FzLe (frz O H h) (frz O H h') := fun b o e => by
  obtain ⟨e1, e2, e3⟩ := frz_some.mp e
  exact frz_some.mpr ⟨e1, e2, k _ _ e3⟩
theorem HoldsM.keeps {c : Cx} {g g' : Fz} {h h' : Heap} {a : Addr} {mo : MO} (x : HoldsM c g h a mo) (k : FzLe g g') (kh : ∀ b o, h.get? b = some o → h'.get? b = some o) : HoldsM c g' h' a mo := by
  obtain ⟨o, e⟩ := x.alive
  exact x.same k ((kh _ _ e).trans e.symm)
theorem RelO.keeps {c : Cx} {H : List Addr} {O : Objs} {s : Shared} (R : RelO c H O s) {h' : Heap} (k : ∀ b o, s.heap.get? b = some o → h'.get? b = some o) (t : Nat) : RelO c H O { s with heap := h', toks := t } :=
  ⟨fun b o e => ⟨k _ _ (R.base b o e).1, (R.base b o e).2⟩, fun b m => ⟨(R.hid b m).1, let ⟨o, e⟩ := (R.hid b m).2; ⟨o, k _ _ e⟩⟩,
    fun a mo e => (R.objs a mo e).keeps (frz_keeps k) k, R.gens, R.os⟩
theorem StepO.keeps {F H : List Addr} {O : Objs} {h h' : Heap} (k : ∀ b o, h.get? b = some o → h'.get? b = some o) : StepO F H O h O h' :=
  ⟨frz_keeps k, fun b _ _ o e => k b o e⟩

/-- one mutable object changes (or is new) -/
theorem frz_up {O : Objs} {H : List Addr} {h h' : Heap} {a : Addr} {mo : MO} (ha : (O a).isSome = true ∨ h.get? a = none) (k : ∀ b o, b ≠ a → h.get? b = some o → h'.get? b = some o) :
    FzLe (frz O H h) (frz (up O a mo) H h') := fun b o e => by
  obtain ⟨e1, e2, e3⟩ := frz_some.mp e
  have n : b ≠ a := by
    rintro rfl
    rcases ha with ha | ha
    · rw [e1] at ha; cases ha
    · rw [ha] at e3; cases e3
  exact frz_some.mpr ⟨(up_ne n).trans e1, e2, k _ _ n e3⟩
theorem RelO.upd {c : Cx} {H : List Addr} {O : Objs} {s : Shared} (R : RelO c H O s) {h' : Heap} {a : Addr} {mo : MO} (ha : (O a).isSome = true ∨ s.heap.get? a = none)
    (k : ∀ b o, b ≠ a → s.heap.get? b = some o → h'.get? b = some o) (t : Nat) (hm : HoldsM c (frz (up O a mo) H h') h' a mo) : RelO c H (up O a mo) { s with heap := h', toks := t } := by
  have nb : ∀ b o, c.B.get? b = some o → b ≠ a := fun b o e => by
    obtain ⟨e1, e2, e3⟩ := R.base b o e
    rintro rfl
    rcases ha with ha | ha
    · rw [e2] at ha; cases ha
    · rw [ha] at e1; cases e1
  have nh : ∀ b, b ∈ H → b ≠ a := fun b m => by
    obtain ⟨e1, o, e3⟩ := R.hid b m
    rintro rfl
    rcases ha with ha | ha
    · rw [e1] at ha; cases ha
    · rw [ha] at e3; cases e3
  refine ⟨fun b o e => ⟨k _ _ (nb b o e) (R.base b o e).1, (up_ne (nb b o e)).trans (R.base b o e).2.1, (R.base b o e).2.2⟩,
    fun b m => ⟨(up_ne (nh b m)).trans (R.hid b m).1, let ⟨o, e⟩ := (R.hid b m).2; ⟨o, k _ _ (nh b m) e⟩⟩, fun b m e => ?_, R.gens, R.os⟩
  by_cases q : b = a
  · subst q; rw [up_self] at e; cases e; exact hm
  · rw [up_ne q] at e
    have x := R.objs b m e
    obtain ⟨o, eo⟩ := x.alive
    exact x.same (frz_up ha k) ((k _ _ q eo).trans eo.symm)
theorem StepO.upd {F H : List Addr} {c : Cx} {O : Objs} {s : Shared} (R : RelO c H O s) {h' : Heap} {a : Addr} {mo : MO} (ha : (O a).isSome = true ∨ s.heap.get? a = none)
    (k : ∀ b o, b ≠ a → s.heap.get? b = some o → h'.get? b = some o) : StepO F H O s.heap (up O a mo) h' :=
  ⟨frz_up ha k, fun b m _ o e => k b o (by
    obtain ⟨e1, o, e3⟩ := R.hid b m
    rintro rfl
    rcases ha with ha | ha
    · rw [e1] at ha; cases ha
    · rw [ha] at e3; cases e3) e⟩

/-! frames -/
structure St where
  O : Objs
  fr : Nat → Option AV

structure Frm where
  env : Env
  F : List Addr
  H : List Addr
  st : Bool

noncomputable def NameAt (f : Frm) (h : Heap) (g : Fz) (x : Str) (av : AV) : Prop :=
  (f.env.kindOf x = some .local ∧ ∃ mc v, h.Ns f.env.locals mc ∧ mc x = some v ∧ RV g v av) ∨
  ((f.env.kindOf x = some .cell ∨ f.env.kindOf x = some .free) ∧ ∃ ca v, f.env.cells.lookup x = some ca ∧ ca ∈ f.H ∧ h.IsCell ca (some v) ∧ RV g v av)

structure FrameOk (f : Frm) (h : Heap) : Prop where
  sub : ∀ b, b ∈ f.F → b ∈ f.H
  loc : f.env.locals ∈ f.F
  ns : ∃ mc, h.Ns f.env.locals mc
  cel : f.st = true → ∀ x, f.env.kindOf x = some .cell → ∃ ca v, f.env.cells.lookup x = some ca ∧ ca ∈ f.F ∧ ca ≠ f.env.locals ∧ h.IsCell ca v
  inj : f.st = true → ∀ x y ca, f.env.kindOf x = some .cell → f.env.kindOf y = some .cell → f.env.cells.lookup x = some ca → f.env.cells.lookup y = some ca → x = y
  nf : f.st = true → ∀ x, f.env.kindOf x ≠ some .free
  kd : f.env.scope.kind = .function
  gl : f.env.globals = mainGlobals
  bl : f.env.builtins = builtinsNs

structure Rel (c : Cx) (f : Frm) (σ : St) (s : Shared) : Prop where
  ro : RelO c f.H σ.O s
  fo : FrameOk f s.heap
  vars : ∀ i av, σ.fr i = some av → NameAt f s.heap (frz σ.O f.H s.heap) (nm i) av

theorem NameAt.same {f : Frm} {h h' : Heap} {g g' : Fz} {x : Str} {av : AV} (n : NameAt f h g x av) (k : FzLe g g') (loc : f.env.locals ∈ f.F) (own : ∀ b, b ∈ f.F → ∀ o, h.get? b = some o → h'.get? b = some o)
    (hid : ∀ b, b ∈ f.H → b ∉ f.F → ∀ o, h.get? b = some o → h'.get? b = some o) : NameAt f h' g' x av := by
  rcases n with ⟨k1, mc, v, n1, n2, n3⟩ | ⟨k1, ca, v, n1, n2, ⟨o, n3, n5⟩, n4⟩
  · obtain ⟨o, es, ep, e1, e2⟩ := n1
    exact .inl ⟨k1, mc, v, ⟨o, es, ep, own _ loc _ e1, e2⟩, n2, n3.mono k⟩
  · refine .inr ⟨k1, ca, v, n1, n2, ⟨o, ?_, n5⟩, n4.mono k⟩
    by_cases q : ca ∈ f.F
    · exact own _ q _ n3
    · exact hid _ n2 q _ n3
theorem FrameOk.same {f : Frm} {h h' : Heap} (x : FrameOk f h) (own : ∀ b, b ∈ f.F → ∀ o, h.get? b = some o → h'.get? b = some o) : FrameOk f h' :=
  ⟨x.sub, x.loc, let ⟨mc, o, es, ep, e1, e2⟩ := x.ns; ⟨mc, o, es, ep, own _ x.loc _ e1, e2⟩,
    fun z y q => let ⟨ca, v, a, b, d, o, e1, e2⟩ := x.cel z y q; ⟨ca, v, a, b, d, o, own _ b _ e1, e2⟩, x.inj, x.nf, x.kd, x.gl, x.bl⟩

/-- what a callee leaves: the whole frame stands -/
theorem Rel.back {c : Cx} {f : Frm} {σ : St} {s s' : Shared} {O' : Objs} (R : Rel c f σ s) (R' : RelO c f.H O' s') (st : StepO [] f.H σ.O s.heap O' s'.heap) : Rel c f ⟨O', σ.fr⟩ s' := by
  have own : ∀ b, b ∈ f.F → ∀ o, s.heap.get? b = some o → s'.heap.get? b = some o := fun b m o e => st.hid b (R.fo.sub b m) (by simp) o e
  exact ⟨R', R.fo.same own, fun i av e => (R.vars i av e).same st.fz R.fo.loc own fun b m _ o e => st.hid b m (by simp) o e⟩
theorem StepO.widen {F H : List Addr} {O O' : Objs} {h h' : Heap} (st : StepO [] H O h O' h') : StepO F H O h O' h' := ⟨st.fz, fun b m _ o e => st.hid b m (by simp) o e⟩

theorem Rel.toks {c : Cx} {f : Frm} {σ : St} {s : Shared} (R : Rel c f σ s) (t : Nat) : Rel c f σ { s with toks := t } := ⟨R.ro.toks t, R.fo, R.vars⟩
theorem Rel.keeps {c : Cx} {f : Frm} {σ : St} {s : Shared} (R : Rel c f σ s) {h' : Heap} (k : ∀ b o, s.heap.get? b = some o → h'.get? b = some o) (t : Nat) : Rel c f σ { s with heap := h', toks := t } :=
  R.back (s' := { s with heap := h', toks := t }) (R.ro.keeps k t) (StepO.keeps k)
theorem Rel.upd {c : Cx} {f : Frm} {σ : St} {s : Shared} (R : Rel c f σ s) {h' : Heap} {a : Addr} {mo : MO} (ha : (σ.O a).isSome = true ∨ s.heap.get? a = none)
    (k : ∀ b o, b ≠ a → s.heap.get? b = some o → h'.get? b = some o) (t : Nat) (hm : HoldsM c (frz (up σ.O a mo) f.H h') h' a mo) : Rel c f ⟨up σ.O a mo, σ.fr⟩ { s with heap := h', toks := t } :=
  R.back (s' := { s with heap := h', toks := t }) (R.ro.upd ha k t hm) (StepO.upd R.ro ha k)

/-! room -/
structure Room (n : Nat) (A : Around) : Prop where
  hh : A.handled = none
  dp : A.depth + 4 * n + 8 ≤ 1000
  un : A.units + 12 * n + 100 ≤ 9900

/-! the judgement of an expression: the frame's map stands -/
noncomputable def EVg (c : Cx) (f : Frm) (n : Nat) (fr : Nat → Option AV) {α β : Type} (rel : Fz → α → β → Prop) (t : Sem α) (O : Objs) (Q : β → Objs → Prop) : Prop :=
  ∀ A s, Room n A → Rel c f ⟨O, fr⟩ s → wpAny (model c.prog c.w) A t (fun v s' => ∃ b O', rel (frz O' f.H s'.heap) v b ∧ Rel c f ⟨O', fr⟩ s' ∧ StepO f.F f.H O s.heap O' s'.heap ∧ Q b O') (fun _ _ => False) s
noncomputable abbrev EV (c : Cx) (f : Frm) (n : Nat) (fr : Nat → Option AV) := EVg c f n fr RV
noncomputable abbrev EVs (c : Cx) (f : Frm) (n : Nat) (fr : Nat → Option AV) := EVg c f n fr RVs
noncomputable abbrev EVb (c : Cx) (f : Frm) (n : Nat) (fr : Nat → Option AV) := EVg c f n fr (fun _ (a b : Bool) => a = b)

theorem EVg.mono {c : Cx} {f : Frm} {n : Nat} {fr : Nat → Option AV} {α β : Type} {rel : Fz → α → β → Prop} {t : Sem α} {O : Objs} {Q Q' : β → Objs → Prop} (h : EVg c f n fr rel t O Q) (k : ∀ b O', Q b O' → Q' b O') : EVg c f n fr rel t O Q' :=
  fun A s rm R => wpAny_mono (h A s rm R) (fun v s' ⟨b, O', a1, a2, a3, a4⟩ => ⟨b, O', a1, a2, a3, k _ _ a4⟩) fun _ _ x => x

theorem wpF {M : Model} {A : Around} {α : Type} {t : Sem α} {Q : α → Shared → Prop} {E : Value → Shared → Prop} {s : Shared} (h : wpAny M A t Q (fun _ _ => False) s) : wpAny M A t Q E s := wpAny_mono h (fun _ _ x => x) fun _ _ x => x.elim

end Mine

namespace Mine

inductive Bf where
  | len | abs | min | list | tuple | set | range
  deriving DecidableEq
noncomputable def Bf.nm : Bf → Str
  | .len => "len" | .abs => "abs" | .min => "min" | .list => "list" | .tuple => "tuple" | .set => "set" | .range => "range"

/-- expressions (and lists of them) -/
inductive X where
  | nil
  | cons (h t : X)
  | var (i : Nat)
  | glb (i : Nat) (k : Int)
  | int (k : Int)
  | str (s : Str)
  | bol (b : Bool)
  | neg (a : X)
  | not (a : X)
  | bin (o : Operator) (a b : X)
  | cmp (o : CmpOp) (a b : X)
  | and (a b : X)
  | and3 (a b c : X)
  | or (a b : X)
  | ite (t a b : X)
  | sub (a i : X)
  | slc (i : Nat) (k : Nat)
  | atr (a : X) (i : Nat) (C : Addr)
  | tup (l : X)
  | lst (l : X)
  | dct
  | call (i : Nat) (f : Addr) (l : X)
  | new (i : Nat) (C f : Addr) (l : X)
  | mth (a : X) (i : Nat) (C f : Addr) (l : X)
  | bif (b : Bf) (l : X)
  | app (a x : X)
  | pop (a : X)
  | rev (a : X)
  | get (a k d : X)
  | sad (a x : X)
  | cpr (elt : X) (x : Nat) (fs : List Nat) (it : X)

inductive S where
  | nil
  | cons (h t : S)
  | asg (i : Nat) (e : X)
  | asc (i : Nat) (elt : X) (x : Nat) (fs : List Nat) (it : X)
  | asg2 (i j : Nat) (e : X)
  | sat (o : Nat) (i : Nat) (C : Addr) (e : X)
  | sit (o k e : X)
  | aug (i : Nat) (op : Operator) (e : X)
  | ex (e : X)
  | iff (t : X) (a b : S)
  | whl (t : X) (b : S)
  | for (x : Nat) (it : X) (b : S)
  | ret (e : X)
  | cnt
  | wild
  | frz (i : Nat)

/-! the check against the model's trees -/
noncomputable def isGlb (sc : Scope) (i : Nat) : Bool := sc.names.lookup (nm i) == some .globalImplicit
noncomputable def isFun (K : Frag) (f : Addr) : Bool := fnIn K f && typeIn K (.ref f) == some (.type "function") && keepIn K (.ref f)
noncomputable def chkAtr (K : Frag) (C : Addr) (i : Nat) : Bool := plainGet K C (nm i) && hasDictIn K C && findIn K (.ref C) (nm i) == some none
noncomputable def chkMth (K : Frag) (C : Addr) (i : Nat) (f : Addr) : Bool := plainGet K C (nm i) && hasDictIn K C && findIn K (.ref C) (nm i) == some (some (.ref f)) && isFun K f
noncomputable def chkBf (sc : Scope) (b : Bf) (K : Frag) : Bool := sc.names.lookup b.nm == some .globalImplicit && nsIn K mainGlobals b.nm == some none
noncomputable def chkFree (sc : Scope) (fs : List Nat) : Bool := fs.all fun i => sc.names.lookup (nm i) == some .free

/-- the scope of a comprehension: its variable is local (or a cell), nothing odd -/
noncomputable def chkCScope (sc : Scope) (x : Nat) (fs : List Nat) : Bool :=
  sc.kind == .function && (sc.names.lookup (nm x) == some .local || sc.names.lookup (nm x) == some .cell) && chkFree sc fs &&
  sc.names.all (fun p => p.2 != .local || sc.names.lookup p.1 == some .local) && decide ((sc.names.map (·.1)).Nodup) &&
  sc.names.all (fun p => p.2 != .cell || p.1 == nm x) && sc.names.all (fun p => p.2 != .free || fs.any fun i => p.1 == nm i)
/-- the scope as the model relabels it -/
noncomputable def relab (sc osc : Scope) : Scope := { sc with names := sc.names.map fun (n, k) => if (k == .free && osc.kind == .function && osc.names.lookup n == some .cell) then (n, .cell) else (n, k) }

/-! the trees seen from one side: a view and how it is used -/
theorem dif_t {c : Prop} [Decidable c] {k : c → Bool} (h : dite c k (fun _ => false) = true) : ∃ q, k q = true := by
  cases ‹Decidable c› with
  | isTrue q => exact ⟨q, h⟩
  | isFalse q => exact (Bool.false_ne_true h).elim
theorem an {a b : Bool} (h : (a && b) = true) : a = true ∧ b = true := by
  cases a with
  | true => exact ⟨rfl, h⟩
  | false => exact (Bool.false_ne_true h).elim
theorem am {a b : Bool} (ha : a = true) (hb : b = true) : (a && b) = true := by
  cases ha; exact hb
@[elab_as_elim] theorem beq_e {α : Type} [BEq α] [LawfulBEq α] {y : α} {P : α → Prop} {x : α} (h : (x == y) = true) (H : P y) : P x := by
  cases eq_of_beq h; exact H
@[elab_as_elim] theorem emp_e {α : Type} {P : List α → Prop} {l : List α} (h : l.isEmpty = true) (H : P []) : P l := by
  cases l with
  | nil => exact H
  | cons _ _ => exact (Bool.false_ne_true h).elim
noncomputable def consV {α : Type} (l : List α) (k : α → List α → Bool) : Bool := match l with | [] => false | a :: t => k a t
@[elab_as_elim] theorem consV_e {α : Type} {k : α → List α → Bool} {P : List α → Prop} {l : List α} (h : consV l k = true) (H : ∀ a t, k a t = true → P (a :: t)) : P l := by
  cases l with
  | nil => exact (Bool.false_ne_true h).elim
  | cons a t => exact H a t h
noncomputable def someV {α : Type} (l : Option α) (k : α → Bool) : Bool := match l with | none => false | some a => k a
@[elab_as_elim] theorem someV_e {α : Type} {k : α → Bool} {P : Option α → Prop} {l : Option α} (h : someV l k = true) (H : ∀ a, k a = true → P (some a)) : P l := by
  cases l with
  | none => exact (Bool.false_ne_true h).elim
  | some a => exact H a h
@[elab_as_elim] theorem none_e {α : Type} {P : Option α → Prop} {l : Option α} (h : l.isNone = true) (H : P none) : P l := by
  cases l with
  | none => exact H
  | some a => exact (Bool.false_ne_true h).elim
noncomputable def nmV (e : Expr) (y : Str) : Bool := if h : e.ctorIdx = 23 then Expr.Name.elim (motive_1 := fun _ => Bool) e h (fun x _ => x == y) else false
@[elab_as_elim] theorem nmV_e {y : Str} {P : Expr → Prop} {e : Expr} (h : nmV e y = true) (H : ∀ p, P (Expr.Name y p)) : P e := by
  obtain ⟨q, h⟩ := dif_t h
  exact Expr.Name.elim (motive_1 := fun e => ∀ q : e.ctorIdx = 23, Expr.Name.elim (motive_1 := fun _ => Bool) e q (fun x _ => x == y) = true → P e) e q (fun x p q h => beq_e (P := fun x => P (.Name x p)) h (H p)) q h
noncomputable def conV (e : Expr) (k : Const → Bool) : Bool := if h : e.ctorIdx = 19 then Expr.Constant.elim (motive_1 := fun _ => Bool) e h (fun c _ _ => k c) else false
@[elab_as_elim] theorem conV_e {k : Const → Bool} {P : Expr → Prop} {e : Expr} (h : conV e k = true) (H : ∀ c n p, k c = true → P (Expr.Constant c n p)) : P e := by
  obtain ⟨q, h⟩ := dif_t h
  exact Expr.Constant.elim (motive_1 := fun e => ∀ q : e.ctorIdx = 19, Expr.Constant.elim (motive_1 := fun _ => Bool) e q (fun c _ _ => k c) = true → P e) e q (fun c n p q h => H c n p h) q h
noncomputable def unV (e : Expr) (k : UnaryOp → Expr → Bool) : Bool := if h : e.ctorIdx = 3 then Expr.UnaryOp.elim (motive_1 := fun _ => Bool) e h (fun o a _ => k o a) else false
@[elab_as_elim] theorem unV_e {k : UnaryOp → Expr → Bool} {P : Expr → Prop} {e : Expr} (h : unV e k = true) (H : ∀ o a p, k o a = true → P (Expr.UnaryOp o a p)) : P e := by
  obtain ⟨q, h⟩ := dif_t h
  exact Expr.UnaryOp.elim (motive_1 := fun e => ∀ q : e.ctorIdx = 3, Expr.UnaryOp.elim (motive_1 := fun _ => Bool) e q (fun o a _ => k o a) = true → P e) e q (fun o a p q h => H o a p h) q h
noncomputable def binV (e : Expr) (k : Expr → Operator → Expr → Bool) : Bool := if h : e.ctorIdx = 2 then Expr.BinOp.elim (motive_1 := fun _ => Bool) e h (fun a o b _ => k a o b) else false
@[elab_as_elim] theorem binV_e {k : Expr → Operator → Expr → Bool} {P : Expr → Prop} {e : Expr} (h : binV e k = true) (H : ∀ a o b p, k a o b = true → P (Expr.BinOp a o b p)) : P e := by
  obtain ⟨q, h⟩ := dif_t h
  exact Expr.BinOp.elim (motive_1 := fun e => ∀ q : e.ctorIdx = 2, Expr.BinOp.elim (motive_1 := fun _ => Bool) e q (fun a o b _ => k a o b) = true → P e) e q (fun a o b p q h => H a o b p h) q h
noncomputable def cmpV (e : Expr) (k : Expr → List CmpOp → List Expr → Bool) : Bool := if h : e.ctorIdx = 15 then Expr.Compare.elim (motive_1 := fun _ => Bool) e h (fun a os bs _ => k a os bs) else false
@[elab_as_elim] theorem cmpV_e {k : Expr → List CmpOp → List Expr → Bool} {P : Expr → Prop} {e : Expr} (h : cmpV e k = true) (H : ∀ a os bs p, k a os bs = true → P (Expr.Compare a os bs p)) : P e := by
  obtain ⟨q, h⟩ := dif_t h
  exact Expr.Compare.elim (motive_1 := fun e => ∀ q : e.ctorIdx = 15, Expr.Compare.elim (motive_1 := fun _ => Bool) e q (fun a os bs _ => k a os bs) = true → P e) e q (fun a os bs p q h => H a os bs p h) q h
noncomputable def boolV (e : Expr) (k : BoolOp → List Expr → Bool) : Bool := if h : e.ctorIdx = 0 then Expr.BoolOp.elim (motive_1 := fun _ => Bool) e h (fun o es _ => k o es) else false
@[elab_as_elim] theorem boolV_e {k : BoolOp → List Expr → Bool} {P : Expr → Prop} {e : Expr} (h : boolV e k = true) (H : ∀ o es p, k o es = true → P (Expr.BoolOp o es p)) : P e := by
  obtain ⟨q, h⟩ := dif_t h
  exact Expr.BoolOp.elim (motive_1 := fun e => ∀ q : e.ctorIdx = 0, Expr.BoolOp.elim (motive_1 := fun _ => Bool) e q (fun o es _ => k o es) = true → P e) e q (fun o es p q h => H o es p h) q h
noncomputable def iteV (e : Expr) (k : Expr → Expr → Expr → Bool) : Bool := if h : e.ctorIdx = 5 then Expr.IfExp.elim (motive_1 := fun _ => Bool) e h (fun t a b _ => k t a b) else false
@[elab_as_elim] theorem iteV_e {k : Expr → Expr → Expr → Bool} {P : Expr → Prop} {e : Expr} (h : iteV e k = true) (H : ∀ t a b p, k t a b = true → P (Expr.IfExp t a b p)) : P e := by
  obtain ⟨q, h⟩ := dif_t h
  exact Expr.IfExp.elim (motive_1 := fun e => ∀ q : e.ctorIdx = 5, Expr.IfExp.elim (motive_1 := fun _ => Bool) e q (fun t a b _ => k t a b) = true → P e) e q (fun t a b p q h => H t a b p h) q h
noncomputable def subV (e : Expr) (k : Expr → Expr → Bool) : Bool := if h : e.ctorIdx = 21 then Expr.Subscript.elim (motive_1 := fun _ => Bool) e h (fun a i _ => k a i) else false
@[elab_as_elim] theorem subV_e {k : Expr → Expr → Bool} {P : Expr → Prop} {e : Expr} (h : subV e k = true) (H : ∀ a i p, k a i = true → P (Expr.Subscript a i p)) : P e := by
  obtain ⟨q, h⟩ := dif_t h
  exact Expr.Subscript.elim (motive_1 := fun e => ∀ q : e.ctorIdx = 21, Expr.Subscript.elim (motive_1 := fun _ => Bool) e q (fun a i _ => k a i) = true → P e) e q (fun a i p q h => H a i p h) q h
noncomputable def slV (e : Expr) (k : Option Expr → Option Expr → Option Expr → Bool) : Bool := if h : e.ctorIdx = 26 then Expr.Slice.elim (motive_1 := fun _ => Bool) e h (fun a b c _ => k a b c) else false
@[elab_as_elim] theorem slV_e {k : Option Expr → Option Expr → Option Expr → Bool} {P : Expr → Prop} {e : Expr} (h : slV e k = true) (H : ∀ a b c p, k a b c = true → P (Expr.Slice a b c p)) : P e := by
  obtain ⟨q, h⟩ := dif_t h
  exact Expr.Slice.elim (motive_1 := fun e => ∀ q : e.ctorIdx = 26, Expr.Slice.elim (motive_1 := fun _ => Bool) e q (fun a b c _ => k a b c) = true → P e) e q (fun a b c p q h => H a b c p h) q h
noncomputable def attrV (e : Expr) (k : Expr → Str → Pos → Bool) : Bool := if h : e.ctorIdx = 20 then Expr.Attribute.elim (motive_1 := fun _ => Bool) e h (fun a n p => k a n p) else false
@[elab_as_elim] theorem attrV_e {k : Expr → Str → Pos → Bool} {P : Expr → Prop} {e : Expr} (h : attrV e k = true) (H : ∀ a n p, k a n p = true → P (Expr.Attribute a n p)) : P e := by
  obtain ⟨q, h⟩ := dif_t h
  exact Expr.Attribute.elim (motive_1 := fun e => ∀ q : e.ctorIdx = 20, Expr.Attribute.elim (motive_1 := fun _ => Bool) e q (fun a n p => k a n p) = true → P e) e q (fun a n p q h => H a n p h) q h
noncomputable def tupV (e : Expr) (k : List Expr → Bool) : Bool := if h : e.ctorIdx = 25 then Expr.Tuple.elim (motive_1 := fun _ => Bool) e h (fun es _ _ => k es) else false
@[elab_as_elim] theorem tupV_e {k : List Expr → Bool} {P : Expr → Prop} {e : Expr} (h : tupV e k = true) (H : ∀ es n p, k es = true → P (Expr.Tuple es n p)) : P e := by
  obtain ⟨q, h⟩ := dif_t h
  exact Expr.Tuple.elim (motive_1 := fun e => ∀ q : e.ctorIdx = 25, Expr.Tuple.elim (motive_1 := fun _ => Bool) e q (fun es _ _ => k es) = true → P e) e q (fun es n p q h => H es n p h) q h
noncomputable def lstV (e : Expr) (k : List Expr → Bool) : Bool := if h : e.ctorIdx = 24 then Expr.List.elim (motive_1 := fun _ => Bool) e h (fun es _ => k es) else false
@[elab_as_elim] theorem lstV_e {k : List Expr → Bool} {P : Expr → Prop} {e : Expr} (h : lstV e k = true) (H : ∀ es p, k es = true → P (Expr.List es p)) : P e := by
  obtain ⟨q, h⟩ := dif_t h
  exact Expr.List.elim (motive_1 := fun e => ∀ q : e.ctorIdx = 24, Expr.List.elim (motive_1 := fun _ => Bool) e q (fun es _ => k es) = true → P e) e q (fun es p q h => H es p h) q h
noncomputable def dctV (e : Expr) : Bool := if h : e.ctorIdx = 6 then Expr.Dict.elim (motive_1 := fun _ => Bool) e h (fun ks vs _ => ks.isEmpty && vs.isEmpty) else false
@[elab_as_elim] theorem dctV_e {P : Expr → Prop} {e : Expr} (h : dctV e = true) (H : ∀ p, P (Expr.Dict [] [] p)) : P e := by
  obtain ⟨q, h⟩ := dif_t h
  exact Expr.Dict.elim (motive_1 := fun e => ∀ q : e.ctorIdx = 6, Expr.Dict.elim (motive_1 := fun _ => Bool) e q (fun ks vs _ => ks.isEmpty && vs.isEmpty) = true → P e) e q (fun ks vs p q h => emp_e (P := fun ks => P (.Dict ks vs p)) (an h).1 (emp_e (P := fun vs => P (.Dict [] vs p)) (an h).2 (H p))) q h
noncomputable def callV (e : Expr) (k : Expr → List Expr → Pos → Bool) : Bool := if h : e.ctorIdx = 16 then Expr.Call.elim (motive_1 := fun _ => Bool) e h (fun f as ks p => ks.isEmpty && k f as p) else false
@[elab_as_elim] theorem callV_e {k : Expr → List Expr → Pos → Bool} {P : Expr → Prop} {e : Expr} (h : callV e k = true) (H : ∀ f as p, k f as p = true → P (Expr.Call f as [] p)) : P e := by
  obtain ⟨q, h⟩ := dif_t h
  exact Expr.Call.elim (motive_1 := fun e => ∀ q : e.ctorIdx = 16, Expr.Call.elim (motive_1 := fun _ => Bool) e q (fun f as ks p => ks.isEmpty && k f as p) = true → P e) e q (fun f as ks p q h => emp_e (P := fun ks => P (.Call f as ks p)) (an h).1 (H f as p (an h).2)) q h
noncomputable def lcV (e : Expr) (k : Expr → List Comprehension → Scope → Pos → Bool) : Bool := if h : e.ctorIdx = 8 then Expr.ListComp.elim (motive_1 := fun _ => Bool) e h (fun a gs sc p => k a gs sc p) else false
@[elab_as_elim] theorem lcV_e {k : Expr → List Comprehension → Scope → Pos → Bool} {P : Expr → Prop} {e : Expr} (h : lcV e k = true) (H : ∀ a gs sc p, k a gs sc p = true → P (Expr.ListComp a gs sc p)) : P e := by
  obtain ⟨q, h⟩ := dif_t h
  exact Expr.ListComp.elim (motive_1 := fun e => ∀ q : e.ctorIdx = 8, Expr.ListComp.elim (motive_1 := fun _ => Bool) e q (fun a gs sc p => k a gs sc p) = true → P e) e q (fun a gs sc p q h => H a gs sc p h) q h
noncomputable def intV (e : Const) (y : Int) : Bool := if h : e.ctorIdx = 2 then Const.int.elim (motive := fun _ => Bool) e h (fun x => x == y) else false
@[elab_as_elim] theorem intV_e {y : Int} {P : Const → Prop} {e : Const} (h : intV e y = true) (H : P (Const.int y)) : P e := by
  obtain ⟨q, h⟩ := dif_t h
  exact Const.int.elim (motive := fun e => ∀ q : e.ctorIdx = 2, Const.int.elim (motive := fun _ => Bool) e q (fun x => x == y) = true → P e) e q (fun x q h => beq_e (P := fun x => P (.int x)) h H) q h
noncomputable def strV (e : Const) (y : Str) : Bool := if h : e.ctorIdx = 5 then Const.str.elim (motive := fun _ => Bool) e h (fun x => x == y) else false
@[elab_as_elim] theorem strV_e {y : Str} {P : Const → Prop} {e : Const} (h : strV e y = true) (H : P (Const.str y)) : P e := by
  obtain ⟨q, h⟩ := dif_t h
  exact Const.str.elim (motive := fun e => ∀ q : e.ctorIdx = 5, Const.str.elim (motive := fun _ => Bool) e q (fun x => x == y) = true → P e) e q (fun x q h => beq_e (P := fun x => P (.str x)) h H) q h
noncomputable def bolV (e : Const) (y : Bool) : Bool := if h : e.ctorIdx = 1 then Const.bool.elim (motive := fun _ => Bool) e h (fun x => x == y) else false
@[elab_as_elim] theorem bolV_e {y : Bool} {P : Const → Prop} {e : Const} (h : bolV e y = true) (H : P (Const.bool y)) : P e := by
  obtain ⟨q, h⟩ := dif_t h
  exact Const.bool.elim (motive := fun e => ∀ q : e.ctorIdx = 1, Const.bool.elim (motive := fun _ => Bool) e q (fun x => x == y) = true → P e) e q (fun x q h => beq_e (P := fun x => P (.bool x)) h H) q h
noncomputable def isUSub (o : UnaryOp) : Bool := match o with | .USub => true | _ => false
@[elab_as_elim] theorem isUSub_e {P : UnaryOp → Prop} {o : UnaryOp} (h : isUSub o = true) (H : P .USub) : P o := by
  cases o <;> first | exact H | exact (Bool.false_ne_true h).elim
noncomputable def isNot (o : UnaryOp) : Bool := match o with | .Not => true | _ => false
@[elab_as_elim] theorem isNot_e {P : UnaryOp → Prop} {o : UnaryOp} (h : isNot o = true) (H : P .Not) : P o := by
  cases o <;> first | exact H | exact (Bool.false_ne_true h).elim
noncomputable def isAnd (o : BoolOp) : Bool := match o with | .And => true | .Or => false
@[elab_as_elim] theorem isAnd_e {P : BoolOp → Prop} {o : BoolOp} (h : isAnd o = true) (H : P .And) : P o := by
  cases o <;> first | exact H | exact (Bool.false_ne_true h).elim
@[elab_as_elim] theorem isOr_e {P : BoolOp → Prop} {o : BoolOp} (h : (!isAnd o) = true) (H : P .Or) : P o := by
  cases o <;> first | exact H | exact (Bool.false_ne_true h).elim
noncomputable def compV (g : Comprehension) (k : Expr → Expr → Bool) : Bool := g.ifs.isEmpty && (g.is_async == 0 && k g.target g.iter)
@[elab_as_elim] theorem compV_e {k : Expr → Expr → Bool} {P : Comprehension → Prop} {g : Comprehension} (h : compV g k = true) (H : ∀ t i, k t i = true → P ⟨t, i, [], 0⟩) : P g := by
  obtain ⟨t, i, ifs, y⟩ := g
  exact emp_e (P := fun z => P ⟨t, i, z, y⟩) (an h).1 (beq_e (P := fun z => P ⟨t, i, [], z⟩) (an (an h).2).1 (H t i (an (an h).2).2))
noncomputable def noSl (e : Expr) : Bool := !(Nat.beq e.ctorIdx 26)
noncomputable def noCall (e : Expr) : Bool := !(Nat.beq e.ctorIdx 16)
noncomputable def noStar (e : Expr) : Bool := !(Nat.beq e.ctorIdx 22)
noncomputable def noSet (e : Expr) : Bool := !(Nat.beq e.ctorIdx 7)
/-- `a.n(as)` -/
noncomputable def mthV (e : Expr) (n : Str) (k : Expr → List Expr → Bool) : Bool := callV e fun g as p => attrV g fun a m ap => ap.endLine == p.line && (m == n && (noCall a && k a as))
theorem mthV_e {n : Str} {k : Expr → List Expr → Bool} {P : Expr → Prop} {e : Expr} (h : mthV e n k = true) (H : ∀ a as ap p, (ap.endLine == p.line) = true → noCall a = true → k a as = true → P (.Call (.Attribute a n ap) as [] p)) : P e :=
  callV_e h fun g as p h => attrV_e (P := fun g => P (.Call g as [] p)) h fun a m ap h => beq_e (P := fun m => P (.Call (.Attribute a m ap) as [] p)) (an (an h).2).1 (H a as ap p (an h).1 (an (an (an h).2).2).1 (an (an (an h).2).2).2)

mutual
noncomputable def chkE (K : Frag) : X → Scope → Expr → Bool
  | .nil, _, _ => false
  | .cons _ _, _, _ => false
  | .var i, sc, e => nmV e (nm i) && sc.names.lookup (nm i) != some .globalImplicit
  | .glb i k, sc, e => nmV e (nm i) && (isGlb sc i && (match nsIn K mainGlobals (nm i) with | some (some (.int k' _)) => k' == k | _ => false))
  | .int k, sc, e => conV e fun c => intV c k
  | .str s, sc, e => conV e fun c => strV c s
  | .bol b, sc, e => conV e fun c => bolV c b
  | .neg a, sc, e => unV e fun o a' => isUSub o && chkE K a sc a'
  | .not a, sc, e => unV e fun o a' => isNot o && chkE K a sc a'
  | .bin o a b, sc, e => binV e fun a' o' b' => o' == o && (chkE K a sc a' && chkE K b sc b')
  | .cmp o a b, sc, e => cmpV e fun a' os bs => consV os fun o' os => consV bs fun b' bs => os.isEmpty && (bs.isEmpty && (o' == o && (behindInMarks o' b' == false && (chkE K a sc a' && chkE K b sc b'))))
  | .and a b, sc, e => boolV e fun o es => isAnd o && consV es fun a' es => consV es fun b' es => es.isEmpty && (chkE K a sc a' && chkE K b sc b')
  | .and3 a b c, sc, e => boolV e fun o es => isAnd o && consV es fun a' es => chkE K a sc a' && consV es fun b' es => consV es fun c' es => es.isEmpty && (chkE K b sc b' && chkE K c sc c')
  | .or a b, sc, e => boolV e fun o es => !isAnd o && consV es fun a' es => consV es fun b' es => es.isEmpty && (chkE K a sc a' && chkE K b sc b')
  | .ite t a b, sc, e => iteV e fun t' a' b' => chkE K t sc t' && (chkE K a sc a' && chkE K b sc b')
  | .sub a i, sc, e => subV e fun a' i' => noSl i' && (chkE K a sc a' && chkE K i sc i')
  | .slc i k, sc, e => subV e fun a' i' => nmV a' (nm i) && slV i' fun a b c => a.isNone && (c.isNone && someV b fun b => conV b fun c => intV c (k : Int))
  | .atr a i C, sc, e => attrV e fun a' n _ => n == nm i && (chkAtr K C i && (noCall a' && chkE K a sc a'))
  | .tup l, sc, e => tupV e fun es => decide (es.length < 1000) && chkL K l sc es
  | .lst l, sc, e => lstV e fun es => decide (es.length < 1000) && chkL K l sc es
  | .dct, sc, e => dctV e
  | .call i f l, sc, e => callV e fun g es _ => nmV g (nm i) && (isGlb sc i && (nsIn K mainGlobals (nm i) == some (some (.ref f)) && (isFun K f && chkL K l sc es)))
  | .new i C f l, sc, e => callV e fun g es _ => nmV g (nm i) && (isGlb sc i && (nsIn K mainGlobals (nm i) == some (some (.ref C)) && (keepIn K (.ref C) && makesIn K C && findIn K (.ref C) "__init__" == some (some (.ref f)) && isFun K f && chkL K l sc es)))
  | .mth a i C f l, sc, e => mthV e (nm i) fun a' es => chkMth K C i f && (decide (es.length < 20) && (chkE K a sc a' && chkL K l sc es))
  | .bif b l, sc, e => callV e fun g es _ => nmV g b.nm && (chkBf sc b K && chkL K l sc es)
  | .app a x, sc, e => mthV e "append" fun a' es => consV es fun x' es => es.isEmpty && (noStar x' && (chkE K a sc a' && chkE K x sc x'))
  | .pop a, sc, e => mthV e "pop" fun a' es => es.isEmpty && chkE K a sc a'
  | .rev a, sc, e => mthV e "reverse" fun a' es => es.isEmpty && chkE K a sc a'
  | .get a k d, sc, e => mthV e "get" fun a' es => consV es fun k' es => consV es fun d' es => es.isEmpty && (noStar k' && (noStar d' && (chkE K a sc a' && (chkE K k sc k' && chkE K d sc d'))))
  | .sad a x, sc, e => mthV e "add" fun a' es => consV es fun x' es => es.isEmpty && (noStar x' && (chkE K a sc a' && chkE K x sc x'))
  | .cpr elt x fs it, sc, e => lcV e fun elt' gs csc _ => consV gs fun g gs => gs.isEmpty && compV g fun t it' => nmV t (nm x) && (chkCScope csc x fs && (fs.all (fun i => sc.names.lookup (nm i) == some .cell || sc.names.lookup (nm i) == some .free) && (noSet it' && (chkE K it sc it' && chkE K elt (relab csc sc) elt'))))
termination_by structural x => x
noncomputable def chkL (K : Frag) : X → Scope → List Expr → Bool
  | .nil, _, es => es.isEmpty
  | .cons h t, sc, es => consV es fun e es => noStar e && (chkE K h sc e && chkL K t sc es)
  | _, _, _ => false
termination_by structural x => x
end

end Mine

namespace Mine

/-! the operations on abstract values -/
theorem no {α : Type} {z : α} {P : Prop} (e : none = some z) : P := nomatch e
noncomputable def asInt (x : AV) : Option Int := match x with | .int a => some a | _ => none
noncomputable def asStr (x : AV) : Option Str := match x with | .str a => some a | _ => none
noncomputable def asTup (x : AV) : Option (List AV) := match x with | .tup a => some a | _ => none
noncomputable def asRef (x : AV) : Option Addr := match x with | .ref a => some a | _ => none
noncomputable def asBool (x : AV) : Option Bool := match x with | .bool a => some a | _ => none
theorem asInt_of {x : AV} {a : Int} (e : asInt x = some a) : x = .int a := by
  cases x <;> first | (cases e; rfl) | exact no e
theorem asStr_of {x : AV} {a : Str} (e : asStr x = some a) : x = .str a := by
  cases x <;> first | (cases e; rfl) | exact no e
theorem asTup_of {x : AV} {a : List AV} (e : asTup x = some a) : x = .tup a := by
  cases x <;> first | (cases e; rfl) | exact no e
theorem asRef_of {x : AV} {a : Addr} (e : asRef x = some a) : x = .ref a := by
  cases x <;> first | (cases e; rfl) | exact no e
theorem asBool_of {x : AV} {a : Bool} (e : asBool x = some a) : x = .bool a := by
  cases x <;> first | (cases e; rfl) | exact no e
theorem bnd {α β : Type} {o : Option α} {f : α → Option β} {z : β} (e : o.bind f = some z) : ∃ a, o = some a ∧ f a = some z := by
  cases o with
  | none => exact no e
  | some a => exact ⟨a, rfl, e⟩
noncomputable def oP {α : Type} (o : Option α) (k : α → Prop) : Prop := match o with | some a => k a | none => False
theorem oP_of {α : Type} {o : Option α} {k : α → Prop} (h : oP o k) : ∃ a, o = some a ∧ k a := by
  cases o with
  | none => exact h.elim
  | some a => exact ⟨a, rfl, h⟩
noncomputable def asLst (o : Option MO) : Option (List AV) := match o with | some (.list l) => some l | _ => none
noncomputable def asSet (o : Option MO) : Option (List Int) := match o with | some (.set l) => some l | _ => none
theorem asLst_of {o : Option MO} {l : List AV} (e : asLst o = some l) : o = some (.list l) := by
  cases o with
  | none => exact no e
  | some x => cases x <;> first | (cases e; rfl) | exact no e
theorem asSet_of {o : Option MO} {l : List Int} (e : asSet o = some l) : o = some (.set l) := by
  cases o with
  | none => exact no e
  | some x => cases x <;> first | (cases e; rfl) | exact no e
noncomputable def i2 {α : Type} (x y : AV) (f : Int → Int → Option α) : Option α := (asInt x).bind fun a => (asInt y).bind fun b => f a b
theorem i2_of {α : Type} {x y : AV} {f : Int → Int → Option α} {z : α} (e : i2 x y f = some z) : ∃ a b, x = .int a ∧ y = .int b ∧ f a b = some z := by
  obtain ⟨a, e1, e⟩ := bnd e
  obtain ⟨b, e2, e⟩ := bnd e
  exact ⟨a, b, asInt_of e1, asInt_of e2, e⟩
theorem ifs {α : Type} {c : Prop} [Decidable c] {z w : α} (e : (if c then some z else none) = some w) : c ∧ z = w := by
  split at e
  · exact ⟨‹c›, Option.some.inj e⟩
  · exact no e
noncomputable def intsOf : List AV → Option (List Int)
  | [] => some []
  | x :: r => (asInt x).bind fun k => (intsOf r).map (k :: ·)
theorem ints_nil : intsOf [] = some [] := rfl
theorem ints_int (k : Int) (r : List AV) : intsOf (.int k :: r) = (intsOf r).map (k :: ·) := rfl
noncomputable def eq0 (x y : AV) : Option Bool := match x with
  | .int a => (asInt y).bind fun b => some (decide (a = b))
  | .str a => (asStr y).bind fun b => some (decide (a = b))
  | .tup l => (asTup y).bind fun m => (intsOf l).bind fun a => (intsOf m).bind fun b => some (decide (a = b))
  | _ => none
noncomputable def eq1 (x y : AV) : Option Bool := match x with
  | .bool a => (asBool y).bind fun b => some (a == b)
  | x => eq0 x y
noncomputable def eqs : List AV → List AV → Option Bool
  | [], _ => some true
  | a :: l, m => (match m with
    | [] => some true
    | b :: m => (eq0 a b).bind fun x => (eqs l m).bind fun y => some (x && y))
noncomputable def eqL (l m : List AV) : Option Bool := if l.length = m.length then eqs l m else some false
noncomputable def eqA (O : Objs) (x y : AV) : Option Bool := match x with
  | .ref a => (asRef y).bind fun b => (asLst (O a)).bind fun l => (asLst (O b)).bind fun m => eqL l m
  | x => eq1 x y
noncomputable def as2 (l : List AV) : Option (Int × Int) := match l with
  | [x, y] => i2 x y fun a b => some (a, b)
  | _ => none
noncomputable def lt1 (x y : AV) : Option Bool := match x with
  | .int a => (asInt y).bind fun b => some (decide (a < b))
  | .str a => (asStr y).bind fun b => some (decide (a.cps.toList < b.cps.toList))
  | .tup l => (asTup y).bind fun m => (as2 l).bind fun p => (as2 m).bind fun q => some (decide (p.1 < q.1 ∨ (p.1 = q.1 ∧ p.2 < q.2)))
  | _ => none
noncomputable def le1 (x y : AV) : Option Bool := i2 x y fun a b => some (decide (a ≤ b))
theorem le1_int (a b : Int) : le1 (.int a) (.int b) = some (decide (a ≤ b)) := rfl
noncomputable def inM (o : Option MO) (k : Int) : Option Bool := match o with
  | some (.dictI l) => some (l.any fun p => decide (p.1 = k))
  | some (.set l) => some (l.contains k)
  | _ => none
noncomputable def inA (O : Objs) (x y : AV) : Option Bool := (asInt x).bind fun k => (asRef y).bind fun a => inM (O a) k
noncomputable def cmpA (O : Objs) (o : CmpOp) (x y : AV) : Option Bool := match o with
  | .Eq => eqA O x y
  | .NotEq => (eqA O x y).map (!·)
  | .Lt => lt1 x y
  | .Gt => lt1 y x
  | .LtE => le1 x y
  | .GtE => le1 y x
  | .In => inA O x y
  | .NotIn => (inA O x y).map (!·)
  | .Is => none
  | .IsNot => none
theorem cmp_eq (O : Objs) (x y : AV) : cmpA O .Eq x y = eqA O x y := rfl
theorem cmp_ne (O : Objs) (x y : AV) : cmpA O .NotEq x y = (eqA O x y).map (!·) := rfl
theorem cmp_lt (O : Objs) (x y : AV) : cmpA O .Lt x y = lt1 x y := rfl
theorem cmp_gt (O : Objs) (x y : AV) : cmpA O .Gt x y = lt1 y x := rfl
theorem cmp_le (O : Objs) (x y : AV) : cmpA O .LtE x y = le1 x y := rfl
theorem cmp_ge (O : Objs) (x y : AV) : cmpA O .GtE x y = le1 y x := rfl
theorem cmp_in (O : Objs) (x y : AV) : cmpA O .In x y = inA O x y := rfl
theorem cmp_ni (O : Objs) (x y : AV) : cmpA O .NotIn x y = (inA O x y).map (!·) := rfl
noncomputable def binA (o : Operator) (x y : AV) : Option AV := match o with
  | .Add => i2 x y fun a b => some (.int (a + b))
  | .Sub => i2 x y fun a b => some (.int (a - b))
  | .Mult => i2 x y fun a b => if a.natAbs < 2 ^ 20 ∧ b.natAbs < 2 ^ 20 then some (.int (a * b)) else none
  | .Mod => i2 x y fun a b => if 0 < b ∧ b < 2 ^ 20 then some (.int (a % b)) else none
  | .FloorDiv => i2 x y fun a b => if 0 < b ∧ b < 2 ^ 20 then some (.int (a / b)) else none
  | _ => none
theorem bin_add (a b : Int) : binA .Add (.int a) (.int b) = some (.int (a + b)) := rfl
theorem bin_sub (a b : Int) : binA .Sub (.int a) (.int b) = some (.int (a - b)) := rfl
theorem bin_mul (a b : Int) : binA .Mult (.int a) (.int b) = if a.natAbs < 2 ^ 20 ∧ b.natAbs < 2 ^ 20 then some (.int (a * b)) else none := rfl
theorem bin_mod (a b : Int) : binA .Mod (.int a) (.int b) = if 0 < b ∧ b < 2 ^ 20 then some (.int (a % b)) else none := rfl
theorem bin_div (a b : Int) : binA .FloorDiv (.int a) (.int b) = if 0 < b ∧ b < 2 ^ 20 then some (.int (a / b)) else none := rfl
noncomputable def dget {K : Type} [DecidableEq K] (l : List (K × AV)) (k : K) : Option AV := (l.find? fun p => decide (p.1 = k)).map (·.2)
noncomputable def dput {K : Type} [DecidableEq K] (l : List (K × AV)) (k : K) (v : AV) : List (K × AV) :=
  if l.any (fun p => decide (p.1 = k)) then l.map (fun p => if p.1 = k then (p.1, v) else p) else l ++ [(k, v)]
noncomputable def idx (l : List AV) (k : Int) : Option AV := if 0 ≤ k ∧ k < 2 ^ 40 then l[k.toNat]? else none
noncomputable def subM (o : Option MO) (k : Int) : Option AV := match o with
  | some (.list l) => idx l k
  | some (.dictI l) => dget l k
  | _ => none
noncomputable def subA (O : Objs) (x y : AV) : Option AV := (asInt y).bind fun k => match x with
  | .tup l => idx l k
  | .ref a => subM (O a) k
  | _ => none
noncomputable def okR (x : Int) : Bool := decide (x.natAbs < 2 ^ 40)
noncomputable def rngL (a b s : Int) : List AV := (List.range (Builtin.Range.rangeSize a b s).toNat).map fun (i : Nat) => AV.int (a + (i : Int) * s)
noncomputable def seqOf (O : Objs) : AV → Option (List AV)
  | .ref a => match O a with
    | some (.list l) => some l
    | _ => none
  | .tup l => some l
  | .rng a b s => if okR a = true ∧ okR b = true ∧ okR s = true ∧ s ≠ 0 then some (rngL a b s) else none
  | _ => none

noncomputable def lim : Nat := 2 ^ 20
noncomputable def setf (fr : Nat → Option AV) (i : Nat) (v : AV) : Nat → Option AV := fun j => if j = i then some v else fr j
noncomputable def restr (fr : Nat → Option AV) (fs : List Nat) : Nat → Option AV := fun j => if fs.contains j then fr j else none

noncomputable def truA : AV → (Bool → Prop) → Prop
  | .bool b, P => P b
  | _, _ => False
noncomputable def newM (O : Objs) (m : MO) (Q : AV → Objs → Prop) : Prop := ∀ a, O a = none → Q (.ref a) (up O a m)
theorem tru_bool (b : Bool) (P : Bool → Prop) : truA (.bool b) P = P b := rfl
noncomputable def one (vs : List AV) : Option AV := match vs with | [x] => some x | _ => none
theorem one_of {vs : List AV} {x : AV} (e : one vs = some x) : vs = [x] := by
  cases vs with
  | nil => exact no e
  | cons y t => cases t with
    | nil => cases e; rfl
    | cons _ _ => exact no e
noncomputable def two (vs : List AV) : Option (AV × AV) := match vs with | [x, y] => some (x, y) | _ => none
theorem two_of {vs : List AV} {p : AV × AV} (e : two vs = some p) : vs = [p.1, p.2] := by
  cases vs with
  | nil => exact no e
  | cons x t => cases t with
    | nil => exact no e
    | cons y t => cases t with
      | nil => cases e; rfl
      | cons _ _ => exact no e
noncomputable def lisA (o : Option MO) (P : List AV → Prop) : Prop := match o with
  | some (.list l) => l.length < lim ∧ P l
  | some (.dictI []) => P []
  | _ => False
noncomputable def rngA (vs : List AV) (Q : AV → Prop) : Prop := match vs with
  | [x] => oP (asInt x) fun b => okR b = true ∧ Q (.rng 0 b 1)
  | [x, y, z] => oP (asInt x) fun a => oP (asInt y) fun b => oP (asInt z) fun s => (okR a = true ∧ okR b = true ∧ okR s = true ∧ s ≠ 0) ∧ Q (.rng a b s)
  | _ => False
noncomputable def bifA (O : Objs) (b : Bf) (vs : List AV) (Q : AV → Objs → Prop) : Prop := match b with
  | .len => oP (one vs) fun x => oP (asRef x) fun a => oP (asLst (O a)) fun l => l.length < lim ∧ Q (.int l.length) O
  | .abs => oP (one vs) fun x => oP (asInt x) fun k => Q (.int (if k < 0 then -k else k)) O
  | .min => oP (two vs) fun p => oP (asInt p.1) fun x => oP (asInt p.2) fun y => Q (.int (min x y)) O
  | .list => oP (one vs) fun x => oP (asRef x) fun a => lisA (O a) fun l => newM O (.list l) Q
  | .tuple => oP (one vs) fun x => oP (asRef x) fun a => oP (asLst (O a)) fun l => l.length < lim ∧ Q (.tup l) O
  | .set => vs = [] ∧ newM O (.set []) Q
  | .range => rngA vs fun v => Q v O
noncomputable def appA (O : Objs) (v x : AV) (Q : AV → Objs → Prop) : Prop := oP (asRef v) fun a => oP (asLst (O a)) fun l => l.length < lim ∧ Q .none (up O a (.list (l ++ [x])))
noncomputable def popA (O : Objs) (v : AV) (Q : AV → Objs → Prop) : Prop := oP (asRef v) fun a => oP (asLst (O a)) fun l => l.length < lim ∧ ∃ x, l[l.length - 1]? = some x ∧ Q x (up O a (.list l.dropLast))
noncomputable def revA (O : Objs) (v : AV) (Q : AV → Objs → Prop) : Prop := oP (asRef v) fun a => oP (asLst (O a)) fun l => l.length < lim ∧ Q .none (up O a (.list l.reverse))
noncomputable def sadA (O : Objs) (v x : AV) (Q : AV → Objs → Prop) : Prop := oP (asRef v) fun a => oP (asInt x) fun k => oP (asSet (O a)) fun l => l.length < 4000 ∧ Q .none (up O a (.set (if l.contains k then l else l ++ [k])))
noncomputable def getM (o : Option MO) (k d : AV) (Q : AV → Prop) : Prop := match o with
  | some (.dictS l) => oP (asStr k) fun s => Q ((dget l s).getD d)
  | some (.dictT l) => oP (asTup k) fun m => oP (intsOf m) fun ks => Q ((dget l ks).getD d)
  | some (.dictI []) => (match k with
    | .str _ => Q d
    | .tup m => oP (intsOf m) fun _ => Q d
    | _ => False)
  | _ => False
noncomputable def getA (O : Objs) (v k d : AV) (Q : AV → Objs → Prop) : Prop := oP (asRef v) fun a => getM (O a) k d fun w => Q w O
noncomputable def sitM (o : Option MO) (k x : AV) (P : MO → Prop) : Prop := match o with
  | some (.list l) => oP (asInt k) fun k => (0 ≤ k ∧ k < l.length ∧ l.length < lim) ∧ P (.list (l.set k.toNat x))
  | some (.dictS l) => oP (asStr k) fun s => l.length < lim ∧ P (.dictS (dput l s x))
  | some (.dictT l) => oP (asTup k) fun m => oP (intsOf m) fun ks => l.length < lim ∧ P (.dictT (dput l ks x))
  | some (.dictI l) => (match k with
    | .int k => l.length < lim ∧ P (.dictI (dput l k x))
    | .str s => l = [] ∧ P (.dictS [(s, x)])
    | .tup m => l = [] ∧ oP (intsOf m) fun ks => P (.dictT [(ks, x)])
    | _ => False)
  | _ => False
noncomputable def sitA (O : Objs) (v k x : AV) (Q : Objs → Prop) : Prop := oP (asRef v) fun a => sitM (O a) k x fun m => Q (up O a m)

noncomputable def lstA (O : Objs) (x : AV) : Prop := oP (asRef x) fun a => ∃ l, O a = some (.list l)
noncomputable def setA (O : Objs) (x : AV) : Prop := oP (asRef x) fun a => ∃ l, O a = some (.set l)
noncomputable def dctA (O : Objs) (x : AV) : Prop := oP (asRef x) fun a => (∃ l, O a = some (.dictI l)) ∨ (∃ l, O a = some (.dictS l)) ∨ (∃ l, O a = some (.dictT l))

section
variable (c : Cx) (n : Nat)

/-- a call of a def of the text -/
noncomputable def CallOK (f : Addr) (vs : List AV) (O : Objs) (Q : AV → Objs → Prop) : Prop :=
  ∀ A s H ws, Room n A → RelO c H O s → RVs (frz O H s.heap) ws vs →
    codeAny (model c.prog c.w) A (.call (.ref f) ⟨ws, []⟩) (fun r s' => match r with
      | .ok (.ret v) => ∃ av O', RV (frz O' H s'.heap) v av ∧ RelO c H O' s' ∧ StepO [] H O s.heap O' s'.heap ∧ Q av O'
      | _ => False) s

noncomputable def compL (body : AV → Objs → (AV → Objs → Prop) → Prop) (v : AV) (full : List AV) : List AV → Objs → List AV → (List AV → Objs → Prop) → Prop
  | [], O, acc, Q => Q acc O
  | y :: r, O, acc, Q => body y O (fun w O' => seqOf O' v = some full ∧ compL body v full r O' (acc ++ [w]) Q)

mutual
noncomputable def wpE : X → (Nat → Option AV) → Objs → (AV → Objs → Prop) → Prop
  | .nil, _, _, _ => False
  | .cons _ _, _, _, _ => False
  | .var i, fr, O, Q => (match fr i with | some v => Q v O | none => False)
  | .glb _ k, _, O, Q => Q (.int k) O
  | .int k, _, O, Q => Q (.int k) O
  | .str s, _, O, Q => Q (.str s) O
  | .bol b, _, O, Q => Q (.bool b) O
  | .neg a, fr, O, Q => wpE a fr O fun v O => (match v with | .int k => Q (.int (-k)) O | _ => False)
  | .not a, fr, O, Q => wpE a fr O fun v O => truA v fun b => Q (.bool (!b)) O
  | .bin o a b, fr, O, Q => wpE a fr O fun x O => wpE b fr O fun y O => (match binA o x y with | some z => Q z O | none => False)
  | .cmp o a b, fr, O, Q => wpE a fr O fun x O => wpE b fr O fun y O => (match cmpA O o x y with | some z => Q (.bool z) O | none => False)
  | .and a b, fr, O, Q => wpE a fr O fun x O => truA x fun t => if t then wpE b fr O Q else Q x O
  | .and3 _ _ _, _, _, _ => False
  | .or a b, fr, O, Q => wpE a fr O fun x O => truA x fun t => if t then Q x O else wpE b fr O Q
  | .ite t a b, fr, O, Q => wpT t fr O fun z O => if z then wpE a fr O Q else wpE b fr O Q
  | .sub a i, fr, O, Q => wpE a fr O fun x O => wpE i fr O fun y O => (match subA O x y with | some z => Q z O | none => False)
  | .slc i k, fr, O, Q => (match fr i with | some (.lst l) => k < 1000 ∧ l.length < lim ∧ newM O (.list (l.take k)) Q | _ => False)
  | .atr a i C, fr, O, Q => wpE a fr O fun x O => (match x with | .inst _ C' l => C' = C ∧ ∃ v, lk l i = some v ∧ Q v O | _ => False)
  | .tup l, fr, O, Q => wpL l fr O fun vs O => Q (.tup vs) O
  | .lst l, fr, O, Q => wpL l fr O fun vs O => newM O (.list vs) Q
  | .dct, _, O, Q => newM O (.dictI []) Q
  | .call _ f l, fr, O, Q => wpL l fr O fun vs O => CallOK c n f vs O Q
  | .new _ C f l, fr, O, Q => wpL l fr O fun vs O => CallOK c n C vs O Q
  | .mth a i C f l, fr, O, Q => wpE a fr O fun x O => (match x with | .inst x' C' as => C' = C ∧ lk as i = none ∧ wpL l fr O fun vs O => CallOK c n f (.inst x' C' as :: vs) O Q | _ => False)
  | .bif b l, fr, O, Q => wpL l fr O fun vs O => bifA O b vs Q
  | .app a x, fr, O, Q => wpE a fr O fun v O => lstA O v ∧ wpE x fr O fun y O => appA O v y Q
  | .pop a, fr, O, Q => wpE a fr O fun v O => popA O v Q
  | .rev a, fr, O, Q => wpE a fr O fun v O => revA O v Q
  | .get a k d, fr, O, Q => wpE a fr O fun v O => dctA O v ∧ wpE k fr O fun y O => wpE d fr O fun z O => getA O v y z Q
  | .sad a x, fr, O, Q => wpE a fr O fun v O => setA O v ∧ wpE x fr O fun y O => sadA O v y Q
  | .cpr e x fs it, fr, O, Q => fs.all (fun i => (fr i).isSome) = true ∧ wpE it fr O fun v O => (match seqOf O v with
      | some full => full.length < lim ∧ compL (fun y O K => wpE e (setf (restr fr fs) x y) O K) v full full O [] fun out O => newM O (.list out) Q
      | none => False)
termination_by structural x => x
noncomputable def wpT : X → (Nat → Option AV) → Objs → (Bool → Objs → Prop) → Prop
  | .not a, fr, O, Q => wpT a fr O fun b O => Q (!b) O
  | .cmp o a b, fr, O, Q => wpE a fr O fun x O => wpE b fr O fun y O => (match cmpA O o x y with | some z => Q z O | none => False)
  | .and a b, fr, O, Q => wpT a fr O fun t O => if t then wpT b fr O Q else Q false O
  | .and3 a b d, fr, O, Q => wpT a fr O fun t O => if t then (wpT b fr O fun t O => if t then wpT d fr O Q else Q false O) else Q false O
  | .or a b, fr, O, Q => wpT a fr O fun t O => if t then Q true O else wpT b fr O Q
  | .ite t a b, fr, O, Q => wpT t fr O fun z O => if z then wpT a fr O Q else wpT b fr O Q
  | .var i, fr, O, Q => (match fr i with | some v => truA v fun b => Q b O | none => False)
  | .bol b, _, O, Q => Q b O
  | .sub a i, fr, O, Q => wpE a fr O fun x O => wpE i fr O fun y O => (match subA O x y with | some z => truA z fun b => Q b O | none => False)
  | .call _ f l, fr, O, Q => wpL l fr O fun vs O => CallOK c n f vs O fun v O => truA v fun b => Q b O
  | .mth a i C f l, fr, O, Q => wpE a fr O fun x O => (match x with | .inst x' C' as => C' = C ∧ lk as i = none ∧ wpL l fr O fun vs O => CallOK c n f (.inst x' C' as :: vs) O fun v O => truA v fun b => Q b O | _ => False)
  | _, _, _, _ => False
termination_by structural x => x
noncomputable def wpL : X → (Nat → Option AV) → Objs → (List AV → Objs → Prop) → Prop
  | .nil, _, O, Q => Q [] O
  | .cons h t, fr, O, Q => wpE h fr O fun v O => wpL t fr O fun vs O => Q (v :: vs) O
  | _, _, _, _ => False
termination_by structural x => x
end

inductive Fl where
  | next | brk | cont
  | ret (v : AV)

noncomputable def forL (x : Nat) (v : AV) (full : List AV) (body : St → (Fl → St → Prop) → Prop) : List AV → St → (Fl → St → Prop) → Prop
  | [], σ, Q => Q .next σ
  | y :: r, σ, Q => body ⟨σ.O, setf σ.fr x y⟩ fun f σ' => match f with
    | .next => seqOf σ'.O v = some full ∧ forL x v full body r σ' Q
    | .cont => seqOf σ'.O v = some full ∧ forL x v full body r σ' Q
    | .brk => Q .next σ'
    | .ret w => Q (.ret w) σ'

theorem forL_nil (x : Nat) (v : AV) (full : List AV) (body : St → (Fl → St → Prop) → Prop) (σ : St) (Q : Fl → St → Prop) : forL x v full body [] σ Q = Q .next σ := rfl
theorem forL_cons (x : Nat) (v : AV) (full : List AV) (body : St → (Fl → St → Prop) → Prop) (y : AV) (r : List AV) (σ : St) (Q : Fl → St → Prop) : forL x v full body (y :: r) σ Q = body ⟨σ.O, setf σ.fr x y⟩ fun f σ' => match f with
    | .next => seqOf σ'.O v = some full ∧ forL x v full body r σ' Q
    | .cont => seqOf σ'.O v = some full ∧ forL x v full body r σ' Q
    | .brk => Q .next σ'
    | .ret w => Q (.ret w) σ' := rfl

noncomputable def wpS : S → St → (Fl → St → Prop) → Prop
  | .nil, σ, Q => Q .next σ
  | .cons h t, σ, Q => wpS h σ fun f σ' => (match f with | .next => wpS t σ' Q | f => Q f σ')
  | .asg i e, σ, Q => wpE c n e σ.fr σ.O fun v O => Q .next ⟨O, setf σ.fr i v⟩
  | .asc i e x fs it, σ, Q => wpE c n (.cpr e x fs it) σ.fr σ.O fun v O => Q .next ⟨O, setf σ.fr i v⟩
  | .asg2 i j e, σ, Q => wpE c n e σ.fr σ.O fun v O => (match v with | .tup [a, b] => Q .next ⟨O, setf (setf σ.fr i a) j b⟩ | _ => False)
  | .sat o i C e, σ, Q => wpE c n e σ.fr σ.O fun v O => (match σ.fr o with
      | some (.ref x) => (match O x with
        | some (.obj C' dx) => C' = C ∧ (match O dx with | some (.att l) => l.length < 100 ∧ Q .next ⟨up O dx (.att (put l i v)), σ.fr⟩ | _ => False)
        | _ => False)
      | _ => False)
  | .sit o k e, σ, Q => wpE c n e σ.fr σ.O fun v O => wpE c n o σ.fr O fun a O => wpE c n k σ.fr O fun k O => sitA O a k v fun O => Q .next ⟨O, σ.fr⟩
  | .aug i op e, σ, Q => (match σ.fr i with
      | some (.int a) => wpE c n e σ.fr σ.O fun v O => (match op, v with | .Add, .int b => Q .next ⟨O, setf σ.fr i (.int (a + b))⟩ | _, _ => False)
      | _ => False)
  | .ex e, σ, Q => wpE c n e σ.fr σ.O fun v O => (match v with | .none => Q .next ⟨O, σ.fr⟩ | .int _ => Q .next ⟨O, σ.fr⟩ | _ => False)
  | .iff t a b, σ, Q => wpT c n t σ.fr σ.O fun z O => if z then wpS a ⟨O, σ.fr⟩ Q else wpS b ⟨O, σ.fr⟩ Q
  | .whl t b, σ, Q => ∃ (I : Nat → St → Prop) (k : Nat), I k σ ∧ ∀ k σ, I k σ → wpT c n t σ.fr σ.O fun z O => if z then (wpS b ⟨O, σ.fr⟩ fun f σ' => match f with
      | .next => ∃ m, m < k ∧ I m σ'
      | .cont => ∃ m, m < k ∧ I m σ'
      | .brk => Q .next σ'
      | .ret v => Q (.ret v) σ') else Q .next ⟨O, σ.fr⟩
  | .for x it b, σ, Q => wpE c n it σ.fr σ.O fun v O => (match seqOf O v with
      | some full => full.length < lim ∧ forL x v full (fun σ K => wpS b σ K) full ⟨O, σ.fr⟩ Q
      | none => False)
  | .ret e, σ, Q => wpE c n e σ.fr σ.O fun v O => Q (.ret v) ⟨O, σ.fr⟩
  | .cnt, σ, Q => Q .cont σ
  | .wild, _, _ => False
  | .frz i, σ, Q => (match σ.fr i with
      | some (.ref x) => (match σ.O x with
        | some (.obj C dx) => (match σ.O dx with | some (.att l) => Q .next ⟨dl (dl σ.O x) dx, setf σ.fr i (.inst x C l)⟩ | _ => False)
        | _ => False)
      | _ => False)
termination_by structural x => x
theorem wE_nil (y0) (y1) (y2) : wpE c n .nil y0 y1 y2 = (False) := rfl
theorem wE_cons (z0) (z1) (y0) (y1) (y2) : wpE c n (.cons z0 z1) y0 y1 y2 = (False) := rfl
theorem wE_var (i) (fr : Nat → Option AV) (O) (Q : AV → Objs → Prop) : Eq (wpE c n (.var i) fr O Q) (match fr i with | some v => Q v O | none => False) := rfl
theorem wE_glb (z0) (k) (y0) (O) (Q) : wpE c n (.glb z0 k) y0 O Q = (Q (.int k) O) := rfl
theorem wE_int (k) (y0) (O) (Q) : wpE c n (.int k) y0 O Q = (Q (.int k) O) := rfl
theorem wE_str (s) (y0) (O) (Q) : wpE c n (.str s) y0 O Q = (Q (.str s) O) := rfl
theorem wE_bol (b) (y0) (O) (Q) : wpE c n (.bol b) y0 O Q = (Q (.bool b) O) := rfl
theorem wE_neg (a) (fr) (O) (Q) : wpE c n (.neg a) fr O Q = (wpE c n a fr O fun v O => (match v with | .int k => Q (.int (-k)) O | _ => False)) := rfl
theorem wE_not (a) (fr) (O) (Q) : wpE c n (.not a) fr O Q = (wpE c n a fr O fun v O => truA v fun b => Q (.bool (!b)) O) := rfl
theorem wE_bin (o) (a) (b) (fr) (O) (Q) : wpE c n (.bin o a b) fr O Q = (wpE c n a fr O fun x O => wpE c n b fr O fun y O => (match binA o x y with | some z => Q z O | none => False)) := rfl
theorem wE_cmp (o) (a) (b) (fr) (O) (Q) : wpE c n (.cmp o a b) fr O Q = (wpE c n a fr O fun x O => wpE c n b fr O fun y O => (match cmpA O o x y with | some z => Q (.bool z) O | none => False)) := rfl
theorem wE_and (a) (b) (fr) (O) (Q) : wpE c n (.and a b) fr O Q = (wpE c n a fr O fun x O => truA x fun t => if t then wpE c n b fr O Q else Q x O) := rfl
theorem wE_and3 (z0) (z1) (z2) (y0) (y1) (y2) : wpE c n (.and3 z0 z1 z2) y0 y1 y2 = (False) := rfl
theorem wE_or (a) (b) (fr) (O) (Q) : wpE c n (.or a b) fr O Q = (wpE c n a fr O fun x O => truA x fun t => if t then Q x O else wpE c n b fr O Q) := rfl
theorem wE_ite (t) (a) (b) (fr) (O) (Q) : wpE c n (.ite t a b) fr O Q = (wpT c n t fr O fun z O => if z then wpE c n a fr O Q else wpE c n b fr O Q) := rfl
theorem wE_sub (a) (i) (fr) (O) (Q) : wpE c n (.sub a i) fr O Q = (wpE c n a fr O fun x O => wpE c n i fr O fun y O => (match subA O x y with | some z => Q z O | none => False)) := rfl
theorem wE_slc (i) (k) (fr) (O) (Q) : wpE c n (.slc i k) fr O Q = ((match fr i with | some (.lst l) => k < 1000 ∧ l.length < lim ∧ newM O (.list (l.take k)) Q | _ => False)) := rfl
theorem wE_atr (a) (i) (C) (fr) (O) (Q) : wpE c n (.atr a i C) fr O Q = (wpE c n a fr O fun x O => (match x with | .inst _ C' l => C' = C ∧ ∃ v, lk l i = some v ∧ Q v O | _ => False)) := rfl
theorem wE_tup (l) (fr) (O) (Q) : wpE c n (.tup l) fr O Q = (wpL c n l fr O fun vs O => Q (.tup vs) O) := rfl
theorem wE_lst (l) (fr) (O) (Q) : wpE c n (.lst l) fr O Q = (wpL c n l fr O fun vs O => newM O (.list vs) Q) := rfl
theorem wE_dct (y0) (O) (Q) : wpE c n .dct y0 O Q = (newM O (.dictI []) Q) := rfl
theorem wE_call (z0) (f) (l) (fr) (O) (Q) : wpE c n (.call z0 f l) fr O Q = (wpL c n l fr O fun vs O => CallOK c n f vs O Q) := rfl
theorem wE_new (z0) (C) (f) (l) (fr) (O) (Q) : wpE c n (.new z0 C f l) fr O Q = (wpL c n l fr O fun vs O => CallOK c n C vs O Q) := rfl
theorem wE_mth (a) (i) (C) (f) (l) (fr) (O) (Q) : wpE c n (.mth a i C f l) fr O Q = (wpE c n a fr O fun x O => (match x with | .inst x' C' as => C' = C ∧ lk as i = none ∧ wpL c n l fr O fun vs O => CallOK c n f (.inst x' C' as :: vs) O Q | _ => False)) := rfl
theorem wE_bif (b) (l) (fr) (O) (Q) : wpE c n (.bif b l) fr O Q = (wpL c n l fr O fun vs O => bifA O b vs Q) := rfl
theorem wE_app (a) (x) (fr) (O) (Q) : wpE c n (.app a x) fr O Q = (wpE c n a fr O fun v O => lstA O v ∧ wpE c n x fr O fun y O => appA O v y Q) := rfl
theorem wE_pop (a) (fr) (O) (Q) : wpE c n (.pop a) fr O Q = (wpE c n a fr O fun v O => popA O v Q) := rfl
theorem wE_rev (a) (fr) (O) (Q) : wpE c n (.rev a) fr O Q = (wpE c n a fr O fun v O => revA O v Q) := rfl
theorem wE_get (a) (k) (d) (fr) (O) (Q) : wpE c n (.get a k d) fr O Q = (wpE c n a fr O fun v O => dctA O v ∧ wpE c n k fr O fun y O => wpE c n d fr O fun z O => getA O v y z Q) := rfl
theorem wE_sad (a) (x) (fr) (O) (Q) : wpE c n (.sad a x) fr O Q = (wpE c n a fr O fun v O => setA O v ∧ wpE c n x fr O fun y O => sadA O v y Q) := rfl
theorem wE_cpr (e) (x) (fs) (it) (fr) (O) (Q) : wpE c n (.cpr e x fs it) fr O Q = (fs.all (fun i => (fr i).isSome) = true ∧ wpE c n it fr O fun v O => (match seqOf O v with
      | some full => full.length < lim ∧ compL (fun y O K => wpE c n e (setf (restr fr fs) x y) O K) v full full O [] fun out O => newM O (.list out) Q
      | none => False)) := rfl
theorem wT_not (a) (fr) (O) (Q) : wpT c n (.not a) fr O Q = (wpT c n a fr O fun b O => Q (!b) O) := rfl
theorem wT_cmp (o) (a) (b) (fr) (O) (Q) : wpT c n (.cmp o a b) fr O Q = (wpE c n a fr O fun x O => wpE c n b fr O fun y O => (match cmpA O o x y with | some z => Q z O | none => False)) := rfl
theorem wT_and (a) (b) (fr) (O) (Q) : wpT c n (.and a b) fr O Q = (wpT c n a fr O fun t O => if t then wpT c n b fr O Q else Q false O) := rfl
theorem wT_and3 (a) (b) (d) (fr) (O) (Q) : wpT c n (.and3 a b d) fr O Q = (wpT c n a fr O fun t O => if t then (wpT c n b fr O fun t O => if t then wpT c n d fr O Q else Q false O) else Q false O) := rfl
theorem wT_or (a) (b) (fr) (O) (Q) : wpT c n (.or a b) fr O Q = (wpT c n a fr O fun t O => if t then Q true O else wpT c n b fr O Q) := rfl
theorem wT_ite (t) (a) (b) (fr) (O) (Q) : wpT c n (.ite t a b) fr O Q = (wpT c n t fr O fun z O => if z then wpT c n a fr O Q else wpT c n b fr O Q) := rfl
theorem wT_var (i) (fr : Nat → Option AV) (O) (Q : Bool → Objs → Prop) : Eq (wpT c n (.var i) fr O Q) (match fr i with | some v => truA v fun b => Q b O | none => False) := rfl
theorem wT_bol (b) (y0) (O) (Q) : wpT c n (.bol b) y0 O Q = (Q b O) := rfl
theorem wT_sub (a) (i) (fr) (O) (Q) : wpT c n (.sub a i) fr O Q = (wpE c n a fr O fun x O => wpE c n i fr O fun y O => (match subA O x y with | some z => truA z fun b => Q b O | none => False)) := rfl
theorem wT_call (z0) (f) (l) (fr) (O) (Q) : wpT c n (.call z0 f l) fr O Q = (wpL c n l fr O fun vs O => CallOK c n f vs O fun v O => truA v fun b => Q b O) := rfl
theorem wT_mth (a) (i) (C) (f) (l) (fr) (O) (Q) : wpT c n (.mth a i C f l) fr O Q = (wpE c n a fr O fun x O => (match x with | .inst x' C' as => C' = C ∧ lk as i = none ∧ wpL c n l fr O fun vs O => CallOK c n f (.inst x' C' as :: vs) O fun v O => truA v fun b => Q b O | _ => False)) := rfl
theorem wL_nil (y0) (O) (Q) : wpL c n .nil y0 O Q = (Q [] O) := rfl
theorem wL_cons (h) (t) (fr) (O) (Q) : wpL c n (.cons h t) fr O Q = (wpE c n h fr O fun v O => wpL c n t fr O fun vs O => Q (v :: vs) O) := rfl
theorem wS_nil (σ) (Q) : wpS c n .nil σ Q = (Q .next σ) := rfl
theorem wS_cons (h) (t) (σ) (Q) : wpS c n (.cons h t) σ Q = (wpS c n h σ fun f σ' => (match f with | .next => wpS c n t σ' Q | f => Q f σ')) := rfl
theorem wS_asg (i) (e) (σ) (Q) : wpS c n (.asg i e) σ Q = (wpE c n e σ.fr σ.O fun v O => Q .next ⟨O, setf σ.fr i v⟩) := rfl
theorem wS_asc (i) (e) (x) (fs) (it) (σ) (Q) : wpS c n (.asc i e x fs it) σ Q = (wpE c n (.cpr e x fs it) σ.fr σ.O fun v O => Q .next ⟨O, setf σ.fr i v⟩) := rfl
theorem wS_asg2 (i) (j) (e) (σ) (Q) : wpS c n (.asg2 i j e) σ Q = (wpE c n e σ.fr σ.O fun v O => (match v with | .tup [a, b] => Q .next ⟨O, setf (setf σ.fr i a) j b⟩ | _ => False)) := rfl
theorem wS_sat (o) (i) (C) (e) (σ) (Q) : wpS c n (.sat o i C e) σ Q = (wpE c n e σ.fr σ.O fun v O => (match σ.fr o with
      | some (.ref x) => (match O x with
        | some (.obj C' dx) => C' = C ∧ (match O dx with | some (.att l) => l.length < 100 ∧ Q .next ⟨up O dx (.att (put l i v)), σ.fr⟩ | _ => False)
        | _ => False)
      | _ => False)) := rfl
theorem wS_sit (o) (k) (e) (σ) (Q) : wpS c n (.sit o k e) σ Q = (wpE c n e σ.fr σ.O fun v O => wpE c n o σ.fr O fun a O => wpE c n k σ.fr O fun k O => sitA O a k v fun O => Q .next ⟨O, σ.fr⟩) := rfl
theorem wS_aug (i) (op) (e) (σ) (Q) : wpS c n (.aug i op e) σ Q = ((match σ.fr i with
      | some (.int a) => wpE c n e σ.fr σ.O fun v O => (match op, v with | .Add, .int b => Q .next ⟨O, setf σ.fr i (.int (a + b))⟩ | _, _ => False)
      | _ => False)) := rfl
theorem wS_ex (e) (σ) (Q) : wpS c n (.ex e) σ Q = (wpE c n e σ.fr σ.O fun v O => (match v with | .none => Q .next ⟨O, σ.fr⟩ | .int _ => Q .next ⟨O, σ.fr⟩ | _ => False)) := rfl
theorem wS_iff (t) (a) (b) (σ) (Q) : wpS c n (.iff t a b) σ Q = (wpT c n t σ.fr σ.O fun z O => if z then wpS c n a ⟨O, σ.fr⟩ Q else wpS c n b ⟨O, σ.fr⟩ Q) := rfl
theorem wS_whl (t) (b) (σ) (Q) : wpS c n (.whl t b) σ Q = (∃ (I : Nat → St → Prop) (k : Nat), I k σ ∧ ∀ k σ, I k σ → wpT c n t σ.fr σ.O fun z O => if z then (wpS c n b ⟨O, σ.fr⟩ fun f σ' => match f with
      | .next => ∃ m, m < k ∧ I m σ'
      | .cont => ∃ m, m < k ∧ I m σ'
      | .brk => Q .next σ'
      | .ret v => Q (.ret v) σ') else Q .next ⟨O, σ.fr⟩) := rfl
theorem wS_for (x) (it) (b) (σ) (Q) : wpS c n (.for x it b) σ Q = (wpE c n it σ.fr σ.O fun v O => (match seqOf O v with
      | some full => full.length < lim ∧ forL x v full (fun σ K => wpS c n b σ K) full ⟨O, σ.fr⟩ Q
      | none => False)) := rfl
theorem wS_ret (e) (σ) (Q) : wpS c n (.ret e) σ Q = (wpE c n e σ.fr σ.O fun v O => Q (.ret v) ⟨O, σ.fr⟩) := rfl
theorem wS_cnt (σ) (Q) : wpS c n .cnt σ Q = (Q .cont σ) := rfl
theorem wS_wild (y0) (y1) : wpS c n .wild y0 y1 = (False) := rfl
theorem wS_frz (i) (σ) (Q) : wpS c n (.frz i) σ Q = ((match σ.fr i with
      | some (.ref x) => (match σ.O x with
        | some (.obj C dx) => (match σ.O dx with | some (.att l) => Q .next ⟨dl (dl σ.O x) dx, setf σ.fr i (.inst x C l)⟩ | _ => False)
        | _ => False)
      | _ => False)) := rfl
end

end Mine

namespace Mine

noncomputable abbrev NoE : Value → Shared → Prop := fun _ _ => False

section
variable {prog : Program} {w : World} {A : Around} {s : Shared}

theorem u2 {k m : Nat} (h : k + 2 < m) : k < m := Nat.lt_of_succ_lt (Nat.lt_of_succ_lt h)
theorem i2_at {α : Type} {x y : AV} {f : Int → Int → Option α} {z : α} {g g' : Fz} {v v' : Value} (e : i2 x y f = some z) (rx : RV g v x) (ry : RV g' v' y) : ∃ a b t u, v = .int a t ∧ v' = .int b u ∧ f a b = some z := by
  obtain ⟨a, b, rfl, rfl, e⟩ := i2_of e
  cases rx; cases ry
  exact ⟨a, b, _, _, rfl, rfl, e⟩
theorem bin_ok {op : Operator} {x y z : AV} {g g' : Fz} {v v' : Value} {Q : Value → Shared → Prop} (e : binA op x y = some z) (rx : RV g v x) (ry : RV g' v' y)
    (k : ∀ r, (∀ g'', RV g'' r z) → Q r { s with toks := s.toks + 1 }) : wpAny (model prog w) A (binaryOp op v v') Q NoE s := by
  cases op with
  | Add =>
    obtain ⟨a, b, _, _, rfl, rfl, e⟩ := i2_at e rx ry
    cases e; exact PyProof.Rows.add_int (k _ fun _ => .int)
  | Sub =>
    obtain ⟨a, b, _, _, rfl, rfl, e⟩ := i2_at e rx ry
    cases e; exact PyProof.Rows.sub_int (k _ fun _ => .int)
  | Mult =>
    obtain ⟨a, b, _, _, rfl, rfl, e⟩ := i2_at e rx ry
    obtain ⟨q, rfl⟩ := ifs e
    exact PyProof.Rows.mul_int (k _ fun _ => .int) (IntMulOk.of_left (intBits_le_64 (by omega) (by omega)))
  | Mod =>
    obtain ⟨a, b, _, _, rfl, rfl, e⟩ := i2_at e rx ry
    obtain ⟨q, rfl⟩ := ifs e
    refine PyProof.Rows.mod_int (Int.ne_of_gt q.1) ?_
    rw [Int.fmod_eq_emod_of_nonneg _ (Int.le_of_lt q.1)]
    exact k _ fun _ => .int
  | FloorDiv =>
    obtain ⟨a, b, _, _, rfl, rfl, e⟩ := i2_at e rx ry
    obtain ⟨q, rfl⟩ := ifs e
    refine PyProof.Rows.floordiv_int (Int.ne_of_gt q.1) ?_ (.inl (PyProof.noPylong_small (by omega)))
    rw [Int.fdiv_eq_ediv_of_nonneg _ (Int.le_of_lt q.1)]
    exact k _ fun _ => .int
  | _ => exact no e

theorem intsOf_get {g : Fz} {vs : List Value} {l : List AV} {ks : List Int} (r : RVs g vs l) (e : intsOf l = some ks) : vs.length = ks.length ∧ ∀ (j : Nat) (v : Value), vs[j]? = some v → ∃ k t, v = .int k t ∧ ks[j]? = some k := by
  induction l generalizing vs ks with
  | nil => cases r; cases e; exact ⟨rfl, fun j v q => by cases q⟩
  | cons x l ih =>
    cases r with | cons h r =>
    obtain ⟨i, e1, h1_⟩ := bnd e
    obtain ⟨ks', e2, rfl⟩ := Option.map_eq_some_iff.mp h1_
    cases asInt_of e1
    cases h
    obtain ⟨a, b⟩ := ih r e2
    refine ⟨congrArg (· + 1) a, fun j w q => ?_⟩
    cases j with
    | zero => cases q; exact ⟨_, _, rfl, rfl⟩
    | succ j => exact b j w q

theorem eqAt_ints {vs ws : Array Value} {ks ms : List Int} (h1 : vs.toList.length = ks.length) (h2 : ws.toList.length = ms.length)
    (g1 : ∀ (j : Nat) (v : Value), vs.toList[j]? = some v → ∃ k t, v = .int k t ∧ ks[j]? = some k) (g2 : ∀ (j : Nat) (v : Value), ws.toList[j]? = some v → ∃ k t, v = .int k t ∧ ms[j]? = some k) :
    ∃ e : Nat → Bool, (∀ j (q1 : j < vs.size) (q2 : j < ws.size), SeqAt.EqAt A s vs[j] ws[j] (e j)) ∧ ((List.range (min vs.size ws.size)).all e && vs.size == ws.size) = decide (ks = ms) := by
  refine ⟨fun j => ks[j]? == ms[j]?, fun j q1 q2 => ?_, ?_⟩
  · obtain ⟨k, t, e1, e2⟩ := g1 j vs[j] (by simp [q1])
    obtain ⟨m, u, e3, e4⟩ := g2 j ws[j] (by simp [q2])
    show SeqAt.EqAt A s vs[j] ws[j] (ks[j]? == ms[j]?)
    rw [e1, e3, e2, e4]
    have := (MeetsSeq.EqGives.int k m t u).at A s
    simpa using this
  · rw [Array.length_toList] at h1 h2
    rw [Bool.eq_iff_iff]
    simp only [Bool.and_eq_true, List.all_eq_true, List.mem_range, beq_iff_eq, decide_eq_true_eq]
    constructor
    · rintro ⟨a, b⟩
      apply List.ext_getElem?
      intro j
      by_cases q : j < vs.size
      · exact a j (by omega)
      · rw [List.getElem?_eq_none (by omega), List.getElem?_eq_none (by omega)]
    · rintro rfl
      exact ⟨fun _ _ => rfl, by omega⟩

noncomputable def FzIn (g : Fz) (h : Heap) : Prop := ∀ b o, g b = some o → h.get? b = some o
theorem frz_in (O : Objs) (H : List Addr) (h : Heap) : FzIn (frz O H h) h := fun _ _ e => (frz_some.mp e).2.2

theorem str_eq (a b : Str) : decide (a = b) = (a.cps.toList == b.cps.toList) := by
  rw [Bool.eq_iff_iff, decide_eq_true_eq, beq_iff_eq]
  exact ⟨fun z => z ▸ rfl, fun z => by cases a; cases b; exact congrArg Str.mk (Array.toList_inj.mp z)⟩
theorem ints_same {vs : List Value} {ks ms : List Int} (l1 : vs.length = ks.length) (l2 : vs.length = ms.length) (g1 : ∀ (j : Nat) (v : Value), vs[j]? = some v → ∃ k t, v = .int k t ∧ ks[j]? = some k) (g2 : ∀ (j : Nat) (v : Value), vs[j]? = some v → ∃ k t, v = .int k t ∧ ms[j]? = some k) : ks = ms := by
  apply List.ext_getElem?
  intro j
  cases z : vs[j]? with
  | none =>
    rw [List.getElem?_eq_none_iff] at z
    rw [List.getElem?_eq_none (l1 ▸ z), List.getElem?_eq_none (l2 ▸ z)]
  | some w =>
    obtain ⟨k, t, z1, z2⟩ := g1 j w z
    obtain ⟨k', t', z3, z4⟩ := g2 j w z
    rw [z1] at z3; cases z3
    rw [z2, z4]
theorem eq0_at {x y : AV} {r : Bool} {g : Fz} {v v' : Value} (hg : FzIn g s.heap) (e : eq0 x y = some r) (rx : RV g v x) (ry : RV g v' y) (hu : A.units + 1 < cLine) : SeqAt.EqAt A s v v' r := by
  cases rx with
  | int =>
    obtain ⟨b, e1, h1_⟩ := bnd e
    cases asInt_of e1; cases ry; cases h1_
    exact (MeetsSeq.EqGives.int _ _ _ _).at A s
  | str =>
    obtain ⟨b, e1, h1_⟩ := bnd e
    cases asStr_of e1; cases ry; cases h1_
    rw [str_eq]
    exact (SeqRoads2.EqGives.str _ b _ _).at A s
  | tup h1 r1 =>
    obtain ⟨m, e1, h1_⟩ := bnd e
    obtain ⟨ks, e2, h2_⟩ := bnd h1_
    obtain ⟨ms, e3, h3_⟩ := bnd h2_
    cases asTup_of e1; cases h3_
    cases ry with | tup h2 r2 =>
    obtain ⟨l1, g1⟩ := intsOf_get r1 e2
    obtain ⟨l2, g2⟩ := intsOf_get r2 e3
    rename_i a vs n l b ws n'
    by_cases q : a = b
    · subst q
      rw [h1] at h2; cases h2
      rw [decide_eq_true (ints_same l1 l2 g1 g2)]
      exact SeqAt.EqAt.same _
    · obtain ⟨f, f1, f2⟩ := eqAt_ints (A := A.in1) (s := s) l1 l2 g1 g2
      rw [← f2]
      exact SeqAt.EqAt.of_refs q (SeqAt.RcAt.tuples ⟨_, hg _ _ h1, rfl, _, rfl⟩ ⟨_, hg _ _ h2, rfl, _, rfl⟩ (Nat.lt_of_succ_lt hu) f1)
  | _ => exact no e

theorem eqs_at {g : Fz} (hg : FzIn g s.heap) (hu : A.units + 1 < cLine) {vs ws : List Value} {l m : List AV} {r : Bool} (r1 : RVs g vs l) (r2 : RVs g ws m) (e : eqs l m = some r) (hl : vs.length = ws.length) :
    ∃ e : Nat → Bool, (∀ j (q1 : j < vs.length) (q2 : j < ws.length), SeqAt.EqAt A s vs[j] ws[j] (e j)) ∧ (List.range vs.length).all e = r := by
  induction l generalizing vs ws m r with
  | nil => cases r1; cases e; exact ⟨fun _ => true, fun j q _ => absurd q (Nat.not_lt_zero _), rfl⟩
  | cons x l ih =>
    cases r1 with | cons h1 r1 =>
    cases r2 with
    | nil => cases hl
    | cons h2 r2 =>
      obtain ⟨p, e1, h1_⟩ := bnd e
      obtain ⟨q, e2, h2_⟩ := bnd h1_
      cases h2_
      obtain ⟨f, f1, f2⟩ := ih r1 r2 e2 (Nat.succ.inj hl)
      refine ⟨fun j => match j with | 0 => p | j + 1 => f j, fun j q1 q2 => ?_, ?_⟩
      · cases j with
        | zero => exact eq0_at hg e1 h1 h2 hu
        | succ j => exact f1 j (Nat.lt_of_succ_lt_succ q1) (Nat.lt_of_succ_lt_succ q2)
      · rw [List.length_cons, List.range_succ_eq_map, List.all_cons, List.all_map, ← f2]
        rfl

noncomputable def EqNe (prog : Program) (w : World) (A : Around) (s : Shared) (v v' : Value) (r : Bool) : Prop :=
  (∀ Q : Value → Shared → Prop, Q (.bool r) s → wpAny (model prog w) A (compareOp .Eq v v') Q NoE s) ∧ (∀ Q : Value → Shared → Prop, Q (.bool (!r)) s → wpAny (model prog w) A (compareOp .NotEq v v') Q NoE s)
theorem eq_lists {l m : List AV} {r : Bool} {c : Cx} {H : List Addr} {O : Objs} {a b : Addr} (R : RelO c H O s) (ea : O a = some (.list l)) (eb : O b = some (.list m)) (e : eqL l m = some r) (hu : A.units + 2 < cLine) : EqNe prog w A s (.ref a) (.ref b) r := by
  obtain ⟨vs, n1, ha, ra⟩ := R.objs _ _ ea
  obtain ⟨ws, n2, hb, rb⟩ := R.objs _ _ eb
  have la := ra.length
  have lb := rb.length
  rw [Array.length_toList] at la lb
  unfold eqL at e
  split at e
  · rename_i q
    have sz : vs.size = ws.size := la.trans (q.trans lb.symm)
    obtain ⟨f, f1, f2⟩ := eqs_at (A := A.in1) (s := s) (frz_in O H s.heap) hu ra rb e sz
    have z1 := SeqAt.RcAt.lists (A := A) (s := s) ⟨_, ha, rfl, _, rfl⟩ ⟨_, hb, rfl, _, rfl⟩ sz (u2 hu) f1
    have z2 := SeqAt.RcNeAt.lists (A := A) (s := s) ⟨_, ha, rfl, _, rfl⟩ ⟨_, hb, rfl, _, rfl⟩ sz (u2 hu) f1
    rw [show (List.range vs.size).all f = r from f2] at z1 z2
    exact ⟨fun Q h => z1 _ _ _ _ h, fun Q h => z2 _ _ _ _ h⟩
  · rename_i q
    cases e
    have z : (vs.size != ws.size) = true := bne_iff_ne.mpr fun z => q (la.symm.trans (z.trans lb))
    exact ⟨fun Q h => SeqAt.RcAt.lists_lengths ⟨_, ha, rfl, _, rfl⟩ ⟨_, hb, rfl, _, rfl⟩ z (u2 hu) _ _ _ _ h, fun Q h => SeqAt.RcNeAt.lists_lengths ⟨_, ha, rfl, _, rfl⟩ ⟨_, hb, rfl, _, rfl⟩ z (u2 hu) _ _ _ _ h⟩
theorem eq_tups {l m : List AV} {ks ms : List Int} {g : Fz} (hg : FzIn g s.heap) {v v' : Value} (rx : RV g v (.tup l)) (ry : RV g v' (.tup m)) (e2 : intsOf l = some ks) (e3 : intsOf m = some ms) (hu : A.units + 2 < cLine) : EqNe prog w A s v v' (decide (ks = ms)) := by
  cases rx with | tup h1 r1 =>
  cases ry with | tup h2 r2 =>
  obtain ⟨l1, g1⟩ := intsOf_get r1 e2
  obtain ⟨l2, g2⟩ := intsOf_get r2 e3
  obtain ⟨f, f1, f2⟩ := eqAt_ints (A := A.in1) (s := s) l1 l2 g1 g2
  have z1 := SeqAt.RcAt.tuples (A := A) (s := s) ⟨_, hg _ _ h1, rfl, _, rfl⟩ ⟨_, hg _ _ h2, rfl, _, rfl⟩ (u2 hu) f1
  have z2 := SeqAt.RcNeAt.tuples (A := A) (s := s) ⟨_, hg _ _ h1, rfl, _, rfl⟩ ⟨_, hg _ _ h2, rfl, _, rfl⟩ (u2 hu) f1
  rw [f2] at z1 z2
  exact ⟨fun Q h => z1 _ _ _ _ h, fun Q h => z2 _ _ _ _ h⟩
theorem beq_str (a b : Str) : (a == b) = decide (a = b) := by rw [Bool.eq_iff_iff, beq_iff_eq, decide_eq_true_eq]
theorem eqA_rc {x y : AV} {r : Bool} {c : Cx} {H : List Addr} {O : Objs} {v v' : Value} (R : RelO c H O s) (e : eqA O x y = some r) (rx : RV (frz O H s.heap) v x) (ry : RV (frz O H s.heap) v' y) (hu : A.units + 2 < cLine) : EqNe prog w A s v v' r := by
  cases rx with
  | ref =>
    obtain ⟨b, e1, h1_⟩ := bnd e
    obtain ⟨l, e2, h2_⟩ := bnd h1_
    obtain ⟨m, e3, h3_⟩ := bnd h2_
    cases asRef_of e1; cases ry
    exact eq_lists R (asLst_of e2) (asLst_of e3) h3_ hu
  | bool =>
    obtain ⟨b, e1, h1_⟩ := bnd e
    cases asBool_of e1; cases ry; cases h1_
    exact ⟨fun Q h => PyProof.Rows.eq_bool h, fun Q h => PyProof.Rows.ne_bool h⟩
  | int =>
    obtain ⟨b, e1, h1_⟩ := bnd e
    cases asInt_of e1; cases ry; cases h1_
    exact ⟨fun Q h => PyProof.Rows.eq_int h, fun Q h => PyProof.Rows.ne_int h⟩
  | str =>
    obtain ⟨b, e1, h1_⟩ := bnd e
    cases asStr_of e1; cases ry; cases h1_
    rw [← beq_str]
    exact ⟨fun Q h => PyProof.Rows.eq_str h, fun Q h => PyProof.Rows.ne_str h⟩
  | tup h1 r1 =>
    obtain ⟨m, e1, h1_⟩ := bnd e
    obtain ⟨ks, e2, h2_⟩ := bnd h1_
    obtain ⟨ms, e3, h3_⟩ := bnd h2_
    cases asTup_of e1; cases h3_
    exact eq_tups (frz_in O H s.heap) (.tup h1 r1) ry e2 e3 hu
  | _ => exact no e

end
open AutoSeq1 (wpAny_loadPart')
theorem tuple_lt2 (l b : Addr) (n n2 : Nat) (dd dd2 : Option Addr) (sl sl2 : Array (Option Value)) (a a' x x' : Int) (t t' u u' : Tok) :
    Meets (Builtin.«tuple.__lt__» ⟨[.ref l, .ref b], []⟩)
      (fun A R s => s.heap.get? l = some { cls := .type "tuple", dict := dd, data := .seq #[.int a t, .int a' t'] n, slots := sl } ∧ s.heap.get? b = some { cls := .type "tuple", dict := dd2, data := .seq #[.int x u, .int x' u'] n2, slots := sl2 } ∧
        R (.ok (.ret (.bool (decide (a < x ∨ (a = x ∧ a' < x')))))) s) :=
  .of_wp fun prog w A R s h => by
    obtain ⟨hp, g, d, tk, os⟩ := s; obtain ⟨hl, hb, h⟩ := h
    have f2 := AutoSeq1.sub_tuple_tuple
    wp_walk using wpAny_loadPart' hl, wpAny_loadPart' hb, wpAny_eqBool_int
    by_cases q : a = x
    · subst q
      simp only [BEq.rfl, Bool.not_true, Bool.false_eq_true, if_false]
      wp_walk using wpAny_eqBool_int
      by_cases q2 : a' = x'
      · subst q2
        simp only [BEq.rfl, Bool.not_true, Bool.false_eq_true, if_false]
        wp_walk
        rw [show decide (a < a ∨ a = a ∧ a' < a') = false from decide_eq_false (by omega)] at h
        first | exact h | exact ⟨_, rfl, h⟩
      · have e : (a' == x') = false := by simpa using q2
        simp only [e, Bool.not_false, if_true]
        refine wpAny_bind (wpAny_rule ?_)
        refine wpAny_bind ?_
        refine PyProof.Rows.lt_int ?_
        wp_walk
        rw [show decide (a < a ∨ a = a ∧ a' < x') = decide (a' < x') by rw [Bool.eq_iff_iff]; simp] at h
        first | exact h | exact ⟨_, rfl, h⟩
    · have e : (a == x) = false := by simpa using q
      simp only [e, Bool.not_false, if_true]
      refine wpAny_bind (wpAny_rule ?_)
      refine wpAny_bind ?_
      refine PyProof.Rows.lt_int ?_
      wp_walk
      rw [show decide (a < x ∨ a = x ∧ a' < x') = decide (a < x) by rw [Bool.eq_iff_iff]; simp [q]] at h
      first | exact h | exact ⟨_, rfl, h⟩
theorem tuple_gt2 (l b : Addr) (n n2 : Nat) (dd dd2 : Option Addr) (sl sl2 : Array (Option Value)) (a a' x x' : Int) (t t' u u' : Tok) :
    Meets (Builtin.«tuple.__gt__» ⟨[.ref l, .ref b], []⟩)
      (fun A R s => s.heap.get? l = some { cls := .type "tuple", dict := dd, data := .seq #[.int a t, .int a' t'] n, slots := sl } ∧ s.heap.get? b = some { cls := .type "tuple", dict := dd2, data := .seq #[.int x u, .int x' u'] n2, slots := sl2 } ∧
        R (.ok (.ret (.bool (decide (x < a ∨ (x = a ∧ x' < a')))))) s) :=
  .of_wp fun prog w A R s h => by
    obtain ⟨hp, g, d, tk, os⟩ := s; obtain ⟨hl, hb, h⟩ := h
    have f2 := AutoSeq1.sub_tuple_tuple
    wp_walk using wpAny_loadPart' hl, wpAny_loadPart' hb, wpAny_eqBool_int
    by_cases q : a = x
    · subst q
      simp only [BEq.rfl, Bool.not_true, Bool.false_eq_true, if_false]
      wp_walk using wpAny_eqBool_int
      by_cases q2 : a' = x'
      · subst q2
        simp only [BEq.rfl, Bool.not_true, Bool.false_eq_true, if_false]
        wp_walk
        rw [show decide (a < a ∨ a = a ∧ a' < a') = false from decide_eq_false (by omega)] at h
        first | exact h | exact ⟨_, rfl, h⟩
      · have e : (a' == x') = false := by simpa using q2
        simp only [e, Bool.not_false, if_true]
        refine wpAny_bind (wpAny_rule ?_)
        refine wpAny_bind ?_
        refine PyProof.Rows.gt_int ?_
        wp_walk
        rw [show decide (a < a ∨ a = a ∧ x' < a') = decide (x' < a') by rw [Bool.eq_iff_iff]; simp] at h
        first | exact h | exact ⟨_, rfl, h⟩
    · have e : (a == x) = false := by simpa using q
      simp only [e, Bool.not_false, if_true]
      refine wpAny_bind (wpAny_rule ?_)
      refine wpAny_bind ?_
      refine PyProof.Rows.gt_int ?_
      wp_walk
      rw [show decide (x < a ∨ x = a ∧ x' < a') = decide (x < a) by rw [Bool.eq_iff_iff]; simp [Ne.symm q]] at h
      first | exact h | exact ⟨_, rfl, h⟩

section
variable {A : Around} {s : Shared}

theorem RKV.get {K : Type} [DecidableEq K] {g : Fz} (k : K) {kvs : List (K × Value)} {l : List (K × AV)} (h : RKV g kvs l) :
    (∀ v, valueAt kvs k = some v → ∃ av, dget l k = some av ∧ RV g v av) ∧ (valueAt kvs k = none → dget l k = none) := by
  induction h with
  | nil => exact ⟨fun v e => (by cases e), fun _ => rfl⟩
  | cons h _ ih =>
    rename_i k' _ _ _ _ _
    obtain ⟨a, b⟩ := ih
    unfold valueAt dget at *
    rw [List.find?_cons, List.find?_cons]
    by_cases q : k' = k
    · rw [decide_eq_true q]
      exact ⟨fun v e => ⟨_, rfl, Option.some.inj e ▸ h⟩, fun e => (by cases e)⟩
    · rw [decide_eq_false q]
      exact ⟨a, b⟩
theorem RKV.any {K : Type} [DecidableEq K] {g : Fz} (k : K) {kvs : List (K × Value)} {l : List (K × AV)} (h : RKV g kvs l) : (valueAt kvs k).isSome = l.any (fun p => decide (p.1 = k)) := by
  induction h with
  | nil => rfl
  | cons h _ ih =>
    rename_i k' _ _ _ _ _
    unfold valueAt at *
    rw [List.find?_cons, List.any_cons]
    by_cases q : k' = k
    · rw [decide_eq_true q]; rfl
    · rw [decide_eq_false q, Bool.false_or]; exact ih
theorem RKV.any' {K : Type} [DecidableEq K] {g : Fz} (k : K) {kvs : List (K × Value)} {l : List (K × AV)} (h : RKV g kvs l) : (kvs.any fun p => decide (p.1 = k)) = l.any (fun p => decide (p.1 = k)) := by
  induction h with
  | nil => rfl
  | cons h _ ih => rw [List.any_cons, List.any_cons, ih]
theorem RKV.append {K : Type} {g : Fz} {vs : List (K × Value)} {l : List (K × AV)} {ws : List (K × Value)} {m : List (K × AV)} (h : RKV g vs l) (y : RKV g ws m) : RKV g (vs ++ ws) (l ++ m) := by
  induction h with
  | nil => exact y
  | cons h _ ih => exact .cons h ih
theorem RKV.store {K : Type} [DecidableEq K] {g : Fz} {k : K} {v : Value} {av : AV} (x : RV g v av) {kvs : List (K × Value)} {l : List (K × AV)} (h : RKV g kvs l) : RKV g (stored kvs k v) (dput l k av) := by
  have m : ∀ {kvs : List (K × Value)} {l : List (K × AV)}, RKV g kvs l → RKV g (kvs.map fun kv => if kv.1 = k then (kv.1, v) else kv) (l.map fun p => if p.1 = k then (p.1, av) else p) := by
    intro kvs l h
    induction h with
    | nil => exact .nil
    | cons h _ ih =>
      rw [List.map_cons, List.map_cons]
      split
      · exact .cons x ih
      · exact .cons h ih
  unfold stored dput
  rw [h.any' k]
  split
  · exact m h
  · exact h.append (.cons x .nil)
theorem RKV.length {K : Type} {g : Fz} {vs : List (K × Value)} {l : List (K × AV)} (h : RKV g vs l) : vs.length = l.length := by
  induction h with
  | nil => rfl
  | cons _ _ ih => exact congrArg (· + 1) ih

noncomputable def isD : MO → Bool
  | .dictI _ => true
  | .dictS _ => true
  | .dictT _ => true
  | _ => false
theorem notMods {c : Cx} (ok : c.Ok) {H : List Addr} {O : Objs} (R : RelO c H O s) {a : Addr} {m : MO} (e : O a = some m) (hm : isD m = true := by rfl) : (a == sysModules) = false := by
  have := R.objs _ _ e
  cases m <;> first | exact this.1 | cases hm
theorem sizeMods {c : Cx} (ok : c.Ok) {H : List Addr} {O : Objs} (R : RelO c H O s) : (s.heap.objs.size == sysModules) = false := by
  obtain ⟨o, es, ep, e, _⟩ := ok.glob
  have := Heap.lt_size (R.base _ _ e).1
  rw [beq_eq_false_iff_ne]
  intro q
  rw [q] at this
  exact absurd this (by decide)

theorem scan_int (k : Int) (t : Tok) : (Value.int k t).scannable = true := rfl

theorem inA_ok {x y : AV} {r : Bool} {c : Cx} (ok : c.Ok) {H : List Addr} {O : Objs} {v v' : Value} (R : RelO c H O s) (e : inA O x y = some r) (rx : RV (frz O H s.heap) v x) (ry : RV (frz O H s.heap) v' y) :
    (∀ Q : Value → Shared → Prop, Q (.bool r) { s with toks := s.toks + 1 } → wpAny (model c.prog c.w) A (compareOp .In v v') Q NoE s) ∧
    (∀ Q : Value → Shared → Prop, Q (.bool (!r)) { s with toks := s.toks + 1 } → wpAny (model c.prog c.w) A (compareOp .NotIn v v') Q NoE s) := by
  obtain ⟨k, e1, h1_⟩ := bnd e
  obtain ⟨a, e2, h2_⟩ := bnd h1_
  cases asInt_of e1; cases asRef_of e2
  cases rx; cases ry
  have ki : ∀ t, (intKind c.prog c.w).is k (.int k t) = true := fun t => beq_self_eq_true k
  cases ea : O a with
  | none => rw [ea] at h2_; exact no h2_
  | some m =>
    rw [ea] at h2_
    cases m with
    | dictI l =>
      cases h2_
      obtain ⟨_, kvs, D, r⟩ := R.objs _ _ ea
      have q := r.any k
      exact ⟨fun Q h => wpAny_in_of (knd := intKind c.prog c.w) (k := k) (ki _) (notMods ok R ea) D.mapOf (by rw [q]; exact h),
        fun Q h => wpAny_notIn_of (knd := intKind c.prog c.w) (k := k) (ki _) (notMods ok R ea) D.mapOf (by rw [q]; exact h)⟩
    | set l =>
      cases h2_
      have D := R.objs _ _ ea
      exact ⟨fun Q h => wpAny_inSet_of (knd := intKind c.prog c.w) (k := k) (ki _) (scan_int _ _) D h,
        fun Q h => wpAny_notInSet_of (knd := intKind c.prog c.w) (k := k) (ki _) (scan_int _ _) D h⟩
    | _ => exact no h2_

noncomputable def LtGt (c : Cx) (A : Around) (s : Shared) (v v' : Value) (r : Bool) : Prop :=
  (∀ Q : Value → Shared → Prop, Q (.bool r) s → wpAny (model c.prog c.w) A (compareOp .Lt v v') Q NoE s) ∧ (∀ Q : Value → Shared → Prop, Q (.bool r) s → wpAny (model c.prog c.w) A (compareOp .Gt v' v) Q NoE s)
theorem as2_at {g : Fz} {vs : List Value} {l : List AV} {p : Int × Int} (r : RVs g vs l) (e : as2 l = some p) : ∃ t u, vs = [.int p.1 t, .int p.2 u] := by
  cases r with
  | nil => exact no e
  | cons i1 r => cases r with
    | nil => exact no e
    | cons i2 r => cases r with
      | nil =>
        obtain ⟨a, b, t, u, rfl, rfl, e⟩ := i2_at e i1 i2
        cases e; exact ⟨t, u, rfl⟩
      | cons _ _ => exact no e
theorem lt_tups {c : Cx} {g : Fz} (hg : FzIn g s.heap) {v v' : Value} {l m : List AV} {p q : Int × Int} (rx : RV g v (.tup l)) (ry : RV g v' (.tup m)) (e2 : as2 l = some p) (e3 : as2 m = some q) (hu : A.units + 2 < cLine) : LtGt c A s v v' (decide (p.1 < q.1 ∨ (p.1 = q.1 ∧ p.2 < q.2))) := by
  cases rx with | tup h1 r1 =>
  cases ry with | tup h2 r2 =>
  rename_i a1 vs n a2 ws n'
  obtain ⟨vs⟩ := vs
  obtain ⟨ws⟩ := ws
  obtain ⟨t, u, rfl⟩ := as2_at r1 e2
  obtain ⟨t', u', rfl⟩ := as2_at r2 e3
  have z1 := hg _ _ h1
  have z2 := hg _ _ h2
  exact ⟨fun Q h => richCompare_meets_room (op := .Lt) ⟨_, z1, rfl⟩ ⟨_, z2, rfl⟩ F.slot_tuple_lt F.entry_tuple_lt (F.args_tuple_lt_2 _ _) (tuple_lt2 _ _ _ _ _ _ _ _ _ _ _ _ _ _ _ _) ⟨z1, z2, (fun x => nomatch x), h⟩ (u2 hu),
    fun Q h => richCompare_meets_room (op := .Gt) ⟨_, z2, rfl⟩ ⟨_, z1, rfl⟩ F.slot_tuple_gt F.entry_tuple_gt (F.args_tuple_gt_2 _ _) (tuple_gt2 _ _ _ _ _ _ _ _ _ _ _ _ _ _ _ _) ⟨z2, z1, (fun x => nomatch x), h⟩ (u2 hu)⟩
theorem lt1_ok {x y : AV} {r : Bool} {c : Cx} {H : List Addr} {O : Objs} {v v' : Value} (R : RelO c H O s) (e : lt1 x y = some r) (rx : RV (frz O H s.heap) v x) (ry : RV (frz O H s.heap) v' y) (hu : A.units + 2 < cLine) : LtGt c A s v v' r := by
  cases rx with
  | int =>
    obtain ⟨b, e1, h1_⟩ := bnd e
    cases asInt_of e1; cases ry; cases h1_
    exact ⟨fun Q h => PyProof.Rows.lt_int h, fun Q h => PyProof.Rows.gt_int h⟩
  | str =>
    obtain ⟨b, e1, h1_⟩ := bnd e
    cases asStr_of e1; cases ry; cases h1_
    exact ⟨fun Q h => PyProof.Rows.lt_str h, fun Q h => P.gt_str h⟩
  | tup h1 r1 =>
    obtain ⟨m, e1, h1_⟩ := bnd e
    obtain ⟨p, e2, h2_⟩ := bnd h1_
    obtain ⟨q, e3, h3_⟩ := bnd h2_
    cases asTup_of e1; cases h3_
    exact lt_tups (frz_in O H s.heap) (.tup h1 r1) ry e2 e3 hu
  | _ => exact no e
theorem le1_ok {x y : AV} {r : Bool} {c : Cx} {v v' : Value} {g : Fz} (e : le1 x y = some r) (rx : RV g v x) (ry : RV g v' y) :
    (∀ Q : Value → Shared → Prop, Q (.bool r) s → wpAny (model c.prog c.w) A (compareOp .LtE v v') Q NoE s) ∧ (∀ Q : Value → Shared → Prop, Q (.bool r) s → wpAny (model c.prog c.w) A (compareOp .GtE v' v) Q NoE s) := by
  obtain ⟨a, b, _, _, rfl, rfl, e⟩ := i2_at e rx ry
  cases e
  exact ⟨fun Q h => PyProof.Rows.le_int h, fun Q h => PyProof.Rows.ge_int h⟩

theorem cmp_ok {op : CmpOp} {x y : AV} {r : Bool} {c : Cx} (ok : c.Ok) {H : List Addr} {O : Objs} {v v' : Value} (R : RelO c H O s) (e : cmpA O op x y = some r) (rx : RV (frz O H s.heap) v x) (ry : RV (frz O H s.heap) v' y)
    (hu : A.units + 2 < cLine) {Q : Value → Shared → Prop} (k : ∀ t, Q (.bool r) { s with toks := t }) : wpAny (model c.prog c.w) A (compareOp op v v') Q NoE s := by
  cases op with
  | Eq => exact (eqA_rc R e rx ry hu).1 _ (k _)
  | NotEq =>
    obtain ⟨b, e1, rfl⟩ := Option.map_eq_some_iff.mp e
    exact (eqA_rc R e1 rx ry hu).2 _ (k _)
  | Lt => exact (lt1_ok R e rx ry hu).1 _ (k _)
  | Gt => exact (lt1_ok R e ry rx hu).2 _ (k _)
  | LtE => exact (le1_ok e rx ry).1 _ (k _)
  | GtE => exact (le1_ok e ry rx).2 _ (k _)
  | In => exact (inA_ok ok R e rx ry).1 _ (k _)
  | NotIn =>
    obtain ⟨b, e1, rfl⟩ := Option.map_eq_some_iff.mp e
    exact (inA_ok ok R e1 rx ry).2 _ (k _)
  | _ => exact no e
end
end Mine

namespace Mine

noncomputable def Post (c : Cx) (f : Frm) (fr : Nat → Option AV) (O₀ : Objs) (h₀ : Heap) (Q : AV → Objs → Prop) : Value → Shared → Prop :=
  fun v s' => ∃ b O', RV (frz O' f.H s'.heap) v b ∧ Rel c f ⟨O', fr⟩ s' ∧ StepO f.F f.H O₀ h₀ O' s'.heap ∧ Q b O'
theorem Post.step {c : Cx} {f : Frm} {fr : Nat → Option AV} {O₀ O₁ : Objs} {h₀ h₁ : Heap} {Q : AV → Objs → Prop} {v : Value} {s' : Shared} (st : StepO f.F f.H O₀ h₀ O₁ h₁) (p : Post c f fr O₁ h₁ Q v s') : Post c f fr O₀ h₀ Q v s' :=
  let ⟨b, O', a1, a2, a3, a4⟩ := p; ⟨b, O', a1, a2, st.trans a3, a4⟩
theorem Post.now {c : Cx} {f : Frm} {fr : Nat → Option AV} {O : Objs} {s : Shared} {Q : AV → Objs → Prop} {v : Value} {x : AV} (R : Rel c f ⟨O, fr⟩ s) (t : Nat) (rv : RV (frz O f.H s.heap) v x) (q : Q x O) : Post c f fr O s.heap Q v { s with toks := t } :=
  ⟨x, O, rv, R.toks t, .refl _ _ _ _, q⟩
theorem Post.keeps {c : Cx} {f : Frm} {fr : Nat → Option AV} {O : Objs} {s : Shared} {Q : AV → Objs → Prop} {v : Value} {x : AV} (R : Rel c f ⟨O, fr⟩ s) {h' : Heap} (k : ∀ b o, s.heap.get? b = some o → h'.get? b = some o) (t : Nat)
    (rv : RV (frz O f.H h') v x) (q : Q x O) : Post c f fr O s.heap Q v { s with heap := h', toks := t } :=
  ⟨x, O, rv, R.keeps k t, .keeps k, q⟩
theorem Post.upd {c : Cx} {f : Frm} {fr : Nat → Option AV} {O : Objs} {s : Shared} {Q : AV → Objs → Prop} {v : Value} {x : AV} (R : Rel c f ⟨O, fr⟩ s) {h' : Heap} {a : Addr} {mo : MO} (ha : (O a).isSome = true ∨ s.heap.get? a = none)
    (k : ∀ b o, b ≠ a → s.heap.get? b = some o → h'.get? b = some o) (t : Nat) (hm : HoldsM c (frz (up O a mo) f.H h') h' a mo) (rv : RV (frz (up O a mo) f.H h') v x) (q : Q x (up O a mo)) :
    Post c f fr O s.heap Q v { s with heap := h', toks := t } :=
  ⟨x, _, rv, R.upd ha k t hm, .upd R.ro ha k, q⟩
theorem dead_size (h : Heap) : h.get? h.objs.size = none := by
  cases q : h.get? h.objs.size with
  | none => rfl
  | some o => exact absurd (Heap.lt_size q) (Nat.lt_irrefl _)
theorem Post.new {c : Cx} {f : Frm} {fr : Nat → Option AV} {O : Objs} {s : Shared} {Q : AV → Objs → Prop} (R : Rel c f ⟨O, fr⟩ s) {h' : Heap} {mo : MO} (k : ∀ b o, s.heap.get? b = some o → h'.get? b = some o) (t : Nat)
    (hm : HoldsM c (frz (up O s.heap.objs.size mo) f.H h') h' s.heap.objs.size mo) (q : newM O mo Q) : Post c f fr O s.heap Q (.ref s.heap.objs.size) { s with heap := h', toks := t } :=
  Post.upd R (.inr (dead_size _)) (fun b o _ e => k b o e) t hm .ref (q _ R.ro.fresh.1)
/-- a new frozen object (a tuple, a range) -/
theorem frz_new {c : Cx} {f : Frm} {fr : Nat → Option AV} {O : Objs} {s : Shared} (R : Rel c f ⟨O, fr⟩ s) {h' : Heap} {o : Obj} (e : h'.get? s.heap.objs.size = some o) : frz O f.H h' s.heap.objs.size = some o :=
  frz_some.mpr ⟨R.ro.fresh.1, R.ro.fresh.2.1, e⟩

section
variable {A : Around} {s : Shared} {c : Cx} {f : Frm} {fr : Nat → Option AV} {O : Objs} {n : Nat}

theorem list_at {a : Addr} {l : List AV} (R : Rel c f ⟨O, fr⟩ s) (e : O a = some (.list l)) : ∃ vs n, s.heap.get? a = some { cls := .type "list", data := .seq vs n } ∧ RVs (frz O f.H s.heap) vs.toList l ∧ vs.size = l.length := by
  obtain ⟨vs, n, h1, h2⟩ := R.ro.objs _ _ e
  exact ⟨vs, n, h1, h2, by rw [← h2.length, Array.length_toList]⟩

theorem lim_le {k : Nat} (h : k < lim) : k ≤ sizeLine := by unfold lim at h; rw [sizeLine_eq]; omega

/-! list methods -/
theorem upd_keep {h : Heap} {a : Addr} {F : Obj → Obj} : ∀ b o, b ≠ a → h.get? b = some o → (h.update a F).get? b = some o := fun b o q e => (Heap.get?_update_other _ _ (Ne.symm q)).trans e
theorem has {a : Addr} {m : MO} (e : O a = some m) : (O a).isSome = true ∨ s.heap.get? a = none := .inl (by rw [e]; rfl)
theorem append_ok {v x : AV} {w w' : Value} {pos : Pos} {t : Sem Value} {Q : AV → Objs → Prop} (R : Rel c f ⟨O, fr⟩ s) (rv : RV (frz O f.H s.heap) w v) (rx : RV (frz O f.H s.heap) w' x) (h : appA O v x Q) :
    ∃ a, w = .ref a ∧ ∃ items n, items.size ≤ sizeLine ∧ IsL s.heap a items n ∧ Post c f fr O s.heap Q .none { s with heap := s.heap.update a (Obj.mapSeq fun xs => xs.push w') } := by
  obtain ⟨a, e1, h1⟩ := oP_of h
  obtain ⟨l, e2, hl, q⟩ := oP_of h1
  cases asRef_of e1; cases rv
  have e := asLst_of e2
  obtain ⟨vs, m, h1, h2, h3⟩ := list_at R e
  refine ⟨a, rfl, vs, m, lim_le (h3 ▸ hl), h1, Post.upd (s := s) (mo := .list (l ++ [x])) R (has e) upd_keep s.toks ⟨_, _, IsL.update h1 _, ?_⟩ .none q⟩
  rw [Array.toList_push]
  exact (h2.append (.cons rx .nil)).mono (frz_up (has e) upd_keep)

theorem pop_ok {v : AV} {w : Value} {pos : Pos} {Q : AV → Objs → Prop} (R : Rel c f ⟨O, fr⟩ s) (rv : RV (frz O f.H s.heap) w v) (h : popA O v Q) :
    ∃ a, w = .ref a ∧ (∃ items n, IsL s.heap a items n) ∧ wpAny (model c.prog c.w) A (callWith pos (.builtin "list.pop") [.ref a] [] []) (Post c f fr O s.heap Q) NoE s := by
  obtain ⟨a, e1, h1⟩ := oP_of h
  obtain ⟨l, e2, hl, x, hx, q⟩ := oP_of h1
  cases asRef_of e1; cases rv
  have e := asLst_of e2
  obtain ⟨vs, m, h1, h2, h3⟩ := list_at R e
  obtain ⟨y, hy, ry⟩ := h2.get hx
  have hy' : vs[vs.size - 1]? = some y := by rw [h3, ← Array.getElem?_toList]; exact hy
  refine ⟨a, rfl, ⟨vs, m, h1⟩, P.pop_list h1 hy' ?_ (lim_le (h3 ▸ hl))⟩
  refine Post.upd (s := s) (mo := .list l.dropLast) R (has e) upd_keep s.toks ⟨_, _, IsL.update h1 _, ?_⟩ (ry.mono (frz_up (has e) upd_keep)) q
  have : (vs.eraseIdxIfInBounds (vs.size - 1)).toList = vs.toList.dropLast := by
    have hz : vs.size - 1 < vs.size := (Array.getElem?_eq_some_iff.mp hy').1
    rw [Array.eraseIdxIfInBounds_eq, dif_pos hz, Array.toList_eraseIdx, ← Array.length_toList, List.eraseIdx_length_sub_one]
  rw [this]
  exact h2.dropLast.mono (frz_up (has e) upd_keep)

theorem rev_ok {v : AV} {w : Value} {pos : Pos} {Q : AV → Objs → Prop} (R : Rel c f ⟨O, fr⟩ s) (rv : RV (frz O f.H s.heap) w v) (h : revA O v Q) :
    ∃ a, w = .ref a ∧ (∃ items n, IsL s.heap a items n) ∧ wpAny (model c.prog c.w) A (callWith pos (.builtin "list.reverse") [.ref a] [] []) (Post c f fr O s.heap Q) NoE s := by
  obtain ⟨a, e1, h1⟩ := oP_of h
  obtain ⟨l, e2, hl, q⟩ := oP_of h1
  cases asRef_of e1; cases rv
  have e := asLst_of e2
  obtain ⟨vs, m, h1, h2, h3⟩ := list_at R e
  refine ⟨a, rfl, ⟨vs, m, h1⟩, P.reverse_list h1 ?_ (lim_le (h3 ▸ hl))⟩
  refine Post.upd (s := s) (mo := .list l.reverse) R (has e) upd_keep s.toks ⟨_, _, IsL.update h1 _, ?_⟩ .none q
  rw [Array.toList_reverse]
  exact h2.reverse.mono (frz_up (has e) upd_keep)

theorem set_at {a : Addr} {l : List Int} (R : Rel c f ⟨O, fr⟩ s) (e : O a = some (.set l)) : s.heap.SetOf (intKind c.prog c.w) a (fun k => l.contains k) l.length := R.ro.objs _ _ e

theorem int_is {k : Int} {t : Tok} : (intKind c.prog c.w).is k (.int k t) = true := beq_self_eq_true k
theorem str_is {k : Str} {t : Tok} : (PySem.strKind c.prog c.w).is k (.str k t) = true := beq_self_eq_true k
theorem sad_ok {v x : AV} {w w' : Value} {Q : AV → Objs → Prop} (R : Rel c f ⟨O, fr⟩ s) (rv : RV (frz O f.H s.heap) w v) (rx : RV (frz O f.H s.heap) w' x) (h : sadA O v x Q) :
    ∃ a, w = .ref a ∧ wpAny (model c.prog c.w) A (call (.builtin "set.add") [.ref a, w']) (Post c f fr O s.heap Q) NoE s := by
  obtain ⟨a, e1, h1⟩ := oP_of h
  obtain ⟨k, e2, h2⟩ := oP_of h1
  obtain ⟨l, e3, hl, q⟩ := oP_of h2
  cases asRef_of e1; cases rv
  cases asInt_of e2; cases rx
  have e := asSet_of e3
  refine ⟨a, rfl, call_set_add (knd := intKind c.prog c.w) (k := k) int_is (scan_int _ _) (set_at R e) (by unfold scanBound; omega) fun h' hs D' => ?_⟩
  refine Post.upd (s := s) R (has e) (fun b o q e => (hs.2 b q).trans e) _ ?_ .none q
  show h'.SetOf _ _ _ _
  cases z' : l.contains k with
  | true =>
    rw [z', if_pos rfl] at D'
    rw [if_pos rfl]
    have : (fun k' => l.contains k' || decide (k' = k)) = fun k' => l.contains k' := by
      funext k'
      by_cases zz : k' = k
      · subst zz; rw [z']; rfl
      · rw [decide_eq_false zz, Bool.or_false]
    rw [this] at D'
    exact D'
  | false =>
    rw [z', if_neg Bool.false_ne_true] at D'
    rw [if_neg Bool.false_ne_true]
    have : (fun k' => l.contains k' || decide (k' = k)) = fun k' => (l ++ [k]).contains k' := by
      funext k'
      rw [Bool.eq_iff_iff]
      simp
    rw [this] at D'
    rw [List.length_append]
    exact D'

/-! dicts -/
theorem dictI_at {a : Addr} {l : List (Int × AV)} (R : Rel c f ⟨O, fr⟩ s) (e : O a = some (.dictI l)) : ∃ kvs, s.heap.DictOf (intKind c.prog c.w) a kvs ∧ RKV (frz O f.H s.heap) kvs l := (R.ro.objs _ _ e).2
theorem dictS_at {a : Addr} {l : List (Str × AV)} (R : Rel c f ⟨O, fr⟩ s) (e : O a = some (.dictS l)) : ∃ kvs, s.heap.DictOf (strKind c.prog c.w) a kvs ∧ RKV (frz O f.H s.heap) kvs l := (R.ro.objs _ _ e).2
theorem RKV.nil' {K : Type} {g : Fz} {kvs : List (K × Value)} (h : RKV g kvs []) : kvs = [] := by cases h; rfl
theorem dict0_any {h : Heap} {a : Addr} (D : h.DictOf (intKind c.prog c.w) a []) : ∃ ep, h.get? a = some { cls := .type "dict", data := .dict #[] ep } := by
  obtain ⟨⟨oc, od, odt, osl⟩, es, ep, h1, ⟨x1, x2, x3⟩, h3, h4, h5, h6⟩ := D
  have : es = #[] := by
    have := h5.length
    simpa using this
  subst this
  cases x1; cases x2; cases x3; cases h3
  exact ⟨ep, h1⟩
theorem dict0_str {h : Heap} {a : Addr} {ep : Nat} (e : h.get? a = some { cls := .type "dict", data := .dict #[] ep }) : h.DictOf (strKind c.prog c.w) a [] :=
  ⟨_, #[], ep, e, ⟨rfl, rfl, rfl⟩, rfl, by intro e he; simp at he, .nil, List.nodup_nil⟩
theorem dictS_or {a : Addr} (R : Rel c f ⟨O, fr⟩ s) (e : O a = some (.dictI [])) : s.heap.DictOf (strKind c.prog c.w) a [] := by
  obtain ⟨kvs, D, r⟩ := dictI_at R e
  rw [r.nil'] at D
  obtain ⟨ep, q⟩ := dict0_any D
  exact dict0_str q

theorem items_of {vs : List Value} {l : List AV} {ks : List Int} {g : Fz} (r : RVs g vs l) (e : intsOf l = some ks) : ItemsAre (intKind c.prog c.w) ks vs := by
  induction l generalizing vs ks with
  | nil => cases r; cases e; exact .nil
  | cons av l ih =>
    cases r with | cons h r =>
    obtain ⟨i, e1, h1⟩ := bnd e
    obtain ⟨ks', e2, rfl⟩ := Option.map_eq_some_iff.mp h1
    cases asInt_of e1
    cases h
    exact .cons int_is (ih r e2)
theorem tupKey {g : Fz} {h : Heap} (hg : FzIn g h) {a : Addr} {l : List AV} {ks : List Int} (r : RV g (.ref a) (.tup l)) (e : intsOf l = some ks) : IsTupleKey (intKind c.prog c.w) h ks a := by
  cases r with | tup h1 r1 =>
  exact ⟨_, _, _, hg _ _ h1, rfl, rfl, items_of r1 e⟩
theorem intsOf_eq {l : List AV} {ks : List Int} (e : intsOf l = some ks) : l = ks.map .int := by
  induction l generalizing ks with
  | nil => cases e; rfl
  | cons av l ih =>
    obtain ⟨i, e1, h1⟩ := bnd e
    obtain ⟨ks', e2, rfl⟩ := Option.map_eq_some_iff.mp h1
    rw [asInt_of e1, ih e2]; rfl
theorem intsOf_map (ks : List Int) : intsOf (ks.map .int) = some ks := by
  induction ks with
  | nil => rfl
  | cons k ks ih => rw [List.map_cons, ints_int, ih]; rfl

noncomputable def DT (c : Cx) (g : Fz) (h : Heap) (a : Addr) (l : List (List Int × AV)) : Prop := HoldsM c g h a (.dictT l)
theorem DT.of {g : Fz} {h : Heap} (hg : FzIn g h) {a : Addr} {l : List (List Int × AV)} (x : DT c g h a l) : ∃ xs, h.DictOfH (tupleKind (intKind c.prog c.w)) a xs ∧ RKT g xs l ∧ xs.length = l.length := by
  obtain ⟨_, xs, es, ep, h1, h2, h3, h4⟩ := x
  refine ⟨xs, ⟨_, es, ep, h1, ⟨rfl, rfl, rfl⟩, rfl, h2, ?_, h3⟩, h4, ?_⟩
  · clear h2 h3
    induction h4 with
    | nil => intro x hx; simp at hx
    | cons q _ _ ih =>
      intro x hx
      rcases List.mem_cons.mp hx with rfl | hx
      · exact tupKey hg q (intsOf_map _)
      · exact ih x hx
  · clear h2 h3
    induction h4 with
    | nil => rfl
    | cons _ _ _ ih => exact congrArg (· + 1) ih
theorem RKT.get {g : Fz} (k : List Int) {xs : List (List Int × Addr × Value)} {l : List (List Int × AV)} (h : RKT g xs l) :
    (∀ p, atKey xs k = some p → ∃ av, dget l k = some av ∧ RV g p.2 av) ∧ (atKey xs k = none → dget l k = none) := by
  induction h with
  | nil => exact ⟨fun v e => (by cases e), fun _ => rfl⟩
  | cons q h _ ih =>
    rename_i k' _ _ _ _ _ _
    obtain ⟨a, b⟩ := ih
    unfold atKey dget at *
    rw [List.find?_cons, List.find?_cons]
    by_cases q : k' = k
    · rw [decide_eq_true q]
      exact ⟨fun v e => ⟨_, rfl, Option.some.inj e ▸ h⟩, fun e => (by cases e)⟩
    · rw [decide_eq_false q]
      exact ⟨a, b⟩

noncomputable def GetR (c : Cx) (f : Frm) (fr : Nat → Option AV) (O : Objs) (s : Shared) (Q : AV → Objs → Prop) (a : Addr) (wk wd : Value) : Prop :=
  (∃ k' fm, (strKind c.prog c.w).is k' wk = true ∧ s.heap.MapOf (strKind c.prog c.w) a fm ∧ Post c f fr O s.heap Q ((fm k').getD wd) { s with toks := s.toks + 1 }) ∨
      (∃ b ks xs, wk = .ref b ∧ (tupleKind (intKind c.prog c.w)).is s.heap ks b ∧ s.heap.DictOfH (tupleKind (intKind c.prog c.w)) a xs ∧ Post c f fr O s.heap Q (((atKey xs ks).map (·.2)).getD wd) { s with toks := s.toks + (ks.length + 1) })
theorem dictT_0 {a : Addr} (R : Rel c f ⟨O, fr⟩ s) (e : O a = some (.dictI [])) : s.heap.DictOfH (tupleKind (intKind c.prog c.w)) a [] := by
  obtain ⟨kvs, D, r⟩ := dictI_at R e
  rw [r.nil'] at D
  obtain ⟨ep, z⟩ := dict0_any D
  exact ⟨_, #[], ep, z, ⟨rfl, rfl, rfl⟩, rfl, rfl, (fun _ hx => nomatch hx), List.nodup_nil⟩
theorem get_str {a : Addr} {l : List (Str × AV)} {str : Str} {d : AV} {wk wd : Value} {Q : AV → Objs → Prop} (R : Rel c f ⟨O, fr⟩ s) (rk : RV (frz O f.H s.heap) wk (.str str)) (rd : RV (frz O f.H s.heap) wd d) (e : O a = some (.dictS l)) (h : Q ((dget l str).getD d) O) : GetR c f fr O s Q a wk wd := by
  cases rk
  obtain ⟨kvs, D, r⟩ := dictS_at R e
  refine .inl ⟨str, _, str_is, D.mapOf, ?_⟩
  cases q : valueAt kvs str with
  | some v =>
    obtain ⟨av, e1, e2⟩ := (r.get str).1 _ q
    rw [e1] at h
    exact Post.now R _ e2 h
  | none =>
    rw [(r.get str).2 q] at h
    exact Post.now R _ rd h
theorem get_tup {a : Addr} {l : List (List Int × AV)} {ks : List Int} {m : List AV} {d : AV} {wk wd : Value} {Q : AV → Objs → Prop} (R : Rel c f ⟨O, fr⟩ s) (rk : RV (frz O f.H s.heap) wk (.tup m)) (rd : RV (frz O f.H s.heap) wd d) (e : O a = some (.dictT l)) (em : intsOf m = some ks) (h : Q ((dget l ks).getD d) O) : GetR c f fr O s Q a wk wd := by
  have hg := frz_in O f.H s.heap
  obtain ⟨xs, D, r, _⟩ := DT.of hg (R.ro.objs _ _ e)
  cases rk with | tup h1 r1 =>
  refine .inr ⟨_, ks, xs, rfl, tupKey hg (.tup h1 r1) em, D, ?_⟩
  cases q : atKey xs ks with
  | some p =>
    obtain ⟨av, e1, e2⟩ := (r.get ks).1 _ q
    rw [e1] at h
    exact Post.now R _ e2 h
  | none =>
    rw [(r.get ks).2 q] at h
    exact Post.now R _ rd h
theorem get_ok {v k d : AV} {w wk wd : Value} {Q : AV → Objs → Prop} (ok : c.Ok) (R : Rel c f ⟨O, fr⟩ s) (rv : RV (frz O f.H s.heap) w v) (rk : RV (frz O f.H s.heap) wk k) (rd : RV (frz O f.H s.heap) wd d) (h : getA O v k d Q) :
    ∃ a, w = .ref a ∧ (a == sysModules) = false ∧ GetR c f fr O s Q a wk wd := by
  obtain ⟨a, e1, h1⟩ := oP_of h
  cases asRef_of e1; cases rv
  cases e : O a with
  | none => rw [e] at h1; exact h1.elim
  | some mo =>
    rw [e] at h1
    cases mo with
    | dictS l =>
      obtain ⟨str, e2, h2⟩ := oP_of h1
      cases asStr_of e2
      exact ⟨a, rfl, notMods ok R.ro e, get_str R rk rd e h2⟩
    | dictT l =>
      obtain ⟨m, e2, h2⟩ := oP_of h1
      obtain ⟨ks, em, h3⟩ := oP_of h2
      cases asTup_of e2
      exact ⟨a, rfl, notMods ok R.ro e, get_tup R rk rd e em h3⟩
    | dictI l =>
      refine ⟨a, rfl, notMods ok R.ro e, ?_⟩
      cases l with
      | cons _ _ => exact False.elim h1
      | nil =>
        cases rk with
        | str => exact .inl ⟨_, _, str_is, (dictS_or R e).mapOf, Post.now R _ rd h1⟩
        | tup z1 r1 =>
          obtain ⟨ks, em, h3⟩ := oP_of h1
          exact .inr ⟨_, ks, [], rfl, tupKey (frz_in O f.H s.heap) (.tup z1 r1) em, dictT_0 R e, Post.now R _ rd h3⟩
        | _ => exact False.elim h1
    | _ => exact False.elim h1

end
end Mine

namespace Mine

noncomputable def PostU (c : Cx) (f : Frm) (fr : Nat → Option AV) (O₀ : Objs) (h₀ : Heap) (Q : Objs → Prop) : Shared → Prop :=
  fun s' => ∃ O', Rel c f ⟨O', fr⟩ s' ∧ StepO f.F f.H O₀ h₀ O' s'.heap ∧ Q O'

section
variable {A : Around} {s : Shared} {c : Cx} {f : Frm} {fr : Nat → Option AV} {O : Objs} {n : Nat}

theorem setItem_exact {prog : Program} {w : World} {l : Addr} {items : Array Value} {m : Nat} {k : Int} {t : Tok} {v : Value} {Q : Unit → Shared → Prop} (hl : IsL s.heap l items m)
    (h0 : 0 ≤ k) (hfit : k < 2 ^ 63) (hn : k < items.size) (hQ : Q () { s with heap := s.heap.update l (Obj.mapSeq (·.setIfInBounds k.toNat v)) }) :
    wpAny (model prog w) A (setItem (.ref l) (.int k t) v) Q NoE s := by
  have hl' := hl.isList
  unfold setItem
  try with_reducible refine wpAny_holding ?_
  first | refine wpAny_bind (wpAny_pure ?_) | skip
  refine wpAny_bind (wpAny_sequenceKey hl'.typeIs (by decide) ?_)
  refine wpAny_bind (wpAny_callSpecial?_slot (name := Str.ofString "__setitem__") hl'.typeIs slot_list_setitem
    (wpAny_call_entry slot_list_setitem hl'.typeIs entry_list_setitem ?_ (args_list_setitem _ _ _)))
  show wpAny _ _ (Builtin.List.listSubscript? (.int k t) >>= _) _ _ s
  refine wpAny_bind (wpAny_listSubscript_int (fitsIndex_of h0 hfit) ?_)
  clear hfit
  obtain ⟨j, rfl⟩ := Int.eq_ofNat_of_zero_le h0
  have hj : j < items.size := by omega
  have hx' : items[j]? = some items[j] := Array.getElem?_eq_getElem hj
  show wpAny _ _ ((seqItemAt l j >>= fun r => pure (r.map (j, ·))) >>= _) _ _ s
  refine wpAny_bind (wpAny_bind (wpAny_seqItemAt hl rfl (wpAny_pure ?_)))
  rw [hx']
  show wpAny _ _ (setSeqItemAt l j v >>= _) _ _ s
  refine wpAny_bind (wpAny_setSeqItemAt hl rfl ?_)
  first
    | exact wpAny_bind (wpAny_pure (wpAny_pure ⟨.none, rfl, wpAny_pure hQ⟩))
    | exact wpAny_pure ⟨.none, rfl, wpAny_pure hQ⟩

theorem PostU.upd {O : Objs} {Q : Objs → Prop} (R : Rel c f ⟨O, fr⟩ s) {h' : Heap} {a : Addr} {mo : MO} (ha : (O a).isSome = true ∨ s.heap.get? a = none)
    (k : ∀ b o, b ≠ a → s.heap.get? b = some o → h'.get? b = some o) (t : Nat) (hm : HoldsM c (frz (up O a mo) f.H h') h' a mo) (q : Q (up O a mo)) :
    PostU c f fr O s.heap Q { s with heap := h', toks := t } := ⟨_, R.upd ha k t hm, .upd R.ro ha k, q⟩

theorem RKT.store {g : Fz} {ks : List Int} {a : Addr} {v : Value} {av : AV} (q : RV g (.ref a) (.tup (ks.map .int))) (x : RV g v av) {xs : List (List Int × Addr × Value)} {l : List (List Int × AV)} (h : RKT g xs l) :
    RKT g (storedH xs ks a v) (dput l ks av) := by
  have m : ∀ {xs : List (List Int × Addr × Value)} {l : List (List Int × AV)}, RKT g xs l → RKT g (xs.map (putAt ks v)) (l.map fun p => if p.1 = ks then (p.1, av) else p) := by
    intro xs l h
    induction h with
    | nil => exact .nil
    | cons q h _ ih =>
      rename_i k' _ _ _ _ _ _
      rw [List.map_cons, List.map_cons]
      by_cases z : k' = ks
      · rw [show putAt ks v (k', _, _) = (k', _, v) from if_pos z, if_pos z]; exact .cons q x ih
      · rw [show putAt ks v (k', _, _) = (k', _, _) from if_neg z, if_neg z]; exact .cons q h ih
  have an : ∀ {xs : List (List Int × Addr × Value)} {l : List (List Int × AV)}, RKT g xs l → (atKey xs ks).isSome = l.any fun p => decide (p.1 = ks) := by
    intro xs l h
    induction h with
    | nil => rfl
    | cons q h _ ih =>
      rename_i k' _ _ _ _ _ _
      unfold atKey at *
      by_cases z : k' = ks
      · subst z; simp
      · simp only [List.find?_cons, z, decide_false, List.any_cons, Bool.false_or]; exact ih
  have ap : ∀ {xs : List (List Int × Addr × Value)} {l : List (List Int × AV)}, RKT g xs l → RKT g (xs ++ [(ks, a, v)]) (l ++ [(ks, av)]) := by
    intro xs l h
    induction h with
    | nil => exact .cons q x .nil
    | cons q h _ ih => exact .cons q h ih
  have e := an h
  unfold dput
  rw [← e]
  cases z : atKey xs ks with
  | none => rw [storedH_new z]; exact ap h
  | some p => rw [storedH_old z]; exact m h

theorem DT.into {g : Fz} {h : Heap} {a : Addr} {xs : List (List Int × Addr × Value)} {l : List (List Int × AV)} (nm : (a == sysModules) = false) (D : h.DictOfH (tupleKind (intKind c.prog c.w)) a xs) (r : RKT g xs l) : DT c g h a l := by
  obtain ⟨⟨oc, od, odt, osl⟩, es, ep, h1, ⟨x1, x2, x3⟩, h3, h4, h5, h6⟩ := D
  cases x1; cases x2; cases x3; cases h3
  exact ⟨nm, xs, es, ep, h1, h4, h6, r⟩

theorem sit_int {a : Addr} {l : List (Int × AV)} {kk : Int} {x : AV} {wk wx : Value} {Q : Objs → Prop} (ok : c.Ok) (R : Rel c f ⟨O, fr⟩ s) (rk : RV (frz O f.H s.heap) wk (.int kk)) (rx : RV (frz O f.H s.heap) wx x) (e : O a = some (.dictI l)) (h1 : l.length < lim) (q : Q (up O a (.dictI (dput l kk x)))) :
    wpAny (model c.prog c.w) A (setItem (.ref a) wk wx) (fun _ => PostU c f fr O s.heap Q) NoE s := by
  cases rk
  obtain ⟨kvs, D, r⟩ := dictI_at R e
  refine wpAny_setItem_pairs (k := kk) (knd := intKind c.prog c.w) int_is D (fun h' D' hs => ?_) (lim_le (by rw [r.length]; exact h1))
  have kp : ∀ b o, b ≠ a → s.heap.get? b = some o → h'.get? b = some o := fun b o q e => (hs.2 b q).trans e
  exact PostU.upd (s := s) (mo := .dictI (dput l kk x)) R (has e) kp _ ⟨notMods ok R.ro e, _, D', (r.store rx).mono (frz_up (has e) kp)⟩ q
theorem sit_str {a : Addr} {mo : MO} {kvs : List (Str × Value)} {l : List (Str × AV)} {kk : Str} {x : AV} {wk wx : Value} {Q : Objs → Prop} (ok : c.Ok) (R : Rel c f ⟨O, fr⟩ s) (rk : RV (frz O f.H s.heap) wk (.str kk)) (rx : RV (frz O f.H s.heap) wx x) (e : O a = some mo) (hm : isD mo = true) (D : s.heap.DictOf (PySem.strKind c.prog c.w) a kvs) (r : RKV (frz O f.H s.heap) kvs l) (h1 : l.length < lim) (q : Q (up O a (.dictS (dput l kk x)))) :
    wpAny (model c.prog c.w) A (setItem (.ref a) wk wx) (fun _ => PostU c f fr O s.heap Q) NoE s := by
  cases rk
  refine wpAny_setItem_pairs (k := kk) (knd := PySem.strKind c.prog c.w) str_is D (fun h' D' hs => ?_) (lim_le (by rw [r.length]; exact h1))
  have kp : ∀ b o, b ≠ a → s.heap.get? b = some o → h'.get? b = some o := fun b o q e => (hs.2 b q).trans e
  exact PostU.upd (s := s) (mo := .dictS (dput l kk x)) R (has e) kp _ ⟨notMods ok R.ro e hm, _, D', (r.store rx).mono (frz_up (has e) kp)⟩ q
theorem sit_tup {a : Addr} {mo : MO} {xs : List (List Int × Addr × Value)} {l : List (List Int × AV)} {ks : List Int} {m : List AV} {x : AV} {wk wx : Value} {Q : Objs → Prop} (ok : c.Ok) (R : Rel c f ⟨O, fr⟩ s) (hu : A.units + 1 < cLine) (rk : RV (frz O f.H s.heap) wk (.tup m)) (em : intsOf m = some ks) (rx : RV (frz O f.H s.heap) wx x) (e : O a = some mo) (hm : isD mo = true)
    (D : s.heap.DictOfH (tupleKind (intKind c.prog c.w)) a xs) (r : RKT (frz O f.H s.heap) xs l) (h1 : xs.length < lim) (q : Q (up O a (.dictT (dput l ks x)))) : wpAny (model c.prog c.w) A (setItem (.ref a) wk wx) (fun _ => PostU c f fr O s.heap Q) NoE s := by
  cases rk with | tup z1 z2 =>
  refine wpAny_setItem_heap (knd := tupleKind (intKind c.prog c.w)) (k := ks) hu (tupKey (frz_in O f.H s.heap) (.tup z1 z2) em) D (fun h' D' hs => ?_) (lim_le h1)
  have kp : ∀ b o, b ≠ a → s.heap.get? b = some o → h'.get? b = some o := fun b o q e => (hs.2 b q).trans e
  exact PostU.upd (s := s) (mo := .dictT (dput l ks x)) R (has e) kp _ (DT.into (notMods ok R.ro e hm) D' ((r.store (intsOf_eq em ▸ .tup z1 z2) rx).mono (frz_up (has e) kp))) q
theorem sit_ok {v k x : AV} {w wk wx : Value} {Q : Objs → Prop} (ok : c.Ok) (R : Rel c f ⟨O, fr⟩ s) (hu : A.units + 1 < cLine) (rv : RV (frz O f.H s.heap) w v) (rk : RV (frz O f.H s.heap) wk k) (rx : RV (frz O f.H s.heap) wx x) (h : sitA O v k x Q) :
    wpAny (model c.prog c.w) A (setItem w wk wx) (fun _ => PostU c f fr O s.heap Q) NoE s := by
  obtain ⟨a, e1, h1⟩ := oP_of h
  cases asRef_of e1; cases rv
  cases e : O a with
  | none => rw [e] at h1; exact h1.elim
  | some mo =>
    rw [e] at h1
    cases mo with
    | list l =>
      obtain ⟨kk, e2, ⟨b1, b2, b3⟩, q⟩ := oP_of h1
      cases asInt_of e2; cases rk
      obtain ⟨vs, m, g1, g2, g3⟩ := list_at R e
      refine setItem_exact g1 b1 (Int.lt_trans (Int.lt_trans b2 (Int.ofNat_lt.mpr b3)) (by decide)) (by rw [g3]; exact b2) ?_
      refine PostU.upd (s := s) (mo := .list (l.set kk.toNat x)) R (has e) upd_keep s.toks ⟨_, _, IsL.update g1 _, ?_⟩ q
      rw [Array.toList_setIfInBounds]
      exact (g2.set _ rx).mono (frz_up (has e) upd_keep)
    | dictS l =>
      obtain ⟨kk, e2, h2, q⟩ := oP_of h1
      cases asStr_of e2
      obtain ⟨kvs, D, r⟩ := dictS_at R e
      exact sit_str ok R rk rx e rfl D r h2 q
    | dictT l =>
      obtain ⟨m, e2, h2⟩ := oP_of h1
      obtain ⟨ks, em, h3, q⟩ := oP_of h2
      cases asTup_of e2
      obtain ⟨xs, D, r, hl⟩ := DT.of (frz_in O f.H s.heap) (R.ro.objs _ _ e)
      exact sit_tup ok R hu rk em rx e rfl D r (hl ▸ h3) q
    | dictI l =>
      cases k with
      | int kk => exact sit_int ok R rk rx e h1.1 h1.2
      | str kk =>
        obtain ⟨rfl, q⟩ := h1
        exact sit_str (kvs := []) (l := []) ok R rk rx e rfl (dictS_or R e) .nil (by decide) q
      | tup m =>
        obtain ⟨rfl, h2⟩ := h1
        obtain ⟨ks, em, q⟩ := oP_of h2
        exact sit_tup (xs := []) (l := []) ok R hu rk em rx e rfl (dictT_0 R e) .nil (by decide) q
      | _ => exact False.elim h1
    | _ => exact False.elim h1

theorem seqIndex_ok {k : Int} {m : Nat} (h0 : 0 ≤ k) (h1 : k.toNat < m) : seqIndex? k m = some k.toNat := by
  unfold seqIndex?
  rw [if_neg (show ¬ k < 0 by omega)]
  have e : (decide (0 ≤ k) && decide (k < (m : Int))) = true := by
    simp only [Bool.and_eq_true, decide_eq_true_eq]; omega
  exact if_pos e

theorem ifo {α : Type} {c : Prop} [Decidable c] {o : Option α} {w : α} (e : (if c then o else none) = some w) : c ∧ o = some w := by
  split at e
  · exact ⟨‹c›, e⟩
  · exact no e
theorem fit63 {k : Int} (h : k < 2 ^ 40) : k < 2 ^ 63 := Int.lt_trans h (by decide)
theorem sub_ok {v k z : AV} {w wk : Value} {value slice : Expr} {Q : AV → Objs → Prop} (R : Rel c f ⟨O, fr⟩ s) (rv : RV (frz O f.H s.heap) w v) (rk : RV (frz O f.H s.heap) wk k) (e : subA O v k = some z) (q : Q z O)
    (hs : ∀ o i, subscripted slice false o i = operate [o, i] (getItem o i)) :
    wpAny (model c.prog c.w) A (subscriptTail value slice w wk) (Post c f fr O s.heap Q) NoE s := by
  obtain ⟨kk, e1, h1⟩ := bnd e
  cases asInt_of e1; cases rk
  cases rv with
  | tup g1 r1 =>
    rename_i vs m _
    obtain ⟨hb, h2⟩ := ifo h1
    obtain ⟨y, hy, ry⟩ := r1.get h2
    have hy' : vs[kk.toNat]? = some y := by rw [← Array.getElem?_toList]; exact hy
    have hlt : kk.toNat < vs.size := (Array.getElem?_eq_some_iff.mp hy').1
    have g2 := frz_in O f.H s.heap _ _ g1
    exact tail_any ⟨_, g2, rfl⟩ slot_tuple_getitem.lookup (P.getItem_tuple g2 (by omega) (fit63 hb.2) (seqIndex_ok hb.1 hlt) hy' (Post.now R s.toks ry q)) (hs _ _)
  | ref =>
    rename_i a
    cases el : O a with
    | none => exact no (show none = some z by rw [← h1]; show _ = subM (O a) kk; rw [el]; rfl)
    | some mo =>
      have h2 : subM (O a) kk = some z := h1
      rw [el] at h2
      cases mo with
      | list l =>
        obtain ⟨hb, h2⟩ := ifo h2
        obtain ⟨vs, m, g1, g2, g3⟩ := list_at R el
        obtain ⟨y, hy, ry⟩ := g2.get h2
        have hy' : vs[kk.toNat]? = some y := by rw [← Array.getElem?_toList]; exact hy
        have il := IsL.isList g1
        exact tail_any il.typeIs slot_list_getitem.lookup (wpAny_getItem_list il hb.1 (fit63 hb.2) hy' (Post.now R s.toks ry q)) (hs _ _)
      | dictI l =>
        obtain ⟨kvs, D, r⟩ := dictI_at R el
        cases hv : valueAt kvs kk with
        | none => exact no (((r.get kk).2 hv).symm.trans h2)
        | some y =>
          obtain ⟨av, e1, ry⟩ := (r.get kk).1 _ hv
          cases e1.symm.trans h2
          exact tail_any D.typeIs slot_dict_getitem.lookup (wpAny_getItem_of (knd := intKind c.prog c.w) (k := kk) int_is D.mapOf hv (Post.now R _ ry q)) (hs _ _)
      | _ => exact no h2
  | _ => exact no h1
end
end Mine

namespace Mine

noncomputable def Bf.val : Bf → Value
  | .len => .builtin "len" | .abs => .builtin "abs" | .min => .builtin "min" | .list => .type "list" | .tuple => .type "tuple" | .set => .type "set" | .range => .type "range"
theorem boot_bf (b : Bf) : bootBuiltins b.nm = some b.val := by cases b <;> rfl
theorem bf_name (b : Bf) : b.nm ≠ ("__name__" : Str) := by cases b <;> decide +kernel
theorem bf_dbg (b : Bf) : (b.nm == ("__debug__" : Str)) = false := by cases b <;> decide +kernel

section
variable {A : Around} {s : Shared} {c : Cx} {f : Frm} {fr : Nat → Option AV} {O : Objs} {n : Nat}

theorem okR_of {x : Int} (h : okR x = true) : -(2 ^ 40) < x ∧ x < 2 ^ 40 := by
  have := of_decide_eq_true h
  omega

theorem RelO.dead {H : List Addr} (R : RelO c H O s) {a : Addr} (e : s.heap.get? a = none) : O a = none ∧ a ∉ H := by
  refine ⟨?_, fun m => ?_⟩
  · cases q : O a with
    | none => rfl
    | some mo => obtain ⟨o, z⟩ := (R.objs _ _ q).alive; rw [e] at z; cases z
  · obtain ⟨_, o, z⟩ := R.hid _ m; rw [e] at z; cases z
theorem set_new {h : Heap} {a : Addr} {led : Bool} (e : h.get? a = some { cls := .type "set", dict := none, data := .set #[] 0 (.fresh 0 0 led) }) : h.SetOf (intKind c.prog c.w) a (fun k => ([] : List Int).contains k) 0 :=
  ⟨_, _, _, _, e, ⟨rfl, rfl, rfl⟩, rfl, (fun x hx => by simp at hx), fun k => by simp, by decide, by rfl, rfl⟩

theorem RVs.one {g : Fz} {ws : List Value} {x : AV} (r : RVs g ws [x]) : ∃ w, ws = [w] ∧ RV g w x := by
  cases r with | cons r1 r2 =>
  cases r2; exact ⟨_, rfl, r1⟩
theorem RVs.two {g : Fz} {ws : List Value} {x y : AV} (r : RVs g ws [x, y]) : ∃ w v, ws = [w, v] ∧ RV g w x ∧ RV g v y := by
  cases r with | cons r1 r2 =>
  obtain ⟨v, rfl, q2⟩ := r2.one
  exact ⟨_, v, rfl, r1, q2⟩
theorem RVs.three {g : Fz} {ws : List Value} {x y z : AV} (r : RVs g ws [x, y, z]) : ∃ w v u, ws = [w, v, u] ∧ RV g w x ∧ RV g v y ∧ RV g u z := by
  cases r with | cons r1 r2 =>
  obtain ⟨v, u, rfl, q2, q3⟩ := r2.two
  exact ⟨_, v, u, rfl, r1, q2, q3⟩
/-- one argument, which is a handle -/
theorem one_ref {g : Fz} {vs : List AV} {ws : List Value} {P : Addr → Prop} (rv : RVs g ws vs) (h : oP (one vs) fun x => oP (asRef x) P) : ∃ a, ws = [.ref a] ∧ P a := by
  obtain ⟨x, e1, h1⟩ := oP_of h
  obtain ⟨a, e2, h2⟩ := oP_of h1
  cases one_of e1; cases asRef_of e2
  obtain ⟨w, rfl, r⟩ := rv.one
  cases r; exact ⟨a, rfl, h2⟩
theorem kpush {o : Obj} : ∀ b q, s.heap.get? b = some q → (s.heap.push o).get? b = some q := fun b q e => Heap.get?_push_of_some _ e
theorem bf_list {a : Addr} {Q : AV → Objs → Prop} (ok : c.Ok) (hh : A.handled = none) (R : Rel c f ⟨O, fr⟩ s) (h : lisA (O a) fun l => newM O (.list l) Q) :
    wpAny (model c.prog c.w) A (call (.type "list") [.ref a]) (Post c f fr O s.heap Q) NoE s := by
  cases e : O a with
  | none => rw [e] at h; exact h.elim
  | some mo =>
    rw [e] at h
    cases mo with
    | list l =>
      obtain ⟨vs, m, g1, g2, g3⟩ := list_at R e
      refine call_list_seq _ (.inl rfl) g1 rfl rfl (fun h' c' k hx => ?_) (lim_le (g3 ▸ h.1))
      exact Post.new (s := s) (mo := .list l) R k s.toks ⟨_, _, hx, g2.mono (frz_up (.inr (dead_size _)) fun b o _ e => k b o e)⟩ h.2
    | dictI l =>
      cases l with
      | cons _ _ => exact False.elim h
      | nil =>
        obtain ⟨kvs, D, r⟩ := dictI_at R e
        rw [r.nil'] at D
        obtain ⟨ep, hat⟩ := D.dictAt
        refine kdl_call (kdl_dict (knd := intKind c.prog c.w) (kvs := []) (ep := ep) (notMods ok R.ro e)) hh hat (Nat.zero_le _) fun h' tk acc' c' k hx hI => ?_
        cases Array.eq_empty_of_size_eq_zero hI.1
        exact Post.new (s := s) (mo := .list []) R k tk ⟨_, _, hx, .nil⟩ h
    | _ => exact False.elim h
theorem rng3_log {z : Int} (h : okR z = true) : z.natAbs.log2 < 9000 := by
  by_cases q : z.natAbs = 0
  · rw [q]; decide +kernel
  · exact Nat.lt_trans ((Nat.log2_lt q (k := 40)).mpr (of_decide_eq_true h)) (by decide)
theorem bf_range {vs : List AV} {ws : List Value} {Q : AV → Objs → Prop} (R : Rel c f ⟨O, fr⟩ s) (rv : RVs (frz O f.H s.heap) ws vs) (h : rngA vs fun v => Q v O) : wpAny (model c.prog c.w) A (call (.type "range") ws) (Post c f fr O s.heap Q) NoE s := by
  unfold rngA at h
  split at h
  · obtain ⟨b, e1, _, q⟩ := oP_of h
    cases asInt_of e1
    obtain ⟨w, rfl, r⟩ := rv.one
    cases r
    exact call_range_1 (Post.keeps (s := s) R kpush _ (.rng (frz_new R (Heap.get?_push_size _ rfl))) q)
  · obtain ⟨a, e1, h1⟩ := oP_of h
    obtain ⟨b, e2, h2⟩ := oP_of h1
    obtain ⟨d, e3, ⟨_, _, q3, q4⟩, q⟩ := oP_of h2
    cases asInt_of e1; cases asInt_of e2; cases asInt_of e3
    obtain ⟨w, v, u, rfl, r1, r2, r3⟩ := rv.three
    cases r1; cases r2; cases r3
    exact call_range_3 q4 (Post.keeps (s := s) R kpush _ (.rng (frz_new R (Heap.get?_push_size _ rfl))) q) (.inl (PyProof.noPylong_of_log2 (rng3_log q3)))
  · exact h.elim
theorem bif_ok {b : Bf} {vs : List AV} {ws : List Value} {Q : AV → Objs → Prop} (ok : c.Ok) (hh : A.handled = none) (R : Rel c f ⟨O, fr⟩ s) (rv : RVs (frz O f.H s.heap) ws vs) (h : bifA O b vs Q) :
    wpAny (model c.prog c.w) A (call b.val ws) (Post c f fr O s.heap Q) NoE s := by
  cases b with
  | len =>
    obtain ⟨a, rfl, h1⟩ := one_ref rv h
    obtain ⟨l, e, hl, q⟩ := oP_of h1
    obtain ⟨vs, m, g1, g2, g3⟩ := list_at R (asLst_of e)
    refine Calls.call_len_list (IsL.isList g1) (by have := hl; unfold lim at this; omega) ?_
    refine Post.now R _ (x := .int l.length) ?_ q
    rw [g3]; exact .int
  | abs =>
    obtain ⟨x, e1, h1⟩ := oP_of h
    obtain ⟨k, e2, q⟩ := oP_of h1
    cases one_of e1; cases asInt_of e2
    obtain ⟨w, rfl, r⟩ := rv.one
    cases r
    exact call_abs_int fun u tk => Post.now R _ .int q
  | min =>
    obtain ⟨p, e1, h1⟩ := oP_of h
    obtain ⟨x, e2, h2⟩ := oP_of h1
    obtain ⟨y, e3, q⟩ := oP_of h2
    have rv' := two_of e1 ▸ rv
    rw [asInt_of e2, asInt_of e3] at rv'
    obtain ⟨w, v, rfl, r1, r2⟩ := rv'.two
    cases r1; cases r2
    refine min_two_ints hh fun h' tk k => ?_
    split
    · rename_i z
      exact Post.keeps R k tk .int (by rwa [Int.min_eq_right (by omega)] at q)
    · rename_i z
      exact Post.keeps R k tk .int (by rwa [Int.min_eq_left (by omega)] at q)
  | list =>
    obtain ⟨a, rfl, h1⟩ := one_ref rv h
    exact bf_list ok hh R h1
  | tuple =>
    obtain ⟨a, rfl, h1⟩ := one_ref rv h
    obtain ⟨l, e, hl, q⟩ := oP_of h1
    obtain ⟨vs, m, g1, g2, g3⟩ := list_at R (asLst_of e)
    refine call_tuple_list (IsL.isList g1) (fun h' k => ?_) (lim_le (g3 ▸ hl))
    have k' : ∀ b o, s.heap.get? b = some o → (h'.push { cls := .type "tuple", data := .seq vs }).get? b = some o := fun b o e => Heap.get?_push_of_some _ (k b o e)
    refine Post.keeps (s := s) R k' s.toks (.tup (n := 0) ?_ (g2.mono (frz_keeps k'))) q
    have d := R.ro.dead (a := h'.objs.size) (by
      cases q : s.heap.get? h'.objs.size with
      | none => rfl
      | some o => exact absurd (Heap.lt_size (k _ _ q)) (Nat.lt_irrefl _))
    exact frz_some.mpr ⟨d.1, d.2, Heap.get?_push_size _ rfl⟩
  | set =>
    obtain ⟨rfl, q⟩ := h
    cases rv
    exact call_set_0 fun led => Post.new (s := s) (mo := .set []) R kpush s.toks (set_new (Heap.get?_push_size _ rfl)) q
  | range => exact bf_range R rv h
end
end Mine

namespace Mine

section
variable {A : Around} {s : Shared} {c : Cx} {f : Frm} {fr : Nat → Option AV} {O : Objs} {n : Nat}

theorem kin_at (ok : c.Ok) (R : RelO c f.H O s) : c.K.In s.heap := ok.kin.keeps fun b o e => (R.base b o e).1
theorem glob_at (ok : c.Ok) (R : RelO c f.H O s) : s.heap.Ns mainGlobals c.mg := ok.glob.keeps fun b o e => (R.base b o e).1
theorem bltn_at (ok : c.Ok) (R : RelO c f.H O s) : s.heap.Ns builtinsNs c.mb := ok.bltn.keeps fun b o e => (R.base b o e).1

theorem loadName_ok {i : Nat} {av : AV} {Q : AV → Objs → Prop} (R : Rel c f ⟨O, fr⟩ s) (e : fr i = some av) (q : Q av O) : wpAny (model c.prog c.w) A (loadName f.env (nm i)) (Post c f fr O s.heap Q) NoE s := by
  rcases R.vars i av e with ⟨k1, mc, v, n1, n2, n3⟩ | ⟨k1 | k1, ca, v, n1, n2, n3, n4⟩
  · exact wpAny_loadName_local R.fo.kd k1 n1 n2 (Post.now R s.toks n3 q)
  · exact wpAny_loadName_cell R.fo.kd k1 n1 n3 (Post.now R s.toks n4 q)
  · exact wpAny_loadName_free R.fo.kd k1 n1 n3 (Post.now R s.toks n4 q) (nm_cdc i)
theorem name_ok {i : Nat} {pos : Pos} {av : AV} {Q : AV → Objs → Prop} (R : Rel c f ⟨O, fr⟩ s) (e : fr i = some av) (q : Q av O) : wpAny (model c.prog c.w) A (eval (.Name (nm i) pos) f.env) (Post c f fr O s.heap Q) NoE s :=
  wpAny_Name (loadName_ok R e q) (nm_dbg i)

theorem globName_ok {x : Str} {pos : Pos} {v : Value} {Q : Value → Shared → Prop} (ok : c.Ok) (R : Rel c f ⟨O, fr⟩ s) (hx : f.env.scope.names.lookup x = some .globalImplicit) (hd : (x == ("__debug__" : Str)) = false) (e : nsIn c.K mainGlobals x = some (some v)) (q : Q v s) :
    wpAny (model c.prog c.w) A (eval (.Name x pos) f.env) Q NoE s :=
  Calls.Name_function_global R.fo.kd hx (Calls.loadGlobal_global (by rw [R.fo.gl]; exact glob_at ok R.ro) (mg_of (kin_at ok R.ro) (glob_at ok R.ro) e) q) hd
theorem bfName_ok {b : Bf} {pos : Pos} {Q : Value → Shared → Prop} (ok : c.Ok) (R : Rel c f ⟨O, fr⟩ s) (hx : f.env.scope.names.lookup b.nm = some .globalImplicit) (e : nsIn c.K mainGlobals b.nm = some none) (q : Q b.val s) :
    wpAny (model c.prog c.w) A (eval (.Name b.nm pos) f.env) Q NoE s :=
  Calls.Name_function_global R.fo.kd hx (Calls.loadGlobal_builtin (by rw [R.fo.gl]; exact glob_at ok R.ro) (mg_none_of (kin_at ok R.ro) (glob_at ok R.ro) e) (by rw [R.fo.bl]; exact bltn_at ok R.ro) ((ok.boot _ (bf_name b)).trans (boot_bf b)) q) (bf_dbg b)

theorem RV.handed {g : Fz} {v : Value} {x : AV} (h : RV g v x) : handedIn v = true := by cases h <;> rfl

theorem inst_at {g : Fz} {h : Heap} (hg : FzIn g h) {w : Value} {x C : Addr} {l : List (Nat × AV)} (r : RV g w (.inst x C l)) : w = .ref x ∧ ∃ dx es ep, InstAt h x { cls := .ref C, dict := some dx, data := .plain } C (some { cls := .type "dict", data := .dict es ep }) ∧ RVA g es.toList l := by
  cases r with | inst h1 h2 h3 => exact ⟨rfl, _, _, _, ⟨hg _ _ h1, rfl, rfl, hg _ _ h2⟩, h3⟩
theorem lookIn_some {g : Fz} {es : Array DictEntry} {ep : Nat} {l : List (Nat × AV)} (r : RVA g es.toList l) {i : Nat} {av : AV} (e : lk l i = some av) : ∃ v, lookIn (nm i) { cls := .type "dict", data := .dict es ep } = some (some v) ∧ RV g v av := by
  have z := r.find i
  rw [e] at z
  obtain ⟨en, z1, z2⟩ := z
  refine ⟨en.val, ?_, z2⟩
  unfold lookIn
  simp only [z1]
theorem lookIn_none {g : Fz} {es : Array DictEntry} {ep : Nat} {l : List (Nat × AV)} (r : RVA g es.toList l) {i : Nat} (e : lk l i = none) : lookIn (nm i) { cls := .type "dict", data := .dict es ep } = some none := by
  have z := r.find i
  rw [e] at z
  unfold lookIn
  simp only [z, r.noRef]
  rfl

theorem atr_ok {v : AV} {w : Value} {i : Nat} {x C : Addr} {l : List (Nat × AV)} {av : AV} {b : Bool} {Q : AV → Objs → Prop} (ok : c.Ok) (R : Rel c f ⟨O, fr⟩ s) (hc : chkAtr c.K C i = true) (rv : RV (frz O f.H s.heap) w (.inst x C l)) (e : lk l i = some av) (q : Q av O) :
    wpAny (model c.prog c.w) A (getAttr w (nm i) b) (Post c f fr O s.heap Q) NoE s := by
  obtain ⟨rfl, dx, es, ep, I, r⟩ := inst_at (frz_in O f.H s.heap) rv
  obtain ⟨v, z1, z2⟩ := lookIn_some (ep := ep) r e
  unfold chkAtr at hc
  simp only [Bool.and_eq_true, beq_iff_eq] at hc
  exact get_value (kin_at ok R.ro) I (plainGet_of hc.1.1).1 (findObj_own hc.1.2 hc.2 rfl z1) (RV.handed z2) (Post.now R _ z2 q)

theorem isFun_of {K : Frag} {a : Addr} (h : isFun K a = true) : fnIn K a = true ∧ typeIn K (.ref a) = some (.type "function") ∧ keepIn K (.ref a) = true := by
  unfold isFun at h
  simp only [Bool.and_eq_true, beq_iff_eq] at h
  exact ⟨h.1.1, h.1.2, h.2⟩
theorem getMethod_ok {w : Value} {i : Nat} {x C g : Addr} {l : List (Nat × AV)} {pl : Sem Bool} {Q : Value × List Value → Shared → Prop} (ok : c.Ok) (R : Rel c f ⟨O, fr⟩ s) (hc : chkMth c.K C i g = true) (rv : RV (frz O f.H s.heap) w (.inst x C l)) (e : lk l i = none)
    (q : Q (.ref g, [.ref x]) s) : w = .ref x ∧ wpAny (model c.prog c.w) A (getMethod (.ref x) (nm i) pl) Q NoE s := by
  obtain ⟨rfl, dx, es, ep, I, r⟩ := inst_at (frz_in O f.H s.heap) rv
  have z := lookIn_none (ep := ep) r e
  unfold chkMth at hc
  simp only [Bool.and_eq_true, beq_iff_eq] at hc
  refine ⟨rfl, method_fn (kin_at ok R.ro) I (plainGet_of hc.1.1.1).1 (plainGet_of hc.1.1.1).2 hc.1.2 (isFun_of hc.2).2.1 ?_ q⟩
  show (lookIn (nm i) _).map _ = _
  rw [z]; rfl

/-! calls -/
theorem starEach_map {es : List Expr} {env : Env} (h : es.all noStar = true) : starEach es env = es.map fun e => (false, eval e env) := by
  induction es with
  | nil => rfl
  | cons e r ih =>
    rw [List.all_cons, Bool.and_eq_true] at h
    rw [List.map_cons, ← ih h.2]
    cases e <;> first | rfl | (exact absurd h.1 Bool.false_ne_true)
theorem backTo_map {es : List Expr} {env : Env} {pos : Pos} (h : es.all noStar = true) : backTo pos (starEach es env) = es.map fun e => (false, eval e env) := by
  rw [starEach_map h]
  unfold backTo
  rw [List.map_map]
  rfl
theorem plain_any {es : List Expr} {env : Env} : (es.map fun e => (false, eval e env)).any (·.1) = false := by
  induction es with
  | nil => rfl
  | cons e r ih => rw [List.map_cons, List.any_cons, ih]; rfl

theorem evalArgs_ok {M : Model} {fv : Value} {args : List (Bool × Sem Value)} {Q : Args → Shared → Prop} {E : Value → Shared → Prop} (hp : args.any (·.1) = false) (h : wpAny M A (spliced args) (fun vs s' => Q ⟨vs, []⟩ s') E s) :
    wpAny M A (evalArgs fv true args []) Q E s := by
  cases args with
  | nil =>
    unfold evalArgs
    show wpAny M A (spliced [] >>= _) Q E s
    refine wpAny_bind (wpAny_mono h (fun vs s' h' => ?_) fun _ _ x => x)
    refine wpAny_holding ?_
    exact wpAny_bind (wpAny_pure (wpAny_bind (wpAny_pure (wpAny_pure h'))))
  | cons p r =>
    obtain ⟨b, x⟩ := p
    rw [List.any_cons, Bool.or_eq_false_iff] at hp
    have : b = false := hp.1
    subst this
    exact Calls.evalArgs_plain h

theorem callWith_ok {M : Model} {fv : Value} {first : List Value} {es : List Expr} {env : Env} {pos : Pos} {Q : Value → Shared → Prop} {E : Value → Shared → Prop} {K : Frag} (hk : keepIn K fv = true) (hs : es.all noStar = true)
    (h : wpAny M A (spliced (backTo pos (starEach es env))) (fun vs s₁ => K.In s₁.heap ∧ wpAny M A (call fv (first ++ vs)) Q E s₁) E s) : wpAny M A (callWith pos fv first (backTo pos (starEach es env)) []) Q E s := by
  have hp : (backTo pos (starEach es env)).any (·.1) = false := by rw [backTo_map hs]; exact plain_any
  refine callWith_of (P := fun h => K.In h) (by rw [hp]; rfl) (keeps_K hk) (evalArgs_ok hp h)

/-- a method's call, whatever the method -/
theorem methCall_ok {M : Model} {o : Expr} {name : Str} {apos pos : Pos} {es : List Expr} {env : Env} {Q : Value → Shared → Prop} {E : Value → Shared → Prop} (hs : es.all noStar = true)
    (hn : es.length < 20) (ho : noCall o = true) (hp : (apos.endLine == pos.line) = true)
    (h : wpAny M A (eval o env) (fun ov s₁ => wpAny M A (getMethod ov name (do return (← importBound o env).getD true)) (fun fx s₂ => wpAny M A (callWith pos fx.1 fx.2 (backTo pos (starEach es env)) []) Q E s₂) E s₁) E s) :
    wpAny M A (eval (.Call (.Attribute o name apos) es [] pos) env) Q E s := by
  have e1 : attributeBase o name env (eval o env) = eval o env := by
    cases o <;> first | rfl | (exact absurd ho Bool.false_ne_true)
  have e2 : methodCallForm (es.length + ([] : List Keyword).length) (backTo pos (starEach es env)) (backToKw pos (keywordEach [] env)) = true := by
    rw [backTo_map hs]
    unfold methodCallForm
    have : (es.map fun e => ((false, eval e env) : Bool × Sem Value)).all (!·.1) = true := by simp
    rw [this]
    exact am rfl (decide_eq_true (by show es.length + 0 + 0 < 30; omega))
  show wpAny M A (do
    let ov ← attributeBase o name env (eval o env)
    standAt apos.atName
    methodCall o name apos pos env ov (es.length + ([] : List Keyword).length) (backTo pos (starEach es env)) (backToKw pos (keywordEach [] env))) Q E s
  rw [e1]
  refine wpAny_bind (wpAny_mono h (fun ov s₁ h₁ => wpAny_bind (wpAny_standAt ?_)) fun _ _ x => x)
  unfold methodCall calleeOf methodCallPos
  rw [e2]
  refine wpAny_bind (wpAny_holding ?_)
  rw [if_pos rfl]
  refine wpAny_mono h₁ (fun fx s₂ h₂ => ?_) fun _ _ x => x
  obtain ⟨g, first⟩ := fx
  dsimp only
  rw [hp]
  exact wpAny_bind (wpAny_pure h₂)

/-- what a call of the text leaves -/
theorem CallOK.use {fa : Addr} {vs : List AV} {ws : List Value} {Q : AV → Objs → Prop} (rm : Room n A) (R : Rel c f ⟨O, fr⟩ s) (rv : RVs (frz O f.H s.heap) ws vs) (h : CallOK c n fa vs O Q) :
    wpAny (model c.prog c.w) A (call (.ref fa) ws) (Post c f fr O s.heap Q) NoE s := by
  refine wpAny_call (codeAny_mono (h A s f.H ws rm R.ro rv) fun r s' z => ?_)
  rcases r with e | (_ | _ | _ | v)
  · exact z.elim
  · exact z.elim
  · exact z.elim
  · exact z.elim
  · obtain ⟨av, O', z1, z2, z3, z4⟩ := z
    exact ⟨av, O', z1, R.back z2 z3, z3.widen, z4⟩
end
end Mine

namespace Mine

noncomputable def PostT (c : Cx) (f : Frm) (fr : Nat → Option AV) (O₀ : Objs) (h₀ : Heap) (Q : Bool → Objs → Prop) : Bool → Shared → Prop :=
  fun b s' => ∃ O', Rel c f ⟨O', fr⟩ s' ∧ StepO f.F f.H O₀ h₀ O' s'.heap ∧ Q b O'
noncomputable def PostL (c : Cx) (f : Frm) (fr : Nat → Option AV) (O₀ : Objs) (h₀ : Heap) (Q : List AV → Objs → Prop) : List Value → Shared → Prop :=
  fun vs s' => ∃ l O', RVs (frz O' f.H s'.heap) vs l ∧ Rel c f ⟨O', fr⟩ s' ∧ StepO f.F f.H O₀ h₀ O' s'.heap ∧ Q l O'

section
variable {A : Around} {s : Shared} {c : Cx} {f : Frm} {fr : Nat → Option AV} {O : Objs} {n : Nat}

theorem PostT.step {O₀ O₁ : Objs} {h₀ h₁ : Heap} {Q : Bool → Objs → Prop} {v : Bool} {s' : Shared} (st : StepO f.F f.H O₀ h₀ O₁ h₁) (p : PostT c f fr O₁ h₁ Q v s') : PostT c f fr O₀ h₀ Q v s' :=
  let ⟨O', a2, a3, a4⟩ := p; ⟨O', a2, st.trans a3, a4⟩
theorem PostL.step {O₀ O₁ : Objs} {h₀ h₁ : Heap} {Q : List AV → Objs → Prop} {v : List Value} {s' : Shared} (st : StepO f.F f.H O₀ h₀ O₁ h₁) (p : PostL c f fr O₁ h₁ Q v s') : PostL c f fr O₀ h₀ Q v s' :=
  let ⟨b, O', a1, a2, a3, a4⟩ := p; ⟨b, O', a1, a2, st.trans a3, a4⟩
theorem PostT.now {Q : Bool → Objs → Prop} {b : Bool} (R : Rel c f ⟨O, fr⟩ s) (t : Nat) (q : Q b O) : PostT c f fr O s.heap Q b { s with toks := t } := ⟨O, R.toks t, .refl _ _ _ _, q⟩

theorem EE {t : Sem Value} {k : Value → Shared → Prop} {Q₁ : AV → Objs → Prop} (h : wpAny (model c.prog c.w) A t (Post c f fr O s.heap Q₁) NoE s)
    (g : ∀ v s₁ x O₁, RV (frz O₁ f.H s₁.heap) v x → Rel c f ⟨O₁, fr⟩ s₁ → StepO f.F f.H O s.heap O₁ s₁.heap → Q₁ x O₁ → k v s₁) : wpAny (model c.prog c.w) A t k NoE s :=
  wpAny_mono h (fun v s₁ ⟨x, O₁, a1, a2, a3, a4⟩ => g v s₁ x O₁ a1 a2 a3 a4) fun _ _ x => x
theorem TT {t : Sem Bool} {k : Bool → Shared → Prop} {Q₁ : Bool → Objs → Prop} (h : wpAny (model c.prog c.w) A t (PostT c f fr O s.heap Q₁) NoE s)
    (g : ∀ b s₁ O₁, Rel c f ⟨O₁, fr⟩ s₁ → StepO f.F f.H O s.heap O₁ s₁.heap → Q₁ b O₁ → k b s₁) : wpAny (model c.prog c.w) A t k NoE s :=
  wpAny_mono h (fun v s₁ ⟨O₁, a2, a3, a4⟩ => g v s₁ O₁ a2 a3 a4) fun _ _ x => x
theorem LL {t : Sem (List Value)} {k : List Value → Shared → Prop} {Q₁ : List AV → Objs → Prop} (h : wpAny (model c.prog c.w) A t (PostL c f fr O s.heap Q₁) NoE s)
    (g : ∀ v s₁ x O₁, RVs (frz O₁ f.H s₁.heap) v x → Rel c f ⟨O₁, fr⟩ s₁ → StepO f.F f.H O s.heap O₁ s₁.heap → Q₁ x O₁ → k v s₁) : wpAny (model c.prog c.w) A t k NoE s :=
  wpAny_mono h (fun v s₁ ⟨x, O₁, a1, a2, a3, a4⟩ => g v s₁ x O₁ a1 a2 a3 a4) fun _ _ x => x
theorem stepE {t : Sem Value} {O₀ : Objs} {h₀ : Heap} {Q : AV → Objs → Prop} (st : StepO f.F f.H O₀ h₀ O s.heap) (h : wpAny (model c.prog c.w) A t (Post c f fr O s.heap Q) NoE s) : wpAny (model c.prog c.w) A t (Post c f fr O₀ h₀ Q) NoE s :=
  wpAny_mono h (fun _ _ x => x.step st) fun _ _ x => x
theorem stepT {t : Sem Bool} {O₀ : Objs} {h₀ : Heap} {Q : Bool → Objs → Prop} (st : StepO f.F f.H O₀ h₀ O s.heap) (h : wpAny (model c.prog c.w) A t (PostT c f fr O s.heap Q) NoE s) : wpAny (model c.prog c.w) A t (PostT c f fr O₀ h₀ Q) NoE s :=
  wpAny_mono h (fun _ _ x => x.step st) fun _ _ x => x
theorem stepL {t : Sem (List Value)} {O₀ : Objs} {h₀ : Heap} {Q : List AV → Objs → Prop} (st : StepO f.F f.H O₀ h₀ O s.heap) (h : wpAny (model c.prog c.w) A t (PostL c f fr O s.heap Q) NoE s) : wpAny (model c.prog c.w) A t (PostL c f fr O₀ h₀ Q) NoE s :=
  wpAny_mono h (fun _ _ x => x.step st) fun _ _ x => x
theorem truA_of {v : Value} {x : AV} {g : Fz} {P : Bool → Prop} (rv : RV g v x) (h : truA x P) : ∃ b, v = .bool b ∧ x = .bool b ∧ P b := by
  unfold truA at h
  split at h
  · cases rv; exact ⟨_, rfl, rfl, h⟩
  · exact h.elim

theorem Room.lt {k : Nat} (rm : Room n A) (h : k ≤ 50) : A.units + k < cLine := by
  have := rm.un
  have : cLine = 9900 := by decide +kernel
  omega

theorem callWith_val {M : Model} {fv : Value} {first : List Value} {es : List Expr} {env : Env} {pos : Pos} {Q : Value → Shared → Prop} {E : Value → Shared → Prop} (hk : keeperOf fv = pure .machine) (hs : es.all noStar = true)
    (h : wpAny M A (spliced (backTo pos (starEach es env))) (fun vs s₁ => wpAny M A (call fv (first ++ vs)) Q E s₁) E s) : wpAny M A (callWith pos fv first (backTo pos (starEach es env)) []) Q E s := by
  have hp : (backTo pos (starEach es env)).any (·.1) = false := by rw [backTo_map hs]; exact plain_any
  refine callWith_of (P := fun _ => True) (by rw [hp]; rfl) (fun h _ => ⟨.machine, .inr (.inl rfl), Looks.of_pure hk⟩) (evalArgs_ok hp (wpAny_mono h (fun _ _ x => ⟨trivial, x⟩) fun _ _ x => x))

theorem chkL_cons {K : Frag} {l : X} {sc : Scope} {e : Expr} {es : List Expr} (q : chkL K l sc (e :: es) = true) : ∃ h t, l = .cons h t ∧ noStar e = true ∧ chkE K h sc e = true ∧ chkL K t sc es = true := by
  cases l with
  | cons h t => exact ⟨h, t, rfl, (an q).1, (an (an q).2).1, (an (an q).2).2⟩
  | _ => exact (Bool.false_ne_true q).elim
theorem chkL_star {K : Frag} {l : X} {sc : Scope} {es : List Expr} (q : chkL K l sc es = true) : es.all noStar = true := by
  induction es generalizing l with
  | nil => rfl
  | cons e es ih =>
    obtain ⟨h, t, rfl, a, _, b⟩ := chkL_cons q
    exact am a (ih b)

theorem eval_call_name {M : Model} {x : Str} {xp pos : Pos} {es : List Expr} {env : Env} {Q : Value → Shared → Prop} {E : Value → Shared → Prop}
    (h : wpAny M A (eval (.Name x xp) env) (fun fv s₁ => wpAny M A (callWith pos fv [] (backTo pos (starEach es env)) []) Q E s₁) E s) : wpAny M A (eval (.Call (.Name x xp) es [] pos) env) Q E s := by
  show wpAny M A (eval (.Name x xp) env >>= fun fv => callWith pos fv [] (backTo pos (starEach es env)) []) Q E s
  exact wpAny_bind h

theorem getMethod_list {name : Str} {id : String} {pl : Sem Bool} {v : Value} {x : AV} {Q : Value × List Value → Shared → Prop} (slot : Slot "list" name id) (hty : typeOf (.builtin id) = pure (.type "method_descriptor"))
    (R : Rel c f ⟨O, fr⟩ s) (rv : RV (frz O f.H s.heap) v x) (l : lstA O x) (h : ∀ a, v = .ref a → Q (.builtin id, [.ref a]) s) : wpAny (model c.prog c.w) A (getMethod v name pl) Q NoE s := by
  obtain ⟨a, e1, l, e⟩ := oP_of l
  cases asRef_of e1; cases rv
  obtain ⟨vs, m, h1, h2, h3⟩ := list_at R e
  exact getMethod_builtin ⟨_, h1, rfl⟩ F.plainAttrs_list slot hty (fun b q => by cases q; exact ⟨_, h1, rfl⟩) (h _ rfl)
theorem dct_is {prog : Program} {w : World} {K : Type} [DecidableEq K] {kd : PySem.KeyKind prog w K} {h : Heap} {a : Addr} {kvs : List (K × Value)} (D : h.DictOf kd a kvs) : ∃ es ep, h.get? a = some { cls := .type "dict", data := .dict es ep } := by
  obtain ⟨⟨oc, od, odt, osl⟩, es, ep, h1, ⟨x1, x2, x3⟩, h3, _⟩ := D
  cases x1; cases x2; cases x3; cases h3
  exact ⟨_, _, h1⟩
theorem dctA_is {v : Value} {x : AV} (R : Rel c f ⟨O, fr⟩ s) (rv : RV (frz O f.H s.heap) v x) (l : dctA O x) : ∃ a es ep, v = .ref a ∧ s.heap.get? a = some { cls := .type "dict", data := .dict es ep } := by
  obtain ⟨a, e1, l⟩ := oP_of l
  cases asRef_of e1; cases rv
  rcases l with ⟨l, e⟩ | ⟨l, e⟩ | ⟨l, e⟩
  · obtain ⟨_, kvs, D, _⟩ := R.ro.objs _ _ e
    obtain ⟨es, ep, h⟩ := dct_is D
    exact ⟨a, es, ep, rfl, h⟩
  · obtain ⟨_, kvs, D, _⟩ := R.ro.objs _ _ e
    obtain ⟨es, ep, h⟩ := dct_is D
    exact ⟨a, es, ep, rfl, h⟩
  · obtain ⟨_, xs, es, ep, h1, _⟩ := R.ro.objs _ _ e
    exact ⟨a, es, ep, rfl, h1⟩
theorem getMethod_dct {name : Str} {id : String} {pl : Sem Bool} {v : Value} {x : AV} {Q : Value × List Value → Shared → Prop} (slot : Slot "dict" name id) (hty : typeOf (.builtin id) = pure (.type "method_descriptor"))
    (R : Rel c f ⟨O, fr⟩ s) (rv : RV (frz O f.H s.heap) v x) (l : dctA O x) (h : ∀ a, v = .ref a → Q (.builtin id, [.ref a]) s) : wpAny (model c.prog c.w) A (getMethod v name pl) Q NoE s := by
  obtain ⟨a, es, ep, rfl, h1⟩ := dctA_is R rv l
  exact getMethod_builtin ⟨_, h1, rfl⟩ F.plainAttrs_dict slot hty (fun b q => by cases q; exact ⟨_, h1, rfl⟩) (h _ rfl)
theorem getMethod_set {name : Str} {id : String} {pl : Sem Bool} {v : Value} {x : AV} {Q : Value × List Value → Shared → Prop} (slot : Slot "set" name id) (hty : typeOf (.builtin id) = pure (.type "method_descriptor"))
    (R : Rel c f ⟨O, fr⟩ s) (rv : RV (frz O f.H s.heap) v x) (l : setA O x) (h : ∀ a, v = .ref a → Q (.builtin id, [.ref a]) s) : wpAny (model c.prog c.w) A (getMethod v name pl) Q NoE s := by
  obtain ⟨a, e1, l, e⟩ := oP_of l
  cases asRef_of e1; cases rv
  have S := set_at R e
  exact getMethod_builtin S.typeIs F.plainAttrs_set slot hty S.noDict (h _ rfl)
end
end Mine

namespace Mine

/-! own objects: hide some dead addresses, leave them -/
theorem RelO.enter {c : Cx} {H L : List Addr} {O : Objs} {s : Shared} (R : RelO c H O s) {h' : Heap} (k : ∀ b o, s.heap.get? b = some o → h'.get? b = some o) (d : ∀ b ∈ L, s.heap.get? b = none) (al : ∀ b ∈ L, ∃ o, h'.get? b = some o) (t : Nat) :
    RelO c (L ++ H) O { s with heap := h', toks := t } := by
  have fz : FzLe (frz O H s.heap) (frz O (L ++ H) h') := fun b o e => by
    obtain ⟨e1, e2, e3⟩ := frz_some.mp e
    refine frz_some.mpr ⟨e1, fun m => ?_, k _ _ e3⟩
    rcases List.mem_append.mp m with m | m
    · rw [d b m] at e3; cases e3
    · exact e2 m
  refine ⟨fun b o e => ?_, fun b m => ?_, fun a mo e => (R.objs a mo e).keeps fz k, R.gens, R.os⟩
  · obtain ⟨e1, e2, e3⟩ := R.base b o e
    refine ⟨k _ _ e1, e2, fun m => ?_⟩
    rcases List.mem_append.mp m with m | m
    · rw [d b m] at e1; cases e1
    · exact e3 m
  · rcases List.mem_append.mp m with m | m
    · exact ⟨(R.dead (d b m)).1, al b m⟩
    · obtain ⟨e1, o, e2⟩ := R.hid b m; exact ⟨e1, o, k _ _ e2⟩
theorem frz_wide {O : Objs} {H L : List Addr} {h : Heap} : FzLe (frz O (L ++ H) h) (frz O H h) := fun b o e => by
  obtain ⟨e1, e2, e3⟩ := frz_some.mp e
  exact frz_some.mpr ⟨e1, fun m => e2 (List.mem_append_right _ m), e3⟩
theorem RelO.unhide {c : Cx} {H L : List Addr} {O : Objs} {s : Shared} (R : RelO c (L ++ H) O s) : RelO c H O s :=
  ⟨fun b o e => let ⟨e1, e2, e3⟩ := R.base b o e; ⟨e1, e2, fun m => e3 (List.mem_append_right _ m)⟩, fun b m => R.hid b (List.mem_append_right _ m),
    fun a mo e => (R.objs a mo e).same frz_wide rfl, R.gens, R.os⟩
theorem StepO.unhide {F H L : List Addr} {O O' : Objs} {h₀ h' h'' : Heap} (st : StepO F (L ++ H) O h' O' h'') (d : ∀ b ∈ L, h₀.get? b = none) (k : ∀ b o, h₀.get? b = some o → h'.get? b = some o) :
    StepO F H O h₀ O' h'' := by
  refine ⟨fun b o e => ?_, fun b m nf o e => st.hid b (List.mem_append_right _ m) nf o (k _ _ e)⟩
  obtain ⟨e1, e2, e3⟩ := frz_some.mp e
  refine frz_wide _ _ (st.fz b o (frz_some.mpr ⟨e1, fun m => ?_, k _ _ e3⟩))
  rcases List.mem_append.mp m with m | m
  · rw [d b m] at e3; cases e3
  · exact e2 m
theorem StepO.noOwn {F H : List Addr} {O O' : Objs} {h h' : Heap} {c : Cx} {s : Shared} (st : StepO F H O h O' h') (nf : ∀ b ∈ F, b ∉ H) : StepO [] H O h O' h' :=
  ⟨st.fz, fun b m _ o e => st.hid b m (fun x => nf b x m) o e⟩

/-- only hidden objects change -/
theorem frz_own {O : Objs} {H : List Addr} {h h' : Heap} (k : ∀ b o, b ∉ H → h.get? b = some o → h'.get? b = some o) : FzLe (frz O H h) (frz O H h') := fun b o e => by
  obtain ⟨e1, e2, e3⟩ := frz_some.mp e
  exact frz_some.mpr ⟨e1, e2, k _ _ e2 e3⟩
theorem RelO.own {c : Cx} {H : List Addr} {O : Objs} {s : Shared} (R : RelO c H O s) {h' : Heap} (k : ∀ b o, b ∉ H → s.heap.get? b = some o → h'.get? b = some o) (al : ∀ b ∈ H, ∃ o, h'.get? b = some o) (t : Nat) : RelO c H O { s with heap := h', toks := t } := by
  refine ⟨fun b o e => ?_, fun b m => ⟨(R.hid b m).1, al b m⟩, fun a mo e => ?_, R.gens, R.os⟩
  · obtain ⟨e1, e2, e3⟩ := R.base b o e
    exact ⟨k _ _ e3 e1, e2, e3⟩
  · have x := R.objs a mo e
    obtain ⟨o, eo⟩ := x.alive
    have na : a ∉ H := fun m => by rw [(R.hid a m).1] at e; cases e
    exact x.same (frz_own k) ((k _ _ na eo).trans eo.symm)

section
variable {A : Around} {s : Shared} {c : Cx} {f : Frm} {fr : Nat → Option AV} {O : Objs} {n : Nat}

noncomputable def hide (f : Frm) (L : List Addr) : Frm := { f with H := L ++ f.H }
theorem Rel.hide (R : Rel c f ⟨O, fr⟩ s) {L : List Addr} {h' : Heap} (k : ∀ b o, s.heap.get? b = some o → h'.get? b = some o) (d : ∀ b ∈ L, s.heap.get? b = none) (al : ∀ b ∈ L, ∃ o, h'.get? b = some o) (t : Nat) :
    Rel c (hide f L) ⟨O, fr⟩ { s with heap := h', toks := t } := by
  have fz : FzLe (frz O f.H s.heap) (frz O (L ++ f.H) h') := fun b o e => by
    obtain ⟨e1, e2, e3⟩ := frz_some.mp e
    refine frz_some.mpr ⟨e1, fun m => ?_, k _ _ e3⟩
    rcases List.mem_append.mp m with m | m
    · rw [d b m] at e3; cases e3
    · exact e2 m
  have x := R.fo.same (h' := h') fun b _ o e => k b o e
  refine ⟨R.ro.enter k d al t, ⟨fun b m => List.mem_append_right _ (x.sub b m), x.loc, x.ns, x.cel, x.inj, x.nf, x.kd, x.gl, x.bl⟩, fun i av e => ?_⟩
  have nn := (R.vars i av e).same (h' := h') fz R.fo.loc (fun b _ o e => k b o e) fun b _ _ o e => k b o e
  rcases nn with ⟨k1, z⟩ | ⟨k1, ca, v, a1, a2, a3, a4⟩
  · exact .inl ⟨k1, z⟩
  · exact .inr ⟨k1, ca, v, a1, List.mem_append_right _ a2, a3, a4⟩
theorem Rel.unhide {σ : St} {L : List Addr} (R : Rel c (Mine.hide f L) σ s) (hs : ∀ b ∈ f.F, b ∈ f.H) (hc : ∀ i av, σ.fr i = some av → ∀ ca, (f.env.kindOf (nm i) = some .cell ∨ f.env.kindOf (nm i) = some .free) → f.env.cells.lookup (nm i) = some ca → ca ∈ f.H) : Rel c f σ s := by
  have x := R.fo
  refine ⟨R.ro.unhide, ⟨hs, x.loc, x.ns, x.cel, x.inj, x.nf, x.kd, x.gl, x.bl⟩, fun i av e => ?_⟩
  rcases R.vars i av e with ⟨k1, mc, v, z1, z2, z3⟩ | ⟨k1, ca, v, a1, a2, a3, a4⟩
  · exact .inl ⟨k1, mc, v, z1, z2, z3.mono frz_wide⟩
  · exact .inr ⟨k1, ca, v, a1, hc i av e ca k1 a1, a3, a4.mono frz_wide⟩

/-! iterators -/
noncomputable def IterAt (h : Heap) (g : Fz) (I : Addr) : AV → Nat → Prop
  | .ref a, i => h.IsListIter I a i
  | .tup l, i => ∃ t vs n, g t = some { cls := .type "tuple", data := .seq vs n } ∧ RVs g vs.toList l ∧ h.IsTupleIter I t i
  | .rng a b st, i => IsRangeIter h I (a + (i : Int) * st) (Builtin.Range.rangeSize a b st - i) st
  | _, _ => False

theorem IterAt.same {h h' : Heap} {g g' : Fz} {I : Addr} (k : FzLe g g') (e : ∀ o, h.get? I = some o → h'.get? I = some o) {x : AV} {i : Nat} (it : IterAt h g I x i) : IterAt h' g' I x i := by
  cases x with
  | ref a => obtain ⟨o, ho, r⟩ := it; exact ⟨o, e _ ho, r⟩
  | tup l => obtain ⟨t, vs, n, h1, h2, o, ho, r⟩ := it; exact ⟨t, vs, n, k _ _ h1, h2.mono k, o, e _ ho, r⟩
  | rng a b st => exact e _ it
  | _ => exact False.elim it

theorem size_rng (a b st : Int) : (rngL a b st).length = (Builtin.Range.rangeSize a b st).toNat := by unfold rngL; simp

theorem small_rng {a b st : Int} (h1 : okR a = true) (h2 : okR b = true) (h3 : okR st = true) (h4 : st ≠ 0) : Builtin.Range.small a b st = true ∧ 0 ≤ Builtin.Range.rangeSize a b st := by
  have b1 := okR_of h1
  have b2 := okR_of h2
  have b3 := okR_of h3
  have key : 0 ≤ Builtin.Range.rangeSize a b st ∧ Builtin.Range.rangeSize a b st < 2 ^ 42 := by
    unfold Builtin.Range.rangeSize
    split
    · split
      · have := Int.ediv_le_self (a := b - a - 1) st (by omega)
        have := Int.ediv_nonneg (a := b - a - 1) (b := st) (by omega) (by omega)
        omega
      · omega
    · split
      · have := Int.ediv_le_self (a := a - b - 1) (-st) (by omega)
        have := Int.ediv_nonneg (a := a - b - 1) (b := -st) (by omega) (by omega)
        omega
      · omega
  refine ⟨?_, key.1⟩
  have fl : ∀ x : Int, -(2 ^ 62) < x → x < 2 ^ 62 → Builtin.Range.rangeFitsLong x = true := fun x p q => by
    unfold Builtin.Range.rangeFitsLong
    simp only [Bool.and_eq_true, decide_eq_true_eq]
    omega
  unfold Builtin.Range.small
  simp only [Bool.and_eq_true, Bool.or_eq_true, beq_iff_eq]
  refine ⟨⟨⟨⟨fl _ (by omega) (by omega), fl _ (by omega) (by omega)⟩, fl _ (by omega) (by omega)⟩, fl _ (by omega) (by omega)⟩, .inr ?_⟩
  split
  · exact fl _ (by omega) (by omega)
  · exact fl _ (by omega) (by omega)

theorem iter_start {v : Value} {x : AV} {full : List AV} {Q : Value → Shared → Prop} (R : Rel c f ⟨O, fr⟩ s) (rv : RV (frz O f.H s.heap) v x) (e : seqOf O x = some full)
    (h : ∀ o, IterAt (s.heap.push o) (frz O f.H s.heap) s.heap.objs.size x 0 → Q (.ref s.heap.objs.size) { s with heap := s.heap.push o }) : wpAny (model c.prog c.w) A (pyIter v) Q NoE s := by
  unfold seqOf at e
  split at e
  · cases rv
    split at e
    · rename_i l el
      obtain ⟨vs, m, h1, h2, h3⟩ := list_at R el
      exact wpAny_pyIter_list (IsL.isList h1) (h _ ⟨_, Heap.get?_push_size _ rfl, rfl, rfl⟩)
    · cases e
  · cases rv with | tup h1 h2 =>
    have hg := frz_in O f.H s.heap
    exact wpAny_pyIter_tuple ⟨_, hg _ _ h1, rfl, _, rfl⟩ (h _ ⟨_, _, _, h1, h2, ⟨_, Heap.get?_push_size _ rfl, rfl, rfl⟩⟩)
  · split at e
    · rename_i q
      cases rv with | rng h1 =>
      have hg := frz_in O f.H s.heap
      refine wpAny_pyIter_range (hg _ _ h1) (small_rng q.1 q.2.1 q.2.2.1 q.2.2.2).1 (h _ ?_)
      have : ∀ (a b st : Int), IsRangeIter (s.heap.push { cls := .type "range_iterator", data := .fields #[rawInt a, rawInt (Builtin.Range.rangeSize a b st), rawInt st] }) s.heap.objs.size (a + ((0 : Nat) : Int) * st) (Builtin.Range.rangeSize a b st - ((0 : Nat) : Int)) st := fun a b st => by
        have e1 : a + ((0 : Nat) : Int) * st = a := by simp
        have e2 : Builtin.Range.rangeSize a b st - ((0 : Nat) : Int) = Builtin.Range.rangeSize a b st := by simp
        rw [e1, e2]
        exact Heap.get?_push_size _ rfl
      exact this _ _ _
    · cases e
  · cases e

theorem iter_next {H : List Addr} {x : AV} {full : List AV} {I : Addr} {i : Nat} {Q : Option Value → Shared → Prop} (hh : A.handled = none) (R : RelO c H O s) (hI : I ∈ H) (it : IterAt s.heap (frz O H s.heap) I x i) (e : seqOf O x = some full) (hi : i ≤ full.length)
    (hend : i = full.length → ∀ h', (∀ b o, b ≠ I → s.heap.get? b = some o → h'.get? b = some o) → Q none { s with heap := h' })
    (hnext : ∀ v y h' t, full[i]? = some y → RV (frz O H h') v y → (∀ b o, b ≠ I → s.heap.get? b = some o → h'.get? b = some o) → (∃ o, h'.get? I = some o) → IterAt h' (frz O H h') I x (i + 1) → Q (some v) { s with heap := h', toks := t }) :
    wpAny (model c.prog c.w) A (pyNext (.ref I)) Q NoE s := by
  have fz : ∀ {h'}, (∀ b o, b ≠ I → s.heap.get? b = some o → h'.get? b = some o) → FzLe (frz O H s.heap) (frz O H h') := fun k => frz_own fun b o nb e => k b o (fun q => nb (q ▸ hI)) e
  unfold seqOf at e
  split at e
  · split at e
    · rename_i a l el
      cases e
      obtain ⟨vs, m, h1, h2⟩ := R.objs _ _ el
      have h3 := h2.length
      by_cases q : i = full.length
      · refine wpAny_pyNext_list_end hh it (IsL.isList h1) (by rw [Array.getElem?_eq_none_iff]; rw [Array.length_toList] at h3; omega) fun h' k => ?_
        exact hend q h' fun b o nb e => k b o nb e
      · obtain ⟨y, hy⟩ : ∃ y, full[i]? = some y := ⟨full[i]'(by omega), List.getElem?_eq_getElem _⟩
        obtain ⟨v, hv, rv⟩ := h2.get hy
        refine wpAny_pyNext_list_item it (IsL.isList h1) (by rw [← Array.getElem?_toList]; exact hv) fun h' it' k => ?_
        have k' : ∀ b o, b ≠ I → s.heap.get? b = some o → h'.get? b = some o := fun b o nb e => (k.2 b nb).trans e
        have al : ∃ o, h'.get? I = some o := let ⟨o, ho, _⟩ := it'; ⟨o, ho⟩
        exact hnext v y h' s.toks hy (rv.mono (fz k')) k' al it'
    · cases e
  · rename_i l
    cases e
    obtain ⟨t, vs, m, h1, h2, it⟩ := it
    have hg := frz_in O H s.heap
    have h3 := h2.length
    by_cases q : i = full.length
    · refine wpAny_pyNext_tuple_end hh it ⟨_, hg _ _ h1, rfl, _, rfl⟩ (by rw [Array.getElem?_eq_none_iff]; rw [Array.length_toList] at h3; omega) fun h' k => ?_
      exact hend q h' fun b o nb e => k b o nb e
    · obtain ⟨y, hy⟩ : ∃ y, full[i]? = some y := ⟨full[i]'(by omega), List.getElem?_eq_getElem _⟩
      obtain ⟨v, hv, rv⟩ := h2.get hy
      refine wpAny_pyNext_tuple_item it ⟨_, hg _ _ h1, rfl, _, rfl⟩ (by rw [← Array.getElem?_toList]; exact hv) fun h' it' k => ?_
      have k' : ∀ b o, b ≠ I → s.heap.get? b = some o → h'.get? b = some o := fun b o nb e => (k.2 b nb).trans e
      have al : ∃ o, h'.get? I = some o := let ⟨o, ho, _⟩ := it'; ⟨o, ho⟩
      exact hnext v y h' s.toks hy (rv.mono (fz k')) k' al ⟨t, vs, m, fz k' _ _ h1, h2.mono (fz k'), it'⟩
  · split at e
    · rename_i a b st z
      cases e
      have nn := (small_rng z.1 z.2.1 z.2.2.1 z.2.2.2).2
      have sz := size_rng a b st
      have it' : IsRangeIter s.heap I (a + (i : Int) * st) (Builtin.Range.rangeSize a b st - i) st := it
      by_cases q : i = (rngL a b st).length
      · refine wpAny_pyNext_range_end hh it' (by omega) fun h' k => ?_
        exact hend q h' fun b o nb e => k b o nb e
      · refine wpAny_pyNext_range_item it' (by omega) fun h' it2 k => ?_
        have k' : ∀ b o, b ≠ I → s.heap.get? b = some o → h'.get? b = some o := fun b o nb e => (k.2 b nb).trans e
        refine hnext _ (.int (a + (i : Int) * st)) h' _ ?_ .int k' ⟨_, it2⟩ ?_
        · unfold rngL
          rw [List.getElem?_map, List.getElem?_range (by omega)]
          rfl
        · have e1 : a + ((i + 1 : Nat) : Int) * st = a + (i : Int) * st + st := by push_cast; rw [Int.add_mul, Int.one_mul]; omega
          have e2 : Builtin.Range.rangeSize a b st - ((i + 1 : Nat) : Int) = Builtin.Range.rangeSize a b st - (i : Int) - 1 := by push_cast; omega
          show IsRangeIter h' I (a + ((i + 1 : Nat) : Int) * st) (Builtin.Range.rangeSize a b st - ((i + 1 : Nat) : Int)) st
          rw [e1, e2]; exact it2
    · cases e
  · cases e
end
end Mine

namespace Mine

section
variable {A : Around} {s : Shared} {c : Cx} {f : Frm} {fr : Nat → Option AV} {O : Objs} {n : Nat}

theorem cell_not_ns {h : Heap} {a : Addr} {v : Option Value} {m : Str → Option Value} (x : h.IsCell a v) (y : h.Ns a m) : False := by
  obtain ⟨o, e1, e2⟩ := x
  obtain ⟨o', es, ep, e3, e4, _⟩ := y
  rw [e1] at e3; cases e3
  rw [e2] at e4; cases e4

theorem store_ok {i : Nat} {w : Value} {av : AV} {Q : Unit → Shared → Prop} (hst : f.st = true) (hk : f.env.kindOf (nm i) = some .local ∨ f.env.kindOf (nm i) = some .cell) (R : Rel c f ⟨O, fr⟩ s) (rv : RV (frz O f.H s.heap) w av)
    (q : ∀ s', Rel c f ⟨O, setf fr i av⟩ s' → StepO f.F f.H O s.heap O s'.heap → Q () s') : wpAny (model c.prog c.w) A (storeName f.env (nm i) w) Q NoE s := by
  obtain ⟨mc, ns⟩ := R.fo.ns
  have locH := R.fo.sub _ R.fo.loc
  have fin : ∀ (a : Addr) (h' : Heap) (t : Nat), a ∈ f.F → (∀ b, b ≠ a → h'.get? b = s.heap.get? b) → (∃ o, h'.get? a = some o) →
      (∃ mc, h'.Ns f.env.locals mc) → (∀ x ca v, f.env.kindOf x = some .cell → f.env.cells.lookup x = some ca → s.heap.IsCell ca v → ∃ v', h'.IsCell ca v') →
      (∀ j av', j ≠ i → fr j = some av' → NameAt f h' (frz O f.H h') (nm j) av') → NameAt f h' (frz O f.H h') (nm i) av →
      Rel c f ⟨O, setf fr i av⟩ { s with heap := h', toks := t } ∧ StepO f.F f.H O s.heap O h' := by
    intro a h' t ha hs al hns hcel hot hme
    have haH := R.fo.sub _ ha
    have k : ∀ b o, b ∉ f.H → s.heap.get? b = some o → h'.get? b = some o := fun b o nb e => (hs b (fun q => nb (q ▸ haH))).trans e
    have alH : ∀ b ∈ f.H, ∃ o, h'.get? b = some o := fun b m => by
      by_cases q : b = a
      · rw [q]; exact al
      · obtain ⟨_, o, e⟩ := R.ro.hid b m; exact ⟨o, (hs b q).trans e⟩
    refine ⟨⟨R.ro.own k alH t, ⟨R.fo.sub, R.fo.loc, hns, fun z x kx => ?_, R.fo.inj, R.fo.nf, R.fo.kd, R.fo.gl, R.fo.bl⟩, fun j av' e => ?_⟩, ⟨frz_own k, fun b m nf o e => (hs b fun q => nf (q ▸ ha)).trans e⟩⟩
    · obtain ⟨ca, v, e1, e2, e3, e4⟩ := R.fo.cel z x kx
      obtain ⟨v', e5⟩ := hcel x ca v kx e1 e4
      exact ⟨ca, v', e1, e2, e3, e5⟩
    · by_cases q : j = i
      · subst q; have e' : (if j = j then some av else fr j) = some av' := e; rw [if_pos rfl] at e'; cases e'; exact hme
      · have e' : (if j = i then some av else fr j) = some av' := e; rw [if_neg q] at e'; exact hot j av' q e'
  rcases hk with hl | hl
  · refine wpAny_storeName_local hl ns (fun h' n' hs' => ?_) (by rw [R.fo.kd]; rfl)
    have al : ∃ o, h'.get? f.env.locals = some o := let ⟨o, _, _, e, _⟩ := n'; ⟨o, e⟩
    have fz : FzLe (frz O f.H s.heap) (frz O f.H h') := frz_own fun b o nb e => (hs'.2 b (fun q => nb (q ▸ locH))).trans e
    obtain ⟨a, b⟩ := fin f.env.locals h' (s.toks + 1) R.fo.loc (fun b nb => hs'.2 b nb) al ⟨_, n'⟩
      (fun x ca v kx e1 e2 => ⟨v, let ⟨o, e3, e4⟩ := e2; ⟨o, (hs'.2 _ (fun q => cell_not_ns e2 (q ▸ ns))).trans e3, e4⟩⟩)
      (fun j av' nj e => by
        rcases R.vars j av' e with ⟨k1, mc', v, z1, z2, z3⟩ | ⟨k1, ca, v, z1, z2, z3, z4⟩
        · refine .inl ⟨k1, _, v, n', ?_, z3.mono fz⟩
          have : mc' = mc := by rw [Heap.Ns.eq_nsMap z1, Heap.Ns.eq_nsMap ns]
          subst this
          rw [if_neg (fun q => nj (nm_inj _ _ q))]; exact z2
        · refine .inr ⟨k1, ca, v, z1, z2, ?_, z4.mono fz⟩
          obtain ⟨o, e3, e4⟩ := z3
          exact ⟨o, (hs'.2 _ (fun q => cell_not_ns ⟨o, e3, e4⟩ (q ▸ ns))).trans e3, e4⟩)
      (.inl ⟨hl, _, w, n', if_pos rfl, rv.mono fz⟩)
    exact q _ a b
  · obtain ⟨ca, v0, e1, e2, e3, e4⟩ := R.fo.cel hst _ hl
    have caH := R.fo.sub _ e2
    refine wpAny_storeName_cell R.fo.kd hl e1 e4 fun h' hc' hs' => ?_
    have al : ∃ o, h'.get? ca = some o := let ⟨o, e, _⟩ := hc'; ⟨o, e⟩
    have fz : FzLe (frz O f.H s.heap) (frz O f.H h') := frz_own fun b o nb e => (hs'.2 b (fun q => nb (q ▸ caH))).trans e
    have ns' : ∀ {m}, s.heap.Ns f.env.locals m → h'.Ns f.env.locals m := fun {m} n => n.sameBut hs' (Ne.symm e3)
    obtain ⟨a, b⟩ := fin ca h' s.toks e2 (fun b nb => hs'.2 b nb) al ⟨_, ns' ns⟩
      (fun x ca' v kx e5 e6 => by
        by_cases qq : ca' = ca
        · exact ⟨_, qq ▸ hc'⟩
        · obtain ⟨o, e7, e8⟩ := e6; exact ⟨v, o, (hs'.2 _ qq).trans e7, e8⟩)
      (fun j av' nj e => by
        rcases R.vars j av' e with ⟨k1, mc', v, z1, z2, z3⟩ | ⟨k1, ca', v, z1, z2, z3, z4⟩
        · exact .inl ⟨k1, mc', v, ns' z1, z2, z3.mono fz⟩
        · refine .inr ⟨k1, ca', v, z1, z2, ?_, z4.mono fz⟩
          have ne : ca' ≠ ca := by
            rintro rfl
            rcases k1 with k1 | k1
            · exact nj (nm_inj _ _ (R.fo.inj hst _ _ _ k1 hl z1 e1))
            · exact R.fo.nf hst _ k1
          obtain ⟨o, e5, e6⟩ := z3
          exact ⟨o, (hs'.2 _ ne).trans e5, e6⟩)
      (.inr ⟨.inl hl, ca, w, e1, caH, hc', rv.mono fz⟩)
    exact q _ a b

/-! comprehension: the frame -/
theorem cellsFrom_other {x : Str} {names : List (Str × NameKind)} {m : Nat} {acc : List (Str × Addr)} (h : ∀ k, (x, k) ∈ names → k ≠ .cell) : (cellsFrom m names acc).lookup x = acc.lookup x := by
  induction names generalizing m acc with
  | nil => rfl
  | cons p r ih =>
    obtain ⟨y, k⟩ := p
    unfold cellsFrom
    have hr : ∀ k, (x, k) ∈ r → k ≠ .cell := fun k q => h k (List.mem_cons_of_mem _ q)
    split
    · rename_i q
      have : (x == y) = false := beq_eq_false_iff_ne.mpr fun e => h k (e ▸ List.mem_cons_self) (eq_of_beq q)
      rw [ih hr, List.lookup_cons, this]
    · exact ih hr
theorem cellsFrom_new {x : Str} {names : List (Str × NameKind)} {h : Heap} {acc : List (Str × Addr)} (hm : (x, NameKind.cell) ∈ names) (nd : (names.map (·.1)).Nodup) :
    ∃ ca, (cellsFrom h.objs.size names acc).lookup x = some ca ∧ h.objs.size ≤ ca ∧ (pushCells h names).IsCell ca none := by
  induction names generalizing h acc with
  | nil => cases hm
  | cons p r ih =>
    obtain ⟨y, k⟩ := p
    rw [List.map_cons, List.nodup_cons] at nd
    unfold cellsFrom pushCells
    rcases List.mem_cons.mp hm with q | q
    · cases q
      rw [if_pos (beq_self_eq_true _), if_pos (beq_self_eq_true _)]
      refine ⟨h.objs.size, ?_, Nat.le_refl _, ?_⟩
      · rw [cellsFrom_other fun k q => absurd (List.mem_map_of_mem (f := (·.1)) q) nd.1, List.lookup_cons, beq_self_eq_true]
      · exact ⟨_, pushCells_keeps _ _ _ _ (Heap.get?_push_size _ rfl), rfl⟩
    · split
      · obtain ⟨ca, z1, z2, z3⟩ := ih (h := h.push { cls := .type "cell", data := .cell none }) (acc := (y, h.objs.size) :: acc) q nd.2
        rw [Heap.size_push] at z1 z2
        exact ⟨ca, z1, Nat.le_of_succ_le z2, z3⟩
      · exact ih q nd.2

theorem newCompEnv {M : Model} {scope : Scope} {env : Env} {cl : List (Str × Addr)} {Q : Env → Shared → Prop} {E : Value → Shared → Prop}
    (h : Q { scope, locals := s.heap.objs.size, globals := env.globals, cells := cellsFrom (s.heap.objs.size + 1) scope.names cl, qual := env.qual, func := none, code := env.code, frame := env.frame, builtins := env.builtins }
      { s with heap := pushCells (s.heap.push { cls := .type "dict", data := .dict #[] }) scope.names }) :
    wpAny M A (newFunctionEnv scope env.globals cl [] env.qual none .none (some env)) Q E s := by
  simp only [newFunctionEnv, Option.isSome_some, if_true]
  refine wpAny_bind (wpAny_alloc ?_)
  refine wpAny_bind (wpAny_layCells _ (fun name kind cells => by cases kind == NameKind.cell <;> simp) _ _ _ _ ?_)
  rw [show ({ s with heap := s.heap.push { cls := .type "dict", data := .dict #[] } } : Shared).heap.objs.size = s.heap.objs.size + 1 from Heap.size_push ..]
  rw [List.forIn_nil]
  exact wpAny_bind (wpAny_pure (wpAny_pure h))

theorem closure_ok {scope : Scope} {env : Env} : (∀ p ∈ scope.names, p.2 = .free → ∃ ca, env.cells.lookup p.1 = some ca) → ∃ cl, closureFor scope env = pure cl ∧ ∀ x ca, (x, NameKind.free) ∈ scope.names → env.cells.lookup x = some ca → cl.lookup x = some ca := by
  intro h
  have key : ∀ (names : List (Str × NameKind)) (acc : List (Str × Addr)), (∀ p ∈ names, p.2 = .free → ∃ ca, env.cells.lookup p.1 = some ca) →
      ∃ cl, (forIn names acc fun (x : Str × NameKind) (cs : List (Str × Addr)) => (if x.2 == .free then (do let a ← cellOf env x.1; pure (.yield ((x.1, a) :: cs))) else pure (.yield cs) : Sem (ForInStep (List (Str × Addr))))) = pure cl ∧
        (∀ x ca, (x, NameKind.free) ∈ names → env.cells.lookup x = some ca → cl.lookup x = some ca) ∧ (∀ x ca, acc.lookup x = some ca → (∀ ca', env.cells.lookup x = some ca' → ca' = ca) → cl.lookup x = some ca) := by
    intro names
    induction names with
    | nil => intro acc _; exact ⟨acc, rfl, fun x ca m => by simp at m, fun x ca e _ => e⟩
    | cons p r ih =>
      intro acc hp
      obtain ⟨y, k⟩ := p
      have hr : ∀ p ∈ r, p.2 = .free → ∃ ca, env.cells.lookup p.1 = some ca := fun p m => hp p (List.mem_cons_of_mem _ m)
      rw [List.forIn_cons]
      by_cases q : k = .free
      · subst q
        obtain ⟨ca, e⟩ := hp _ List.mem_cons_self rfl
        obtain ⟨cl, z1, z2, z3⟩ := ih ((y, ca) :: acc) hr
        refine ⟨cl, ?_, fun x cx m ex => ?_, fun x cx ex un => ?_⟩
        · show (cellOf env y >>= fun a => pure (ForInStep.yield ((y, a) :: acc))) >>= _ = _
          have : cellOf env y = pure ca := by unfold cellOf; rw [e]
          rw [this]
          exact z1
        · rcases List.mem_cons.mp m with q | q
          · cases q
            rw [e] at ex; cases ex
            exact z3 _ _ (by rw [List.lookup_cons, beq_self_eq_true]) fun ca' e' => by rw [e] at e'; cases e'; rfl
          · exact z2 _ _ q ex
        · refine z3 x cx ?_ un
          rw [List.lookup_cons]
          cases hb : x == y with
          | true => rw [beq_iff_eq] at hb; subst hb; rw [un _ e]
          | false => exact ex
      · obtain ⟨cl, z1, z2, z3⟩ := ih acc hr
        have : (k == NameKind.free) = false := by simpa using q
        refine ⟨cl, ?_, fun x cx m ex => ?_, z3⟩
        · simp only [this, Bool.false_eq_true, if_false]
          exact z1
        · rcases List.mem_cons.mp m with q' | q'
          · cases q'; exact absurd rfl q
          · exact z2 _ _ q' ex
  obtain ⟨cl, z1, z2, _⟩ := key scope.names [] h
  refine ⟨cl, ?_, z2⟩
  show (forIn scope.names [] (fun (x : Str × NameKind) (cs : List (Str × Addr)) => (if x.2 == .free then (do let a ← cellOf env x.1; pure (.yield ((x.1, a) :: cs))) else pure (.yield cs) : Sem (ForInStep (List (Str × Addr))))) >>= fun cs => pure cs) = _
  rw [z1]
  rfl
end
end Mine

namespace Mine

theorem RelO.drop {c : Cx} {H : List Addr} {I : Addr} {O : Objs} {s : Shared} (R : RelO c (I :: H) O s) (nI : I ∉ H) {h' : Heap} (k : ∀ b o, b ≠ I → s.heap.get? b = some o → h'.get? b = some o) (t : Nat) :
    RelO c H O { s with heap := h', toks := t } := by
  have fz : FzLe (frz O (I :: H) s.heap) (frz O H h') := fun b o e => by
    obtain ⟨e1, e2, e3⟩ := frz_some.mp e
    rw [List.mem_cons, not_or] at e2
    exact frz_some.mpr ⟨e1, e2.2, k _ _ e2.1 e3⟩
  refine ⟨fun b o e => ?_, fun b m => ?_, fun a mo e => ?_, R.gens, R.os⟩
  · obtain ⟨e1, e2, e3⟩ := R.base b o e
    rw [List.mem_cons, not_or] at e3
    exact ⟨k _ _ e3.1 e1, e2, e3.2⟩
  · obtain ⟨e1, o, e2⟩ := R.hid b (List.mem_cons_of_mem _ m)
    exact ⟨e1, o, k _ _ (fun q => nI (q ▸ m)) e2⟩
  · have x := R.objs a mo e
    obtain ⟨o, eo⟩ := x.alive
    have na : a ≠ I := by rintro rfl; rw [(R.hid a List.mem_cons_self).1] at e; cases e
    exact x.same fz ((k _ _ na eo).trans eo.symm)
theorem frz_thaw {O : Objs} {H : List Addr} {D : Addr} {mo : MO} {h : Heap} : frz (up O D mo) H h = frz O (D :: H) h := by
  funext b
  unfold frz up
  by_cases q : b = D
  · subst q; simp
  · simp [q]
theorem RelO.thaw {c : Cx} {H : List Addr} {D : Addr} {mo : MO} {O : Objs} {s : Shared} (R : RelO c (D :: H) O s) (nD : D ∉ H) (hm : HoldsM c (frz O (D :: H) s.heap) s.heap D mo) : RelO c H (up O D mo) s := by
  refine ⟨fun b o e => ?_, fun b m => ?_, fun a m e => ?_, R.gens, R.os⟩
  · obtain ⟨e1, e2, e3⟩ := R.base b o e
    rw [List.mem_cons, not_or] at e3
    exact ⟨e1, (up_ne e3.1).trans e2, e3.2⟩
  · obtain ⟨e1, o, e2⟩ := R.hid b (List.mem_cons_of_mem _ m)
    exact ⟨(up_ne (fun q => nD (by rw [← q]; exact m))).trans e1, o, e2⟩
  · rw [frz_thaw]
    by_cases q : a = D
    · subst q; rw [up_self] at e; cases e; exact hm
    · rw [up_ne q] at e; exact R.objs a m e
theorem StepO.thaw {F H : List Addr} {O O' : Objs} {h₀ h : Heap} {D : Addr} {mo : MO} (st : StepO F H O h₀ O' h) (d : h₀.get? D = none) : StepO F H O h₀ (up O' D mo) h :=
  ⟨fun b o e => by
    have z := frz_some.mp (st.fz b o e)
    have : b ≠ D := by rintro rfl; rw [(frz_some.mp e).2.2] at d; cases d
    exact frz_some.mpr ⟨(up_ne this).trans z.1, z.2.1, z.2.2⟩, st.hid⟩
theorem StepO.drop {F H : List Addr} {O O' : Objs} {h₀ h h' : Heap} {I : Addr} (st : StepO F H O h₀ O' h) (d : h₀.get? I = none) (k : ∀ b o, b ≠ I → h.get? b = some o → h'.get? b = some o) : StepO F H O h₀ O' h' :=
  ⟨fun b o e => by
    have z := frz_some.mp (st.fz b o e)
    have : b ≠ I := by rintro rfl; rw [(frz_some.mp e).2.2] at d; cases d
    exact frz_some.mpr ⟨z.1, z.2.1, k _ _ this z.2.2⟩, fun b m nf o e => k _ _ (by rintro rfl; rw [e] at d; cases d) (st.hid b m nf o e)⟩
theorem StepO.one {L H : List Addr} {O : Objs} {h h' : Heap} {a : Addr} (m : a ∈ L) (mH : a ∈ H) (k : ∀ b o, b ≠ a → h.get? b = some o → h'.get? b = some o) : StepO L H O h O h' :=
  ⟨frz_own fun b o nb e => k b o (fun q => nb (q ▸ mH)) e, fun b _ nf o e => k b o (fun q => nf (q ▸ m)) e⟩
theorem StepO.wide {F L H : List Addr} {O O' : Objs} {h h' : Heap} (st : StepO F H O h O' h') (k : ∀ b ∈ F, b ∈ L) : StepO L H O h O' h' := ⟨st.fz, fun b m nf o e => st.hid b m (fun q => nf (k b q)) o e⟩
theorem RelO.one {c : Cx} {H : List Addr} {O : Objs} {s : Shared} (R : RelO c H O s) {a : Addr} (m : a ∈ H) {h' : Heap} (k : ∀ b o, b ≠ a → s.heap.get? b = some o → h'.get? b = some o) (al : ∃ o, h'.get? a = some o) (t : Nat) : RelO c H O { s with heap := h', toks := t } :=
  R.own (fun b o nb e => k b o (fun q => nb (q ▸ m)) e) (fun b mb => by
    by_cases q : b = a
    · rw [q]; exact al
    · obtain ⟨_, o, e⟩ := R.hid b mb; exact ⟨o, k _ _ q e⟩) t

theorem Rel.backHide {c : Cx} {f : Frm} {σ : St} {s s' : Shared} {O' : Objs} {C : Addr} (R : Rel c f σ s) (R' : RelO c ([C] ++ f.H) O' s') (st : StepO [] f.H σ.O s.heap O' s'.heap) (d : s.heap.get? C = none) : Rel c (Mine.hide f [C]) ⟨O', σ.fr⟩ s' := by
  have own : ∀ b, b ∈ f.F → ∀ o, s.heap.get? b = some o → s'.heap.get? b = some o := fun b m o e => st.hid b (R.fo.sub b m) (by simp) o e
  have fz : FzLe (frz σ.O f.H s.heap) (frz O' ([C] ++ f.H) s'.heap) := fun b o e => by
    have z := frz_some.mp (st.fz b o e)
    have : b ≠ C := by rintro rfl; rw [(frz_some.mp e).2.2] at d; cases d
    refine frz_some.mpr ⟨z.1, fun m => ?_, z.2.2⟩
    rcases List.mem_append.mp m with m | m
    · simp at m; exact this m
    · exact z.2.1 m
  have x := R.fo.same own
  refine ⟨R', ⟨fun b m => List.mem_append_right _ (x.sub b m), x.loc, x.ns, x.cel, x.inj, x.nf, x.kd, x.gl, x.bl⟩, fun i av e => ?_⟩
  have nn := (R.vars i av e).same (h' := s'.heap) fz R.fo.loc own fun b m _ o e => st.hid b m (by simp) o e
  rcases nn with ⟨k1, z⟩ | ⟨k1, ca, v, a1, a2, a3, a4⟩
  · exact .inl ⟨k1, z⟩
  · exact .inr ⟨k1, ca, v, a1, List.mem_append_right _ a2, a3, a4⟩

theorem relabel_cell {env : Env} : ∀ {names : List (Str × NameKind)} {x : Str}, names.lookup x = some .cell →
    (names.map fun (n, k) => if (k == NameKind.free && env.scope.kind == .function && env.kindOf n == some .cell) then (n, NameKind.cell) else (n, k)).lookup x = some .cell
  | [], _, h => by simp at h
  | (n, k) :: r, x, h => by
    have ih := @relabel_cell env r x
    show List.lookup x ((if (k == NameKind.free && env.scope.kind == .function && env.kindOf n == some .cell) = true then (n, NameKind.cell) else (n, k)) :: _) = _
    cases hx : x == n with
    | true =>
      simp only [List.lookup_cons, hx] at h
      cases h
      simp [List.lookup_cons, hx]
    | false =>
      simp only [List.lookup_cons, hx] at h
      split <;> (simp only [List.lookup_cons, hx]; exact ih h)
theorem relabel_free {env : Env} {names : List (Str × NameKind)} {x : Str} (h : names.lookup x = some .free) :
    (names.map fun (n, k) => if (k == NameKind.free && env.scope.kind == .function && env.kindOf n == some .cell) then (n, NameKind.cell) else (n, k)).lookup x = some .cell ∨
    (names.map fun (n, k) => if (k == NameKind.free && env.scope.kind == .function && env.kindOf n == some .cell) then (n, NameKind.cell) else (n, k)).lookup x = some .free := by
  induction names with
  | nil => cases h
  | cons p r ih =>
    obtain ⟨n, k⟩ := p
    rw [List.map_cons]
    show List.lookup x ((if (k == NameKind.free && env.scope.kind == .function && env.kindOf n == some .cell) = true then (n, NameKind.cell) else (n, k)) :: _) = _ ∨
      List.lookup x ((if (k == NameKind.free && env.scope.kind == .function && env.kindOf n == some .cell) = true then (n, NameKind.cell) else (n, k)) :: _) = _
    rw [List.lookup_cons] at h
    cases hx : x == n with
    | true =>
      rw [hx] at h
      cases h
      split
      · left; rw [List.lookup_cons, hx]
      · right; rw [List.lookup_cons, hx]
    | false =>
      rw [hx] at h
      split <;> (rw [List.lookup_cons, hx]; exact ih h)
theorem lookup_of_mem {x : Str} {k : NameKind} : ∀ {names : List (Str × NameKind)}, (names.map (·.1)).Nodup → (x, k) ∈ names → names.lookup x = some k
  | (y, k') :: r, nd, m => by
    rw [List.map_cons, List.nodup_cons] at nd
    rcases List.mem_cons.mp m with q | q
    · cases q; simp [List.lookup_cons]
    · have : (x == y) = false := by
        rw [beq_eq_false_iff_ne]; rintro rfl
        exact nd.1 (List.mem_map_of_mem (f := (·.1)) q)
      rw [List.lookup_cons, this]
      exact lookup_of_mem nd.2 q

structure CScope (sc : Scope) (x : Nat) (fs : List Nat) : Prop where
  kd : sc.kind = .function
  hx : sc.names.lookup (nm x) = some .local ∨ sc.names.lookup (nm x) = some .cell
  free : ∀ i ∈ fs, sc.names.lookup (nm i) = some .free
  loc : ∀ p ∈ sc.names, p.2 = .local → sc.names.lookup p.1 = some .local
  nd : (sc.names.map (·.1)).Nodup
  cel : ∀ p ∈ sc.names, p.2 = .cell → p.1 = nm x
  fre : ∀ p ∈ sc.names, p.2 = .free → ∃ i ∈ fs, p.1 = nm i
theorem CScope.of {sc : Scope} {x : Nat} {fs : List Nat} (h : chkCScope sc x fs = true) : CScope sc x fs := by
  unfold chkCScope chkFree at h
  simp only [Bool.and_eq_true, Bool.or_eq_true, beq_iff_eq, List.all_eq_true, decide_eq_true_eq, bne_iff_ne, List.any_eq_true] at h
  obtain ⟨⟨⟨⟨⟨⟨h1, h2⟩, h3⟩, h4⟩, h5⟩, h6⟩, h7⟩ := h
  exact ⟨h1, h2, h3, fun p m e => (h4 p m).resolve_left (fun z => z e), h5, fun p m e => (h6 p m).resolve_left (fun z => z e), fun p m e => (h7 p m).resolve_left (fun z => z e)⟩
end Mine

namespace Mine

theorem adr {a b : Nat} (h : @Ne Nat a b) : @Ne Addr a b := h
theorem eqN {a b : Addr} (h : @Eq Addr a b) : @Eq Nat a b := h
section
variable {A : Around} {s : Shared} {c : Cx} {f : Frm} {fr : Nat → Option AV} {O : Objs} {n : Nat}

theorem pyIter_self {h : Heap} {g : Fz} {I : Addr} {x : AV} {i : Nat} {Q : Value → Shared → Prop} (it : IterAt s.heap g I x i) (q : Q (.ref I) s) : wpAny (model c.prog c.w) A (pyIter (.ref I)) Q NoE s := by
  unfold IterAt at it
  split at it
  · exact wpAny_pyIter_listiter it q
  · obtain ⟨t, vs, m, h1, h2, it⟩ := it
    exact wpAny_pyIter_tupleiter it q
  · exact wpAny_pyIter_rangeiter it q
  · exact it.elim

theorem append_call {D : Addr} {ys : Array Value} {m : Nat} {w : Value} {Q : Value → Shared → Prop} (h : s.heap.get? D = some { cls := .type "list", data := .seq ys m }) (hsz : ys.size ≤ sizeLine)
    (q : Q .none { s with heap := s.heap.update D (Obj.mapSeq fun xs => xs.push w) }) : wpAny (model c.prog c.w) A (call (.builtin "list.append") [.ref D, w]) Q NoE s :=
  call_meets F.slot_list_append ⟨_, h, rfl⟩ F.entry_list_append (F.args_list_append_2 _ _) (PySem.list_append D ys m w hsz) ⟨h, q⟩

noncomputable def BodyOK (c : Cx) (n : Nat) (sc : Scope) (e : X) (elt : Expr) : Prop :=
  ∀ (f' : Frm) (fr' : Nat → Option AV) (O' : Objs) (Q' : AV → Objs → Prop) (A : Around) (s' : Shared), f'.env.scope = sc → Room n A → Rel c f' ⟨O', fr'⟩ s' → wpE c n e fr' O' Q' → wpAny (model c.prog c.w) A (eval elt f'.env) (Post c f' fr' O' s'.heap Q') NoE s'

theorem comp_block {elt iter : Expr} {x : Nat} {px pos : Pos} {fs : List Nat} {csc : Scope} {e : X} {v : AV} {w : Value} {full : List AV} {Q : AV → Objs → Prop} {use : Option (Value → Sem Unit)} {Qf : Value → Shared → Prop}
    (rm : Room n A) (hb : BodyOK c n (relab csc f.env.scope) e elt) (cs : CScope csc x fs) (ho : ∀ i ∈ fs, f.env.kindOf (nm i) = some .cell ∨ f.env.kindOf (nm i) = some .free)
    (R : Rel c f ⟨O, fr⟩ s) (rv : RV (frz O f.H s.heap) w v) (es : seqOf O v = some full) (hl : full.length < lim) (hfs : ∀ i ∈ fs, ∃ av, fr i = some av)
    (wp : compL (fun y O K => wpE c n e (setf (restr fr fs) x y) O K) v full full O [] fun out O => newM O (.list out) Q)
    (hfin : ∀ C D O' s', s.heap.get? C = none → (∃ m, s'.heap.Ns C m) → Rel c (hide f [C]) ⟨O', fr⟩ s' → StepO f.F f.H O s.heap O' s'.heap → Q (.ref D) O' → compPost (model c.prog c.w) A NoE use Qf (.ref D) C (.ok .next) s')
    {cl : List (Str × Addr)} (hcl2 : ∀ x ca, (x, NameKind.free) ∈ csc.names → f.env.cells.lookup x = some ca → cl.lookup x = some ca) :
    wpAny (model c.prog c.w) A (pyIter w) (fun it s₂ => wpAny (model c.prog c.w) A (newList []) (fun acc s₃ => wpAny (model c.prog c.w) A (newFunctionEnv csc f.env.globals cl [] f.env.qual none .none (some f.env)) (fun cenv s₄ =>
      codeAny (model c.prog c.w) A (.compStart (.ListComp elt [⟨.Name (nm x) px, iter, [], 0⟩] csc pos) 0 it acc { cenv with scope := relabel csc f.env }) (compPost (model c.prog c.w) A NoE use Qf acc cenv.locals) s₄) NoE s₃) NoE s₂) NoE s := by
  -- the closure
  have free_at : ∀ i ∈ fs, ∀ av, fr i = some av → ∃ ca w', f.env.cells.lookup (nm i) = some ca ∧ ca ∈ f.H ∧ s.heap.IsCell ca (some w') ∧ RV (frz O f.H s.heap) w' av := fun i m av e => by
    rcases R.vars i av e with ⟨k1, _⟩ | ⟨_, ca, w', a1, a2, a3, a4⟩
    · rcases ho i m with k2 | k2 <;> (rw [k1] at k2; cases k2)
    · exact ⟨ca, w', a1, a2, a3, a4⟩
  refine iter_start R rv es fun o it0 => ?_
  refine wpAny_newObj_type (newCompEnv ?_) (by show (0 : Nat) ≤ sizeLine; rw [sizeLine_eq]; omega)
  dsimp only
  -- the addresses
  generalize hh2 : (s.heap.push o).push { cls := .type "list", data := .seq ([] : List Value).toArray } = h2
  generalize hI : s.heap.objs.size = I at it0
  have sD : (s.heap.push o).objs.size = I + 1 := by rw [Heap.size_push, hI]
  have sC : h2.objs.size = I + 2 := by rw [← hh2, Heap.size_push, sD]
  rw [sD, sC]
  generalize hh4 : pushCells (h2.push { cls := .type "dict", data := .dict #[] }) csc.names = h4
  have k4 : ∀ b o, (h2.push { cls := .type "dict", data := .dict #[] }).get? b = some o → h4.get? b = some o := fun b o e => by rw [← hh4]; exact pushCells_keeps _ _ b o e
  have k2 : ∀ b o, h2.get? b = some o → h4.get? b = some o := fun b o e => k4 b o (Heap.get?_push_of_some _ e)
  have k1' : ∀ b q, (s.heap.push o).get? b = some q → h2.get? b = some q := fun b o e => by rw [← hh2]; exact Heap.get?_push_of_some _ e
  have k0 : ∀ b q, s.heap.get? b = some q → h4.get? b = some q := fun b q e => k2 b q (k1' b q (Heap.get?_push_of_some _ e))
  have atI : ∃ q, h4.get? I = some q := by
    have : (s.heap.push o).get? I = some o ∨ True := .inr trivial
    unfold IterAt at it0
    split at it0
    · obtain ⟨q, e, _⟩ := it0; exact ⟨q, k2 _ _ (k1' _ _ e)⟩
    · obtain ⟨_, _, _, _, _, q, e, _⟩ := it0; exact ⟨q, k2 _ _ (k1' _ _ e)⟩
    · exact ⟨_, k2 _ _ (k1' _ _ it0)⟩
    · exact it0.elim
  have atD : h4.get? (I + 1) = some { cls := .type "list", data := .seq ([] : List Value).toArray } := k2 _ _ (by rw [← hh2, ← sD]; exact Heap.get?_push_size _ rfl)
  have nsC : h4.Ns (I + 2) (fun _ => none) := by
    have : (h2.push { cls := .type "dict", data := .dict #[] }).Ns h2.objs.size (fun _ => none) := Heap.Ns.new h2 (.type "dict")
    rw [sC] at this
    exact this.keeps k4
  have atC : ∃ q, h4.get? (I + 2) = some q := let ⟨q, _, _, e, _⟩ := nsC; ⟨q, e⟩
  -- the cell of the variable, if it has one
  have hcx : ∃ cx : List Nat, (∀ b ∈ cx, I + 3 ≤ b ∧ h4.IsCell b none) ∧ cx.Nodup ∧ (csc.names.lookup (nm x) = some .cell → ∃ ca, cx = [ca] ∧ (cellsFrom (I + 2 + 1) csc.names cl).lookup (nm x) = some ca) ∧ (csc.names.lookup (nm x) = some .local → cx = []) := by
    by_cases q : csc.names.lookup (nm x) = some .cell
    · have m : (nm x, NameKind.cell) ∈ csc.names := mem_of_lookup q
      obtain ⟨ca, z1, z2, z3⟩ := cellsFrom_new (h := h2.push { cls := .type "dict", data := .dict #[] }) (acc := cl) m cs.nd
      rw [Heap.size_push, sC] at z1 z2
      rw [hh4] at z3
      exact ⟨[ca], fun b mb => by simp at mb; subst mb; exact ⟨z2, z3⟩, by simp, fun _ => ⟨ca, rfl, z1⟩, fun z => by rw [q] at z; cases z⟩
    · exact ⟨[], by simp, by simp, fun z => absurd z q, fun _ => rfl⟩
  obtain ⟨cx, hcx1, hcxn, hcx2, hcx3⟩ := hcx
  let L : List Nat := (I + 1) :: I :: (cx ++ [I + 2])
  have Lge : ∀ b ∈ L, I ≤ b := fun b m => by
    simp only [L, List.mem_cons, List.mem_append, List.not_mem_nil, or_false] at m
    rcases m with m | m | m | m
    · omega
    · omega
    · have := (hcx1 b m).1; omega
    · omega
  have Ldead : ∀ b ∈ L, s.heap.get? b = none := fun b m => by
    cases e : s.heap.get? b with
    | none => rfl
    | some q => exact absurd (Heap.lt_size e) (by have := Lge b m; show ¬ (@LT.lt Nat _ b _); omega)
  have LH : ∀ b ∈ L, b ∉ f.H := fun b m mh => by
    obtain ⟨_, q, e⟩ := R.ro.hid b mh
    rw [Ldead b m] at e; cases e
  have Lal : ∀ b ∈ L, ∃ q, h4.get? b = some q := fun b m => by
    simp only [L, List.mem_cons, List.mem_append, List.not_mem_nil, or_false] at m
    rcases m with m | m | m | m
    · subst m; exact ⟨_, atD⟩
    · subst m; exact atI
    · obtain ⟨q, e, _⟩ := (hcx1 b m).2; exact ⟨q, e⟩
    · subst m; exact atC
  have R4 : RelO c (L ++ f.H) O { s with heap := h4, toks := s.toks } := R.ro.enter k0 Ldead Lal s.toks
  have fz04 : FzLe (frz O f.H s.heap) (frz O (L ++ f.H) h4) := fun b q e => by
    obtain ⟨e1, e2, e3⟩ := frz_some.mp e
    refine frz_some.mpr ⟨e1, fun m => ?_, k0 _ _ e3⟩
    rcases List.mem_append.mp m with m | m
    · rw [Ldead b m] at e3; cases e3
    · exact e2 m
  have mI : I ∈ L ++ f.H := List.mem_append_left _ (by simp [L])
  have mD : I + 1 ∈ L ++ f.H := List.mem_append_left _ (by simp [L])
  have mC : I + 2 ∈ L ++ f.H := List.mem_append_left _ (by simp [L])
  have mcx : ∀ b ∈ cx, b ∈ L := fun b m => by simp [L, m]
  generalize henv : ({ scope := relabel csc f.env, locals := I + 2, globals := f.env.globals, cells := cellsFrom (I + 2 + 1) csc.names cl, qual := f.env.qual, func := none, code := f.env.code, frame := f.env.frame, builtins := f.env.builtins } : Env) = env'
  have envL : env'.locals = I + 2 := by rw [← henv]
  have envS : env'.scope = relabel csc f.env := by rw [← henv]
  have envC : env'.cells = cellsFrom (I + 2 + 1) csc.names cl := by rw [← henv]
  have envG : env'.globals = mainGlobals := by rw [← henv]; exact R.fo.gl
  have envB : env'.builtins = builtinsNs := by rw [← henv]; exact R.fo.bl
  have envK : env'.scope.kind = .function := by rw [envS]; exact cs.kd
  let f' : Frm := ⟨env', (I + 2) :: cx, L ++ f.H, false⟩
  let Kf : List AV → Objs → Prop := fun out O => newM O (.list out) Q
  let Inv : Nat → Shared → Prop := fun k s' => ∃ i O' acc ys m mc, k = full.length - i ∧ i ≤ full.length ∧ RelO c (L ++ f.H) O' s' ∧ StepO L (L ++ f.H) O h4 O' s'.heap ∧ s'.heap.Ns (I + 2) mc ∧ (∀ b ∈ cx, ∃ q, s'.heap.IsCell b q) ∧
    IterAt s'.heap (frz O' (L ++ f.H) s'.heap) I v i ∧ seqOf O' v = some full ∧ s'.heap.get? (I + 1) = some { cls := .type "list", data := .seq ys m } ∧ RVs (frz O' (L ++ f.H) s'.heap) ys.toList acc ∧ acc.length = i ∧
    compL (fun y O K => wpE c n e (setf (restr fr fs) x y) O K) v full (full.drop i) O' acc Kf
  have loop : codeAny (model c.prog c.w) A (.compLoop (.ListComp elt [⟨.Name (nm x) px, iter, [], 0⟩] csc pos) 0 (.ref I) (.ref (I + 1)) env') (compPost (model c.prog c.w) A NoE use Qf (.ref (I + 1)) (I + 2)) { s with heap := h4, toks := s.toks } := by
    refine codeAny_compLoop_list Inv ?_ full.length ⟨0, O, [], _, _, _, rfl, Nat.zero_le _, R4, .refl _ _ _ _, nsC, fun b m => ⟨_, (hcx1 b m).2⟩, ?_, es, atD, .nil, rfl, ?_⟩
    · rintro k s1 ⟨i, O1, acc, ys, m, mc, hk, hi, RO, st, ns, hcel, it, es1, hD, rD, hacc, wp1⟩
      refine wpF (iter_next rm.hh RO mI it es1 hi (fun hend h' kk => ?_) fun w1 y h' t hy rw1 kk al it1 => ?_)
      · -- the end
        subst hend
        rw [List.drop_length] at wp1
        have wp2 : newM O1 (.list acc) Q := wp1
        have z1 : RelO c (I :: ((cx ++ [I + 2]) ++ f.H)) (up O1 (I + 1) (.list acc)) s1 :=
          RelO.thaw (H := I :: ((cx ++ [I + 2]) ++ f.H)) RO (fun mm => by
            rcases List.mem_cons.mp mm with q | q
            · have := eqN q; omega
            · rcases List.mem_append.mp q with q | q
              · rcases List.mem_append.mp q with q | q
                · have := (hcx1 _ q).1; omega
                · simp at q
              · exact LH (I + 1) (by simp [L]) q) ⟨ys, m, hD, rD⟩
        have nI : I ∉ (cx ++ [I + 2]) ++ f.H := fun mm => by
          rcases List.mem_append.mp mm with q | q
          · rcases List.mem_append.mp q with q | q
            · have := (hcx1 _ q).1; omega
            · simp at q
          · exact LH I (by simp [L]) q
        have z2 := z1.drop nI kk s1.toks
        rw [List.append_assoc] at z2
        have z3 := z2.unhide
        have s1' := (((st.unhide Ldead k0).noOwn (c := c) (s := s) LH).thaw (mo := .list acc) (Ldead (I + 1) (by simp [L]))).drop (Ldead I (by simp [L])) kk
        refine hfin (I + 2) (I + 1) _ _ (Ldead (I + 2) (by simp [L])) ⟨mc, ?_⟩ (R.backHide z3 s1' (Ldead (I + 2) (by simp [L]))) s1'.widen (wp2 _ ((RO.hid _ mD).1))
        obtain ⟨q, es', ep, e1, e2⟩ := ns
        exact ⟨q, es', ep, kk _ _ (adr (by omega)) e1, e2⟩
      · -- a turn
        have R1 : RelO c (L ++ f.H) O1 { s1 with heap := h', toks := t } := RO.one mI kk al t
        have st1 : StepO L (L ++ f.H) O h4 O1 h' := st.trans (.one (a := I) (by simp [L]) mI kk)
        have fz1 : FzLe (frz O1 (L ++ f.H) s1.heap) (frz O1 (L ++ f.H) h') := frz_own fun b q nb e => kk b q (fun z => nb (z ▸ mI)) e
        have ns1 : h'.Ns (I + 2) mc := let ⟨q, es', ep, e1, e2⟩ := ns; ⟨q, es', ep, kk _ _ (adr (by omega)) e1, e2⟩
        have cel1 : ∀ b ∈ cx, ∃ q, h'.IsCell b q := fun b mb => let ⟨q, z, e1, e2⟩ := hcel b mb; ⟨q, z, kk _ _ (adr (by have := (hcx1 b mb).1; omega)) e1, e2⟩
        have hD1 := kk _ _ (adr (by omega)) hD
        have rD1 := rD.mono fz1
        -- behind the store
        have next : ∀ (a : Nat) (h2 : Heap) (t2 : Nat), a ∈ (I + 2) :: cx → (∀ b, b ≠ a → h2.get? b = h'.get? b) → (∃ mc, h2.Ns (I + 2) mc) → (∀ b ∈ cx, ∃ q, h2.IsCell b q) →
            NameAt f' h2 (frz O1 (L ++ f.H) h2) (nm x) y →
            wpAny (model c.prog c.w) A (eval elt env') (fun x₁ s₃ => wpAny (model c.prog c.w) A (call (.builtin "list.append") [.ref (I + 1), x₁]) (fun _ s₄ => ∃ m, m < k ∧ Inv m s₄) NoE s₃) NoE { s1 with heap := h2, toks := t2 } := by
          intro a h2 t2 ma hs hns hcell hname
          have maL : a ∈ L := by
            rcases List.mem_cons.mp ma with q | q
            · subst q; simp [L]
            · exact mcx _ q
          have maH : a ∈ L ++ f.H := List.mem_append_left _ maL
          have aI : a ≠ I ∧ a ≠ I + 1 := by
            rcases List.mem_cons.mp ma with q | q
            · omega
            · have := (hcx1 _ q).1; omega
          have ks : ∀ b q, b ≠ a → h'.get? b = some q → h2.get? b = some q := fun b q nb e => (hs b nb).trans e
          have al2 : ∃ q, h2.get? a = some q := by
            rcases List.mem_cons.mp ma with q | q
            · subst q; obtain ⟨_, q, _, _, e, _⟩ := hns; exact ⟨q, e⟩
            · obtain ⟨_, q, e, _⟩ := hcell _ q; exact ⟨q, e⟩
          have R2 : RelO c (L ++ f.H) O1 { s1 with heap := h2, toks := t2 } := R1.one (h' := h2) maH ks al2 t2
          have st2 : StepO L (L ++ f.H) O h4 O1 h2 := st1.trans (.one maL maH ks)
          have fz2 : FzLe (frz O1 (L ++ f.H) h') (frz O1 (L ++ f.H) h2) := frz_own fun b q nb e => ks b q (fun z => nb (z ▸ maH)) e
          have it2 : IterAt h2 (frz O1 (L ++ f.H) h2) I v (i + 1) := it1.same fz2 fun q e => ks _ _ (Ne.symm aI.1) e
          have hD2 := ks _ _ (Ne.symm aI.2) hD1
          have rD2 := rD1.mono fz2
          have RR : Rel c f' ⟨O1, setf (restr fr fs) x y⟩ { s1 with heap := h2, toks := t2 } := by
            refine ⟨R2, ⟨fun b mb => ?_, by show env'.locals ∈ _; rw [envL]; exact List.mem_cons_self, by show ∃ mc, h2.Ns env'.locals mc; rw [envL]; exact hns, fun z => (nomatch z), fun z => (nomatch z), fun z => (nomatch z), envK, envG, envB⟩, fun j av ej => ?_⟩
            · rcases List.mem_cons.mp mb with q | q
              · subst q; exact mC
              · exact List.mem_append_left _ (mcx _ q)
            · by_cases q : j = x
              · subst q
                have e' : (if j = j then some y else restr fr fs j) = some av := ej
                rw [if_pos rfl] at e'; cases e'
                exact hname
              · have e' : (if j = x then some y else restr fr fs j) = some av := ej
                rw [if_neg q] at e'
                have e2 : (if fs.contains j then fr j else none) = some av := e'
                have mj : j ∈ fs := by
                  by_cases z : fs.contains j = true
                  · simpa using z
                  · rw [if_neg z] at e2; cases e2
                rw [if_pos (by simpa using mj)] at e2
                obtain ⟨ca, w', a1, a2, a3, a4⟩ := free_at j mj av e2
                have fj := cs.free j mj
                refine .inr ⟨?_, ca, w', ?_, List.mem_append_right _ a2, ?_, a4.mono (fz04.trans st2.fz)⟩
                · show env'.scope.names.lookup (nm j) = _ ∨ env'.scope.names.lookup (nm j) = _
                  rw [envS]; exact relabel_free fj
                · show env'.cells.lookup (nm j) = _
                  rw [envC, cellsFrom_other fun kk mk hk => ?_]
                  · exact hcl2 _ _ (mem_of_lookup fj) a1
                  · subst hk; have := lookup_of_mem cs.nd mk; rw [fj] at this; cases this
                · obtain ⟨q, e3, e4⟩ := a3
                  exact ⟨q, st2.hid ca (List.mem_append_right _ a2) (fun z => LH ca z a2) q (k0 _ _ e3), e4⟩
          have di : full.drop i = y :: full.drop (i + 1) := by
            obtain ⟨hlt, e⟩ := List.getElem?_eq_some_iff.mp hy
            rw [List.drop_eq_getElem_cons hlt, e]
          rw [di] at wp1
          have wp2 : wpE c n e (setf (restr fr fs) x y) O1 (fun w O' => seqOf O' v = some full ∧ compL (fun y O K => wpE c n e (setf (restr fr fs) x y) O K) v full (full.drop (i + 1)) O' (acc ++ [w]) Kf) := wp1
          refine EE (hb f' _ O1 _ A _ (by show env'.scope = _; rw [envS]; rfl) rm RR wp2) fun w2 s3 x3 O3 rw3 R3 st3 q3 => ?_
          obtain ⟨es3, wp3⟩ := q3
          have nF : ∀ b, b = I ∨ b = I + 1 → b ∉ f'.F := fun b hb mb => by
            rcases List.mem_cons.mp mb with q | q
            · rcases hb with hb | hb <;> omega
            · have := (hcx1 _ q).1; rcases hb with hb | hb <;> omega
          have hD3 := st3.hid (I + 1) mD (nF _ (.inr rfl)) _ hD2
          have it3 : IterAt s3.heap (frz O3 (L ++ f.H) s3.heap) I v (i + 1) := it2.same st3.fz fun q e => st3.hid I mI (nF _ (.inl rfl)) _ e
          have rD3 := rD2.mono st3.fz
          have hys : ys.size = i := by rw [← hacc, ← rD.length, Array.length_toList]
          have lt : i < full.length := (List.getElem?_eq_some_iff.mp hy).1
          refine append_call hD3 (lim_le (by omega)) ⟨full.length - (i + 1), by omega, i + 1, O3, acc ++ [x3], _, _, R3.fo.ns.choose, rfl, lt, ?_, ?_, ?_, ?_, ?_, es3, IsL.update hD3 _, ?_, by simp [hacc], wp3⟩
          · exact RelO.one (s := s3) R3.ro mD (fun b q nb e => (Heap.get?_update_other _ _ (Ne.symm nb)).trans e) ⟨_, IsL.update hD3 _⟩ s3.toks
          · exact (st2.trans (st3.wide fun b mb => by
              rcases List.mem_cons.mp mb with q | q
              · subst q; simp [L]
              · exact mcx _ q)).trans (.one (a := I + 1) (by simp [L]) mD fun b q nb e => (Heap.get?_update_other _ _ (Ne.symm nb)).trans e)
          · have n3 := R3.fo.ns.choose_spec
            have n3' : s3.heap.Ns (I + 2) R3.fo.ns.choose := envL ▸ n3
            obtain ⟨q, es', ep, e1, e2⟩ := n3'
            exact ⟨q, es', ep, (Heap.get?_update_other _ _ (adr (by omega))).trans e1, e2⟩
          · intro b mb
            have q0 : csc.names.lookup (nm x) = some .cell := by
              rcases cs.hx with q | q
              · rw [hcx3 q] at mb; cases mb
              · exact q
            obtain ⟨ca, e1, e2⟩ := hcx2 q0
            rw [e1] at mb
            simp at mb; subst mb
            rcases R3.vars x y (if_pos rfl) with ⟨k1, _⟩ | ⟨k1, ca', w', a1, a2, a3, a4⟩
            · exfalso
              have : env'.scope.names.lookup (nm x) = some .local := k1
              rw [envS] at this
              have z := relabel_cell (env := f.env) q0
              rw [show (relabel csc f.env).names.lookup (nm x) = some .cell from z] at this; cases this
            · have a1' : env'.cells.lookup (nm x) = some ca' := a1
              rw [envC, e2] at a1'; cases a1'
              obtain ⟨q, e3, e4⟩ := a3
              have : b ≠ I + 1 := by have := (hcx1 b (by rw [e1]; simp)).1; omega
              exact ⟨_, q, (Heap.get?_update_other _ _ (Ne.symm this)).trans e3, e4⟩
          · exact it3.same (frz_own fun b q nb e => (Heap.get?_update_other _ _ (fun z => nb (z ▸ mD))).trans e) fun q e => (Heap.get?_update_other _ _ (adr (by omega))).trans e
          · rw [Array.toList_push]
            exact (rD3.append (.cons rw3 .nil)).mono (frz_own fun b q nb e => (Heap.get?_update_other _ _ (fun z => nb (z ▸ mD))).trans e)
        refine wpF (wpAny_assign_Name ?_)
        rcases cs.hx with hx | hx
        · have kx : env'.kindOf (nm x) = some .local := by show env'.scope.names.lookup _ = _; rw [envS]; exact lookup_relabel_local hx
          refine wpAny_storeName_local kx (envL ▸ ns1) (fun h2 n2 hs2 => ?_) (by rw [envK]; rfl)
          rw [envL] at n2 hs2
          have z := next (I + 2) h2 (t + 1) List.mem_cons_self hs2.2 ⟨_, n2⟩ (fun b mb => let ⟨q, z, e1, e2⟩ := cel1 b mb; ⟨q, z, (hs2.2 b (adr (by have := (hcx1 b mb).1; omega))).trans e1, e2⟩)
            (.inl ⟨kx, _, w1, envL ▸ n2, if_pos rfl, rw1.mono (frz_own fun b q nb e => (hs2.2 b (fun z => nb (z ▸ mC))).trans e)⟩)
          exact wpF (wpAny_mono z (fun _ _ h => wpF h) fun _ _ h => h)
        · obtain ⟨ca, e1, e2⟩ := hcx2 hx
          have kx : env'.kindOf (nm x) = some .cell := by show env'.scope.names.lookup _ = _; rw [envS]; exact relabel_cell hx
          have mca : ca ∈ cx := by rw [e1]; simp
          obtain ⟨q0, hc0⟩ := cel1 ca mca
          have nca := (hcx1 ca mca).1
          refine wpAny_storeName_cell envK kx (by rw [envC]; exact e2) hc0 fun h2 hc2 hs2 => ?_
          have z := next ca h2 t (List.mem_cons_of_mem _ mca) hs2.2 ⟨mc, ns1.sameBut hs2 (adr (by omega))⟩ (fun b mb => by
              rw [e1] at mb; simp at mb; subst mb; exact ⟨_, hc2⟩)
            (.inr ⟨.inl kx, ca, w1, by show env'.cells.lookup _ = _; rw [envC]; exact e2, List.mem_append_left _ (mcx _ mca), hc2, rw1.mono (frz_own fun b q nb e => (hs2.2 b (fun z => nb (z ▸ List.mem_append_left _ (mcx _ mca)))).trans e)⟩)
          exact wpF (wpAny_mono z (fun _ _ h => wpF h) fun _ _ h => h)
    · exact it0.same fz04 fun q e => k2 _ _ (k1' _ _ e)
    · exact wp
  have e5 : ({ ({ scope := csc, locals := I + 2, globals := f.env.globals, cells := cellsFrom (I + 2 + 1) csc.names cl, qual := f.env.qual, func := none, code := f.env.code, frame := f.env.frame, builtins := f.env.builtins } : Env) with scope := relabel csc f.env } : Env) = env' := henv
  exact codeAny_compStart_list loop (wpF (pyIter_self (h := h4) (it0.same (h' := h4) fz04 fun q e => k2 _ _ (k1' _ _ e)) loop))
end
end Mine

namespace Mine

section
variable {c : Cx} {n : Nat}

noncomputable abbrev SE (c : Cx) (n : Nat) (x : X) : Prop := ∀ (f : Frm) (fr : Nat → Option AV) (O : Objs) (Q : AV → Objs → Prop) (e : Expr) (A : Around) (s : Shared), chkE c.K x f.env.scope e = true → Room n A → Rel c f ⟨O, fr⟩ s → wpE c n x fr O Q →
  wpAny (model c.prog c.w) A (eval e f.env) (Post c f fr O s.heap Q) NoE s
noncomputable abbrev ST (c : Cx) (n : Nat) (x : X) : Prop := ∀ (f : Frm) (fr : Nat → Option AV) (O : Objs) (Q : Bool → Objs → Prop) (e : Expr) (A : Around) (s : Shared), chkE c.K x f.env.scope e = true → Room n A → Rel c f ⟨O, fr⟩ s → wpT c n x fr O Q →
  wpAny (model c.prog c.w) A (isTrue e f.env (eval e f.env)) (PostT c f fr O s.heap Q) NoE s
noncomputable abbrev SL (c : Cx) (n : Nat) (x : X) : Prop := ∀ (f : Frm) (fr : Nat → Option AV) (O : Objs) (Q : List AV → Objs → Prop) (es : List Expr) (pos : Pos) (A : Around) (s : Shared), chkL c.K x f.env.scope es = true → Room n A → Rel c f ⟨O, fr⟩ s → wpL c n x fr O Q →
  wpAny (model c.prog c.w) A (spliced (backTo pos (starEach es f.env))) (PostL c f fr O s.heap fun l O' => l.length = es.length ∧ Q l O') NoE s

theorem comp_ok {A : Around} {s : Shared} {f : Frm} {fr : Nat → Option AV} {O : Objs} {elt it' : Expr} {x : Nat} {px pos : Pos} {fs : List Nat} {csc : Scope} {e : X} {Q : AV → Objs → Prop} {use : Option (Value → Sem Unit)} {Qf : Value → Shared → Prop} {p2 : Pos}
    (hset : noSet it' = true) (rm : Room n A) (hb : BodyOK c n (relab csc f.env.scope) e elt) (hall : fs.all (fun i => (fr i).isSome) = true) (hi : wpAny (model c.prog c.w) A (eval it' f.env) (Post c f fr O s.heap fun v O => (match seqOf O v with
      | some full => full.length < lim ∧ compL (fun y O K => wpE c n e (setf (restr fr fs) x y) O K) v full full O [] fun out O => newM O (.list out) Q
      | none => False)) NoE s)
    (cs : CScope csc x fs) (ho : ∀ i ∈ fs, f.env.kindOf (nm i) = some .cell ∨ f.env.kindOf (nm i) = some .free) (R : Rel c f ⟨O, fr⟩ s)
    (hfin : ∀ (O₁ : Objs) (s₁ : Shared) (C D : Addr) (O' : Objs) (s' : Shared), StepO f.F f.H O s.heap O₁ s₁.heap → s₁.heap.get? C = none → C ∉ f.H → (∃ m, s'.heap.Ns C m) → Rel c (hide f [C]) ⟨O', fr⟩ s' → StepO f.F f.H O₁ s₁.heap O' s'.heap → Q (.ref D) O' → compPost (model c.prog c.w) A NoE use Qf (.ref D) C (.ok .next) s') :
    wpAny (model c.prog c.w) A (comprehension (.ListComp elt [⟨.Name (nm x) px, it', [], 0⟩] csc pos) csc f.env p2 (newList []) false (eval it' f.env) use) Qf NoE s := by
  have hs : ∀ x, foldedSetIterable it' f.env x = pure x := by
    intro y
    cases it' <;> first | rfl | (exact absurd hset Bool.false_ne_true)
  have hfs : ∀ i ∈ fs, ∃ av, fr i = some av := fun i m => Option.isSome_iff_exists.mp (List.all_eq_true.mp hall i m)
  obtain ⟨cl, hcl, hcl2⟩ := closure_ok (scope := csc) (env := f.env) fun p m q => by
    obtain ⟨i, mi, e⟩ := cs.fre p m q
    obtain ⟨av, e1⟩ := hfs i mi
    rcases R.vars i av e1 with ⟨k1, _⟩ | ⟨_, ca, w', a1, a2, a3, a4⟩
    · rcases ho i mi with k2 | k2 <;> (rw [k1] at k2; cases k2)
    · exact ⟨ca, by rw [e]; exact a1⟩
  refine wpAny_comprehension_free (use := use) rfl hs hcl cs.kd cs.loc ?_
  refine EE hi fun w s₁ v O₁ rw R₁ st₁ q₁ => ?_
  cases es : seqOf O₁ v with
  | none => rw [es] at q₁; exact q₁.elim
  | some full =>
    rw [es] at q₁
    refine comp_block (iter := it') (pos := pos) (use := use) (Qf := Qf) rm hb cs ho R₁ rw es q₁.1 hfs q₁.2 (px := px) (fun C D O' s' d ns R' st q => hfin O₁ s₁ C D O' s' st₁ d (fun m => ?_) ns R' st q) hcl2
    obtain ⟨_, o', e'⟩ := R₁.ro.hid C m
    rw [d] at e'; cases e'

theorem slc_eq (items : Array Value) (k : Nat) : slicePick items none (some (k : Int)) none = (items.toList.take k).toArray := by
  have key : sliceBounds none (some (k : Int)) none items.size = sliceBounds none (some ((min k items.size : Nat) : Int)) none items.size := by
    simp only [sliceBounds, Option.getD_none]
    have h2 : ¬ ((k : Int) < 0) := by omega
    have h3 : ¬ (((min k items.size : Nat) : Int) < 0) := by omega
    simp only [h2, h3, if_false, show (1 : Int) > 0 by decide, if_true]
    congr 2
    omega
  have e : slicePick items none (some (k : Int)) none = slicePick items none (some ((min k items.size : Nat) : Int)) none := by
    unfold slicePick; rw [key]
  rw [e, slicePick_upto _ _ (by omega)]
  congr 1
  rw [← Array.length_toList]
  simp

theorem slc_ok {A : Around} {s : Shared} {f : Frm} {fr : Nat → Option AV} {O : Objs} {i k : Nat} {l : List AV} {xp kp sp pos : Pos} {kk : Nat} {Q : AV → Objs → Prop} (R : Rel c f ⟨O, fr⟩ s) (e : fr i = some (.lst l)) (hl : l.length < lim) (q : newM O (.list (l.take k)) Q) :
    wpAny (model c.prog c.w) A (eval (.Subscript (.Name (nm i) xp) (.Slice none (some (.Constant (.int (k : Int)) kk kp)) none sp) pos) f.env) (Post c f fr O s.heap Q) NoE s := by
  refine wpAny_Subscript_Slice list_getitem_lookup ?_
  refine EE (name_ok (Q := fun v O₁ => v = .lst l ∧ O₁ = O) R e ⟨rfl, rfl⟩) fun w s₁ x O₁ rw R₁ st q₁ => ?_
  obtain ⟨rfl, rfl⟩ := q₁
  refine wpAny_Slice (wpAny_pure ?_)
  rw [evalPart_some]
  refine wpAny_Constant_int (wpAny_pure ?_)
  cases rw with | lst h1 hc hd h2 =>
  rename_i a ob vs m
  have hg := frz_in O₁ f.H s₁.heap
  have il : s₁.heap.IsList a vs := ⟨_, hg _ _ h1, hc, _, hd⟩
  have hsz : vs.size = l.length := by rw [← h2.length, Array.length_toList]
  refine ⟨Heap.IsList.typeIs (il.push _), wpAny_getItem_list_slice (il.push _) (Heap.IsSliceOf.new ..) .none (.int _ _) .none (by simp) ?_ (lim_le (by omega))⟩
  rw [slc_eq]
  have R₂ : Rel c f ⟨O₁, fr⟩ { s₁ with heap := s₁.heap.push { cls := .type "slice", data := .fields #[.none, .int (k : Int) s₁.toks, .none] }, toks := s₁.toks + 1 } := R₁.keeps (fun b o e => Heap.get?_push_of_some _ e) _
  have P := Post.new (Q := Q) (mo := .list (l.take k)) R₂ (h' := (s₁.heap.push { cls := .type "slice", data := .fields #[.none, .int (k : Int) s₁.toks, .none] }).push { cls := .type "list", data := .seq (vs.toList.take k).toArray }) (fun b o e => Heap.get?_push_of_some _ e) (s₁.toks + 1)
    ⟨_, _, Heap.get?_push_size _ rfl, by
      show RVs _ (List.take k vs.toList).toArray.toList _
      rw [List.toList_toArray]
      exact (h2.take k).mono ((frz_keeps fun b o e => Heap.get?_push_of_some _ e).trans (frz_up (.inr (dead_size _)) fun b o _ e => Heap.get?_push_of_some _ e))⟩ q
  exact (P.step (.keeps fun b o e => Heap.get?_push_of_some _ e)).step st
end
end Mine

namespace Mine

section
variable {c : Cx} {n : Nat}

theorem nset_of {e : Expr} (h : noSl e = true) (o i : Value) : subscripted e false o i = operate [o, i] (getItem o i) := by
  cases e <;> first | rfl | (exact absurd h Bool.false_ne_true)
theorem base_of {e : Expr} {a : Str} {env : Env} {w : Sem Value} (h : noCall e = true) : attributeBase e a env w = w := by
  cases e <;> first | rfl | (exact absurd h Bool.false_ne_true)
theorem attr_eq {value : Expr} {attr : Str} {pos : Pos} {env : Env} (h : noCall value = true) : eval (.Attribute value attr pos) env = (do
      let o ← eval value env
      standAt pos.atName
      let r ← holding [o] (getAttr o attr true)
      letTemporaryGo value o r
      pure r) := by
  cases value <;> first | rfl | (exact absurd h Bool.false_ne_true)

theorem newM_list {A : Around} {s : Shared} {f : Frm} {fr : Nat → Option AV} {O : Objs} {l : List AV} {vs : List Value} {Q : AV → Objs → Prop} (R : Rel c f ⟨O, fr⟩ s) (r : RVs (frz O f.H s.heap) vs l) (q : newM O (.list l) Q) :
    Post c f fr O s.heap Q (.ref s.heap.objs.size) { s with heap := s.heap.push { cls := .type "list", data := .seq vs.toArray } } := by
  refine Post.new (s := s) (mo := .list l) R (fun b o e => Heap.get?_push_of_some _ e) s.toks ⟨_, _, Heap.get?_push_size _ rfl, ?_⟩ q
  rw [List.toList_toArray]
  exact r.mono (frz_up (.inr (dead_size _)) fun b o _ e => Heap.get?_push_of_some _ e)
theorem new_tuple {A : Around} {s : Shared} {f : Frm} {fr : Nat → Option AV} {O : Objs} {l : List AV} {vs : List Value} {Q : AV → Objs → Prop} (R : Rel c f ⟨O, fr⟩ s) (r : RVs (frz O f.H s.heap) vs l) (q : Q (.tup l) O) :
    Post c f fr O s.heap Q (.ref s.heap.objs.size) { s with heap := s.heap.push { cls := .type "tuple", data := .seq vs.toArray } } := by
  refine Post.keeps (s := s) (x := .tup l) R (fun b o e => Heap.get?_push_of_some _ e) s.toks (.tup (frz_new R (Heap.get?_push_size _ rfl)) ?_) q
  rw [List.toList_toArray]
  exact r.mono (frz_keeps fun b o e => Heap.get?_push_of_some _ e)

theorem Rel.dropHide {f : Frm} {σ : St} {s' : Shared} {C : Addr} {m : Str → Option Value} (R' : Rel c (Mine.hide f [C]) σ s') (sub : ∀ b ∈ f.F, b ∈ f.H) (nC : C ∉ f.H) (ns : s'.heap.Ns C m) {h' : Heap} (k : ∀ b o, b ≠ C → s'.heap.get? b = some o → h'.get? b = some o) :
    Rel c f σ { s' with heap := h' } := by
  have own : ∀ b, b ∈ f.F → ∀ o, s'.heap.get? b = some o → h'.get? b = some o := fun b m o e => k b o (fun q => nC (q ▸ sub b m)) e
  have x := R'.fo.same own
  have fz : FzLe (frz σ.O (C :: f.H) s'.heap) (frz σ.O f.H h') := fun b o e => by
    obtain ⟨e1, e2, e3⟩ := frz_some.mp e
    rw [List.mem_cons, not_or] at e2
    exact frz_some.mpr ⟨e1, e2.2, k _ _ e2.1 e3⟩
  refine ⟨RelO.drop (H := f.H) R'.ro nC k s'.toks, ⟨sub, x.loc, x.ns, x.cel, x.inj, x.nf, x.kd, x.gl, x.bl⟩, fun i av e => ?_⟩
  rcases R'.vars i av e with ⟨k1, mc, v, z1, z2, z3⟩ | ⟨k1, ca, v, a1, a2, a3, a4⟩
  · obtain ⟨o, es, ep, e1, e2⟩ := z1
    exact .inl ⟨k1, mc, v, ⟨o, es, ep, own _ R'.fo.loc _ e1, e2⟩, z2, z3.mono fz⟩
  · have ne : ca ≠ C := fun q => cell_not_ns a3 (q ▸ ns)
    obtain ⟨o, e1, e2⟩ := a3
    refine .inr ⟨k1, ca, v, a1, ?_, ⟨o, k _ _ ne e1, e2⟩, a4.mono fz⟩
    rcases List.mem_cons.mp a2 with q | q
    · exact absurd q ne
    · exact q

theorem optP {o : Option AV} {P : AV → Prop} (h : match o with | some z => P z | none => False) : ∃ z, o = some z ∧ P z := by
  cases o with
  | none => exact h.elim
  | some z => exact ⟨z, rfl, h⟩
theorem optB {o : Option Bool} {P : Bool → Prop} (h : match o with | some z => P z | none => False) : ∃ z, o = some z ∧ P z := by
  cases o with
  | none => exact h.elim
  | some z => exact ⟨z, rfl, h⟩
theorem intP {x : AV} {P : Int → Prop} (h : match x with | .int k => P k | _ => False) : ∃ k, x = .int k ∧ P k := by
  cases x with
  | int k => exact ⟨_, rfl, h⟩
  | _ => exact False.elim h
theorem lstP {o : Option AV} {P : List AV → Prop} (h : match o with | some (.lst l) => P l | _ => False) : ∃ l, o = some (.lst l) ∧ P l := by
  cases o with
  | none => exact False.elim h
  | some x => cases x with
    | lst l => exact ⟨l, rfl, h⟩
    | _ => exact False.elim h
theorem insP {x : AV} {P : Addr → Addr → List (Nat × AV) → Prop} (h : match x with | .inst x C l => P x C l | _ => False) : ∃ a C l, x = .inst a C l ∧ P a C l := by
  cases x with
  | inst a C l => exact ⟨a, C, l, rfl, h⟩
  | _ => exact False.elim h
theorem lt_of_1000 {k : Nat} (h : k < 1000) : k ≤ 16777216 := Nat.le_trans (Nat.le_of_lt h) (by decide)
theorem SE.no {x : X} (h : ∀ fr O Q, wpE c n x fr O Q → False) : SE c n x := fun f fr O Q e A s ch rm R wp => (h fr O Q wp).elim
theorem ST.no {x : X} (h : ∀ fr O Q, wpT c n x fr O Q → False) : ST c n x := fun f fr O Q e A s ch rm R wp => (h fr O Q wp).elim
theorem SL.no {x : X} (h : ∀ fr O Q, wpL c n x fr O Q → False) : SL c n x := fun f fr O Q e p A s ch rm R wp => (h fr O Q wp).elim
theorem ST.val {x : X} (E : SE c n x) (hx : ∀ fr O Q, wpT c n x fr O Q → wpE c n x fr O fun v O => truA v fun b => Q b O)
    (hv : ∀ sc e env w, chkE c.K x sc e = true → isTrue e env w = (do let v ← w; standAt e.pos; holding [v] (truthy v))) : ST c n x := fun f fr O Q e A s ch rm R wp =>
  wpAny_isTrue_value (EE (E f fr O _ e A s ch rm R (hx fr O Q wp)) fun w s₁ x O₁ rv R₁ st q => by
    obtain ⟨t, rfl, rfl, q⟩ := truA_of rv q
    exact wpAny_truthy_bool ⟨O₁, R₁, st, q⟩) (hv _ e f.env _ ch)
theorem SE.only {x : X} (E : SE c n x) (hT : ∀ fr O Q, wpT c n x fr O Q → False) (hL : ∀ fr O Q, wpL c n x fr O Q → False) : SE c n x ∧ ST c n x ∧ SL c n x := ⟨E, .no hT, .no hL⟩

theorem ev_cons {h t : X} (ihh : SE c n h) (iht : SL c n t) : SL c n (.cons h t) := fun f fr O Q es pos A s ch rm R wp => by
  have hs := chkL_star ch
  revert hs
  refine consV_e (P := fun es => es.all noStar = true → wpAny _ A (spliced (backTo pos (starEach es f.env))) (PostL c f fr O s.heap fun l O' => l.length = es.length ∧ Q l O') NoE s) ch fun e es ch hs => ?_
  refine wpAny_items_cons (EE (ihh f fr O _ _ A s (an (an ch).2).1 rm R wp) fun v s₁ x O₁ rv R₁ st q => ?_) (by rw [starEach_map hs, List.map_cons, starEach_map (an hs).2])
  refine LL (iht f fr O₁ _ es pos A s₁ (an (an ch).2).2 rm R₁ q) fun vs s₂ xs O₂ rvs R₂ st₂ q₂ => ?_
  exact ⟨x :: xs, O₂, .cons (rv.mono st₂.fz) rvs, R₂, st.trans st₂, congrArg (· + 1) q₂.1, q₂.2⟩
theorem ev_nil : SL c n .nil := fun f fr O Q es pos A s ch rm R wp =>
  emp_e (P := fun es => wpAny _ A (spliced (backTo pos (starEach es f.env))) (PostL c f fr O s.heap fun l O' => l.length = es.length ∧ Q l O') NoE s) ch (wpAny_items_nil ⟨[], O, .nil, R, .refl _ _ _ _, rfl, wp⟩)
theorem ev_var {i : Nat} : SE c n (.var i) := fun f fr O Q e A s ch rm R wp => nmV_e (an ch).1 fun p => by
  obtain ⟨v, e1, q⟩ := optP (o := fr i) (P := fun v => Q v O) wp
  exact name_ok R e1 q
theorem glb_val {K : Frag} {x : Str} {k : Int} (h : (match nsIn K mainGlobals x with | some (some (.int k' _)) => k' == k | _ => false) = true) : ∃ t, nsIn K mainGlobals x = some (some (.int k t)) := by
  split at h
  · rename_i k' t e
    exact ⟨t, by rw [e, eq_of_beq h]⟩
  · cases h
theorem ev_glb (ok : c.Ok) {i : Nat} {k : Int} : SE c n (.glb i k) := fun f fr O Q e A s ch rm R wp => nmV_e (an ch).1 fun p => by
  obtain ⟨t, e3⟩ := glb_val (an (an ch).2).2
  exact globName_ok ok R (eq_of_beq (an (an ch).2).1) (nm_dbg i) e3 (Post.now R s.toks .int wp)
theorem ev_neg {a : X} (iha : SE c n a) : SE c n (.neg a) := fun f fr O Q e A s ch rm R wp => unV_e ch fun o a' p ch => isUSub_e (P := fun o => wpAny _ A (eval (.UnaryOp o a' p) f.env) _ NoE s) (an ch).1
  (wpAny_UnaryOp (EE (iha f fr O _ _ A s (an ch).2 rm R wp) fun v s₁ x O₁ rv R₁ st q => by
    obtain ⟨k, rfl, q⟩ := intP (P := fun k => Q (.int (-k)) O₁) q
    cases rv
    exact stepE st (PyProof.Rows.neg_int (Post.now R₁ _ .int q))))
theorem ev_not {a : X} (iha : SE c n a) : SE c n (.not a) := fun f fr O Q e A s ch rm R wp => unV_e ch fun o a' p ch => isNot_e (P := fun o => wpAny _ A (eval (.UnaryOp o a' p) f.env) _ NoE s) (an ch).1
  (wpAny_UnaryOp (EE (iha f fr O _ _ A s (an ch).2 rm R wp) fun v s₁ x O₁ rv R₁ st q => by
    obtain ⟨b, rfl, rfl, q⟩ := truA_of rv q
    exact stepE st (not_value (wpAny_truthy_bool (Post.now R₁ s₁.toks .bool q)))))
theorem et_not {a : X} (iha : ST c n a) : ST c n (.not a) := fun f fr O Q e A s ch rm R wp => unV_e ch fun o a' p ch => isNot_e (P := fun o => wpAny _ A (isTrue (.UnaryOp o a' p) f.env (eval (.UnaryOp o a' p) f.env)) _ NoE s) (an ch).1
  (wpAny_isTrue_Not (TT (iha f fr O _ _ A s (an ch).2 rm R wp) fun b s₁ O₁ R₁ st q => ⟨O₁, R₁, st, q⟩))
theorem ev_bin {o : Operator} {a b : X} (iha : SE c n a) (ihb : SE c n b) : SE c n (.bin o a b) := fun f fr O Q e A s ch rm R wp => binV_e ch fun a' o' b' p ch => by
  cases eq_of_beq (an ch).1
  refine wpAny_BinOp (EE (iha f fr O _ _ A s (an (an ch).2).1 rm R wp) fun v s₁ x O₁ rv R₁ st q => ?_)
  refine EE (ihb f fr O₁ _ _ A s₁ (an (an ch).2).2 rm R₁ q) fun v' s₂ y O₂ rv' R₂ st₂ q₂ => ?_
  obtain ⟨z, e, q₂⟩ := optP (o := binA o x y) (P := fun z => Q z O₂) q₂
  exact stepE (st.trans st₂) (bin_ok e rv rv' fun r hr => Post.now R₂ _ (hr _) q₂)
theorem cmp_e {a b : X} {o : CmpOp} {K : Frag} {sc : Scope} {e : Expr} {P : Expr → Prop} (ch : chkE K (.cmp o a b) sc e = true) (H : ∀ a' b' p, behindInMarks o b' = false → chkE K a sc a' = true → chkE K b sc b' = true → P (.Compare a' [o] [b'] p)) : P e :=
  cmpV_e ch fun a' os bs p ch => consV_e (P := fun os => P (.Compare a' os bs p)) ch fun o' os ch => consV_e (P := fun bs => P (.Compare a' (o' :: os) bs p)) ch fun b' bs ch => by
    obtain ⟨h1, ch⟩ := an ch
    obtain ⟨h2, ch⟩ := an ch
    obtain ⟨h3, h4⟩ := an ch
    cases List.isEmpty_iff.mp h1
    cases List.isEmpty_iff.mp h2
    cases eq_of_beq h3
    exact H a' b' p (eq_of_beq (an h4).1) (an (an h4).2).1 (an (an h4).2).2
theorem ev_cmp (ok : c.Ok) {o : CmpOp} {a b : X} (iha : SE c n a) (ihb : SE c n b) : SE c n (.cmp o a b) := fun f fr O Q e A s ch rm R wp => cmp_e (P := fun e => wpAny _ A (eval e f.env) _ NoE s) ch fun a' b' p hm h2 h3 => by
  refine wpAny_Compare1 (EE (iha f fr O _ _ A s h2 rm R wp) fun v s₁ x O₁ rv R₁ st q => ?_) hm
  refine EE (ihb f fr O₁ _ _ A s₁ h3 rm R₁ q) fun v' s₂ y O₂ rv' R₂ st₂ q₂ => ?_
  obtain ⟨z, e, q₂⟩ := optB (o := cmpA O₂ o x y) (P := fun z => Q (.bool z) O₂) q₂
  exact stepE (st.trans st₂) (cmp_ok ok R₂.ro e (rv.mono st₂.fz) rv' (rm.lt (by decide)) fun t => Post.now R₂ _ .bool q₂)
theorem et_cmp (ok : c.Ok) {o : CmpOp} {a b : X} (iha : SE c n a) (ihb : SE c n b) : ST c n (.cmp o a b) := fun f fr O Q e A s ch rm R wp => cmp_e (P := fun e => wpAny _ A (isTrue e f.env (eval e f.env)) _ NoE s) ch fun a' b' p hm h2 h3 => by
  refine wpAny_isTrue_Compare1 (EE (iha f fr O _ _ A s h2 rm R wp) fun v s₁ x O₁ rv R₁ st q => ?_) hm
  refine EE (ihb f fr O₁ _ _ A s₁ h3 rm R₁ q) fun v' s₂ y O₂ rv' R₂ st₂ q₂ => ?_
  obtain ⟨z, e, q₂⟩ := optB (o := cmpA O₂ o x y) (P := fun z => Q z O₂) q₂
  exact cmp_ok ok R₂.ro e (rv.mono st₂.fz) rv' (rm.lt (by decide)) fun t => wpAny_truthy_bool ((PostT.now R₂ _ q₂).step (st.trans st₂))
theorem two_e {K : Frag} {sc : Scope} {a b : X} {es : List Expr} {P : List Expr → Prop} (ch : (consV es fun a' es => consV es fun b' es => es.isEmpty && (chkE K a sc a' && chkE K b sc b')) = true) (H : ∀ a' b', chkE K a sc a' = true → chkE K b sc b' = true → P [a', b']) : P es :=
  consV_e ch fun a' es ch => consV_e (P := fun es => P (a' :: es)) ch fun b' es ch => emp_e (P := fun es => P (a' :: b' :: es)) (an ch).1 (H a' b' (an (an ch).2).1 (an (an ch).2).2)
theorem ev_and {a b : X} (iha : SE c n a) (ihb : SE c n b) : SE c n (.and a b) := fun f fr O Q e A s ch rm R wp => boolV_e ch fun o es p ch => isAnd_e (P := fun o => wpAny _ A (eval (.BoolOp o es p) f.env) _ NoE s) (an ch).1 (two_e (P := fun es => wpAny _ A (eval (.BoolOp .And es p) f.env) _ NoE s) (an ch).2 fun a' b' h1 h2 =>
  wpAny_And2 (EE (iha f fr O _ _ A s h1 rm R wp) fun v s₁ x O₁ rv R₁ st q => by
    obtain ⟨t, rfl, rfl, q⟩ := truA_of rv q
    refine wpAny_truthy_bool ?_
    cases t with
    | true => exact stepE st (ihb f fr O₁ _ _ A s₁ h2 rm R₁ q)
    | false => exact (Post.now R₁ s₁.toks .bool q).step st))
theorem ev_or {a b : X} (iha : SE c n a) (ihb : SE c n b) : SE c n (.or a b) := fun f fr O Q e A s ch rm R wp => boolV_e ch fun o es p ch => isOr_e (P := fun o => wpAny _ A (eval (.BoolOp o es p) f.env) _ NoE s) (an ch).1 (two_e (P := fun es => wpAny _ A (eval (.BoolOp .Or es p) f.env) _ NoE s) (an ch).2 fun a' b' h1 h2 =>
  wpAny_Or2 (EE (iha f fr O _ _ A s h1 rm R wp) fun v s₁ x O₁ rv R₁ st q => by
    obtain ⟨t, rfl, rfl, q⟩ := truA_of rv q
    refine wpAny_truthy_bool ?_
    cases t with
    | false => exact stepE st (ihb f fr O₁ _ _ A s₁ h2 rm R₁ q)
    | true => exact (Post.now R₁ s₁.toks .bool q).step st))
theorem et_and {a b : X} (iha : ST c n a) (ihb : ST c n b) : ST c n (.and a b) := fun f fr O Q e A s ch rm R wp => boolV_e ch fun o es p ch => isAnd_e (P := fun o => wpAny _ A (isTrue (.BoolOp o es p) f.env (eval (.BoolOp o es p) f.env)) _ NoE s) (an ch).1 (two_e (P := fun es => wpAny _ A (isTrue (.BoolOp .And es p) f.env (eval (.BoolOp .And es p) f.env)) _ NoE s) (an ch).2 fun a' b' h1 h2 =>
  wpAny_isTrue_BoolOp (wpAny_allTrue_And_cons (TT (iha f fr O _ _ A s h1 rm R wp) fun t s₁ O₁ R₁ st q => by
    cases t with
    | true =>
      refine wpAny_allTrue_And_cons (TT (ihb f fr O₁ _ _ A s₁ h2 rm R₁ q) fun t s₂ O₂ R₂ st₂ q₂ => ?_)
      cases t with
      | true => exact wpAny_allTrue_And_nil ⟨O₂, R₂, st.trans st₂, q₂⟩
      | false => exact ⟨O₂, R₂, st.trans st₂, q₂⟩
    | false => exact ⟨O₁, R₁, st, q⟩)))
theorem et_or {a b : X} (iha : ST c n a) (ihb : ST c n b) : ST c n (.or a b) := fun f fr O Q e A s ch rm R wp => boolV_e ch fun o es p ch => isOr_e (P := fun o => wpAny _ A (isTrue (.BoolOp o es p) f.env (eval (.BoolOp o es p) f.env)) _ NoE s) (an ch).1 (two_e (P := fun es => wpAny _ A (isTrue (.BoolOp .Or es p) f.env (eval (.BoolOp .Or es p) f.env)) _ NoE s) (an ch).2 fun a' b' h1 h2 =>
  wpAny_isTrue_BoolOp (wpAny_allTrue_Or_cons (TT (iha f fr O _ _ A s h1 rm R wp) fun t s₁ O₁ R₁ st q => by
    cases t with
    | false =>
      refine wpAny_allTrue_Or_cons (TT (ihb f fr O₁ _ _ A s₁ h2 rm R₁ q) fun t s₂ O₂ R₂ st₂ q₂ => ?_)
      cases t with
      | false => exact wpAny_allTrue_Or_nil ⟨O₂, R₂, st.trans st₂, q₂⟩
      | true => exact ⟨O₂, R₂, st.trans st₂, q₂⟩
    | true => exact ⟨O₁, R₁, st, q⟩)))
theorem et_and3 {a b d : X} (iha : ST c n a) (ihb : ST c n b) (ihd : ST c n d) : ST c n (.and3 a b d) := fun f fr O Q e A s ch rm R wp => boolV_e ch fun o es p ch => isAnd_e (P := fun o => wpAny _ A (isTrue (.BoolOp o es p) f.env (eval (.BoolOp o es p) f.env)) _ NoE s) (an ch).1
  (consV_e (P := fun es => wpAny _ A (isTrue (.BoolOp .And es p) f.env (eval (.BoolOp .And es p) f.env)) _ NoE s) (an ch).2 fun a' es ch => two_e (K := c.K) (sc := f.env.scope) (a := b) (b := d) (P := fun es => wpAny _ A (isTrue (.BoolOp .And (a' :: es) p) f.env (eval (.BoolOp .And (a' :: es) p) f.env)) _ NoE s) (an ch).2 fun b' d' h2 h3 =>
  wpAny_isTrue_BoolOp (wpAny_allTrue_And_cons (TT (iha f fr O _ _ A s (an ch).1 rm R wp) fun t s₁ O₁ R₁ st q => by
    cases t with
    | true =>
      refine wpAny_allTrue_And_cons (TT (ihb f fr O₁ _ _ A s₁ h2 rm R₁ q) fun t s₂ O₂ R₂ st₂ q₂ => ?_)
      cases t with
      | true =>
        refine wpAny_allTrue_And_cons (TT (ihd f fr O₂ _ _ A s₂ h3 rm R₂ q₂) fun t s₃ O₃ R₃ st₃ q₃ => ?_)
        cases t with
        | true => exact wpAny_allTrue_And_nil ⟨O₃, R₃, (st.trans st₂).trans st₃, q₃⟩
        | false => exact ⟨O₃, R₃, (st.trans st₂).trans st₃, q₃⟩
      | false => exact ⟨O₂, R₂, st.trans st₂, q₂⟩
    | false => exact ⟨O₁, R₁, st, q⟩)))
theorem ev_ite {t a b : X} (iht : ST c n t) (iha : SE c n a) (ihb : SE c n b) : SE c n (.ite t a b) := fun f fr O Q e A s ch rm R wp => iteV_e ch fun t' a' b' p ch =>
  wpAny_IfExp (TT (iht f fr O _ _ A s (an ch).1 rm R wp) fun z s₁ O₁ R₁ st q => by
    cases z with
    | true => exact stepE st (iha f fr O₁ _ _ A s₁ (an (an ch).2).1 rm R₁ q)
    | false => exact stepE st (ihb f fr O₁ _ _ A s₁ (an (an ch).2).2 rm R₁ q))
theorem et_ite {t a b : X} (iht : ST c n t) (iha : ST c n a) (ihb : ST c n b) : ST c n (.ite t a b) := fun f fr O Q e A s ch rm R wp => iteV_e ch fun t' a' b' p ch => by
  show wpAny _ _ (isTrue t' f.env (eval t' f.env) >>= fun z => if z then isTrue a' f.env (eval a' f.env) else isTrue b' f.env (eval b' f.env)) _ _ _
  refine wpAny_bind (TT (iht f fr O _ _ A s (an ch).1 rm R wp) fun z s₁ O₁ R₁ st q => ?_)
  cases z with
  | true => exact stepT st (iha f fr O₁ _ _ A s₁ (an (an ch).2).1 rm R₁ q)
  | false => exact stepT st (ihb f fr O₁ _ _ A s₁ (an (an ch).2).2 rm R₁ q)
theorem ev_sub {a i : X} (iha : SE c n a) (ihi : SE c n i) : SE c n (.sub a i) := fun f fr O Q e A s ch rm R wp => subV_e ch fun a' i' p ch => by
  refine Subscript_ (EE (iha f fr O _ _ A s (an (an ch).2).1 rm R wp) fun v s₁ x O₁ rv R₁ st q => ?_)
  refine EE (ihi f fr O₁ _ _ A s₁ (an (an ch).2).2 rm R₁ q) fun v' s₂ y O₂ rv' R₂ st₂ q₂ => ?_
  obtain ⟨z, e, q₂⟩ := optP (o := subA O₂ x y) (P := fun z => Q z O₂) q₂
  exact stepE (st.trans st₂) (sub_ok R₂ (rv.mono st₂.fz) rv' e q₂ (nset_of (an ch).1))
theorem ev_slc {i k : Nat} : SE c n (.slc i k) := fun f fr O Q e A s ch rm R wp => subV_e ch fun a' i' p ch => by
  obtain ⟨h1, h2⟩ := an ch
  refine nmV_e h1 fun xp => slV_e h2 fun a b c p2 h => ?_
  cases Option.isNone_iff_eq_none.mp (an h).1
  cases Option.isNone_iff_eq_none.mp (an (an h).2).1
  refine someV_e (an (an h).2).2 fun b h => conV_e h fun b kk kp h => intV_e h ?_
  obtain ⟨l, e1, q⟩ := lstP wp
  exact slc_ok R e1 q.2.1 q.2.2
theorem ev_atr (ok : c.Ok) {a : X} {i : Nat} {C : Addr} (iha : SE c n a) : SE c n (.atr a i C) := fun f fr O Q e A s ch rm R wp => attrV_e ch fun a' m p ch => by
  cases eq_of_beq (an ch).1
  obtain ⟨h2, h3, h4⟩ : _ ∧ _ ∧ _ := ⟨(an (an ch).2).1, an (an (an ch).2).2⟩
  refine Attribute_any_ (EE (iha f fr O _ _ A s h4 rm R wp) fun v s₁ x O₁ rv R₁ st q => ?_) (attr_eq h3)
  obtain ⟨a, C', l, rfl, rfl, v', e1, q⟩ := insP q
  exact stepE st (atr_ok (v := .none) ok R₁ h2 rv e1 q)
theorem ev_tup {l : X} (ihl : SL c n l) : SE c n (.tup l) := fun f fr O Q e A s ch rm R wp => tupV_e ch fun es m p ch =>
  wpAny_Tuple (LL (ihl f fr O _ _ _ A s (an ch).2 rm R wp) fun vs s₁ x O₁ rv R₁ st q => ⟨by rw [rv.length, q.1, sizeLine_eq]; exact lt_of_1000 (of_decide_eq_true (an ch).1), (new_tuple (A := A) R₁ rv q.2).step st⟩)
theorem ev_lst {l : X} (ihl : SL c n l) : SE c n (.lst l) := fun f fr O Q e A s ch rm R wp => lstV_e ch fun es p ch =>
  wpAny_List (LL (ihl f fr O _ _ _ A s (an ch).2 rm R wp) fun vs s₁ x O₁ rv R₁ st q => ⟨by rw [rv.length, q.1, sizeLine_eq]; exact lt_of_1000 (of_decide_eq_true (an ch).1), (newM_list (A := A) R₁ rv q.2).step st⟩)
theorem ev_dct (ok : c.Ok) : SE c n .dct := fun f fr O Q e A s ch rm R wp => dctV_e ch fun p =>
  wpAny_Dict_empty (Post.new (s := s) (mo := .dictI []) R (fun b o e => Heap.get?_push_of_some _ e) s.toks ⟨sizeMods ok R.ro, [], ⟨_, #[], _, Heap.get?_push_size _ rfl, ⟨rfl, rfl, rfl⟩, rfl, (fun e he => nomatch he), .nil, List.nodup_nil⟩, .nil⟩ wp)
theorem ev_call (ok : c.Ok) {i : Nat} {g : Addr} {l : X} (ihl : SL c n l) : SE c n (.call i g l) := fun f fr O Q e A s ch rm R wp => callV_e ch fun h es p ch => nmV_e (P := fun h => wpAny _ A (eval (.Call h es [] p) f.env) _ NoE s) (an ch).1 fun xp => by
  obtain ⟨h2, ch⟩ := an (an ch).2
  obtain ⟨h3, ch⟩ := an ch
  obtain ⟨h4, h5⟩ := an ch
  refine eval_call_name (globName_ok ok R (eq_of_beq h2) (nm_dbg i) (eq_of_beq h3) ?_)
  exact callWith_ok (isFun_of h4).2.2 (chkL_star h5) (LL (ihl f fr O _ _ _ A s h5 rm R wp) fun vs s₁ x O₁ rv R₁ st q => ⟨kin_at ok R₁.ro, stepE st (CallOK.use rm R₁ rv q.2)⟩)
theorem ev_new (ok : c.Ok) {i : Nat} {C g : Addr} {l : X} (ihl : SL c n l) : SE c n (.new i C g l) := fun f fr O Q e A s ch rm R wp => callV_e ch fun h es p ch => nmV_e (P := fun h => wpAny _ A (eval (.Call h es [] p) f.env) _ NoE s) (an ch).1 fun xp => by
  obtain ⟨h2, ch⟩ := an (an ch).2
  obtain ⟨h3, ch⟩ := an ch
  obtain ⟨h4, h5⟩ := an ch
  refine eval_call_name (globName_ok ok R (eq_of_beq h2) (nm_dbg i) (eq_of_beq h3) ?_)
  exact callWith_ok (an (an (an h4).1).1).1 (chkL_star h5) (LL (ihl f fr O _ _ _ A s h5 rm R wp) fun vs s₁ x O₁ rv R₁ st q => ⟨kin_at ok R₁.ro, stepE st (CallOK.use rm R₁ rv q.2)⟩)
theorem ev_mth (ok : c.Ok) {a : X} {i : Nat} {C g : Addr} {l : X} (iha : SE c n a) (ihl : SL c n l) : SE c n (.mth a i C g l) := fun f fr O Q e A s ch rm R wp => mthV_e (P := fun e => wpAny _ A (eval e f.env) _ NoE s) ch fun a' es ap p h0 h3 ch => by
  obtain ⟨h2, ch⟩ := an ch
  obtain ⟨h4, ch⟩ := an ch
  obtain ⟨h5, h6⟩ := an ch
  refine methCall_ok (chkL_star h6) (of_decide_eq_true h4) h3 h0 (EE (iha f fr O _ _ A s h5 rm R wp) fun v s₁ x O₁ rv R₁ st q => ?_)
  obtain ⟨x', C', as, rfl, rfl, e1, q⟩ := insP q
  cases (inst_at (frz_in _ _ _) rv).1
  refine (getMethod_ok (Q := fun fx s₂ => wpAny (model c.prog c.w) A (callWith _ fx.1 fx.2 _ []) _ NoE s₂) ok R₁ h2 rv e1 ?_).2
  refine callWith_ok (isFun_of (an h2).2).2.2 (chkL_star h6) (LL (ihl f fr O₁ _ _ _ A s₁ h6 rm R₁ q) fun vs s₂ y O₂ rv₂ R₂ st₂ q₂ => ⟨kin_at ok R₂.ro, ?_⟩)
  exact stepE (st.trans st₂) (CallOK.use rm R₂ (.cons (rv.mono st₂.fz) rv₂) q₂.2)
theorem bf_keep (b : Bf) : keeperOf b.val = pure .machine := by cases b <;> rfl
theorem ev_bif (ok : c.Ok) {b : Bf} {l : X} (ihl : SL c n l) : SE c n (.bif b l) := fun f fr O Q e A s ch rm R wp => callV_e ch fun h es p ch => nmV_e (P := fun h => wpAny _ A (eval (.Call h es [] p) f.env) _ NoE s) (an ch).1 fun xp => by
  obtain ⟨h1, h2⟩ := an (an ch).2
  refine eval_call_name (bfName_ok ok R (eq_of_beq (an h1).1) (eq_of_beq (an h1).2) ?_)
  exact callWith_val (bf_keep b) (chkL_star h2) (LL (ihl f fr O _ _ _ A s h2 rm R wp) fun vs s₁ x O₁ rv R₁ st q => stepE st (bif_ok ok rm.hh R₁ rv q.2))
theorem ev_app {a x : X} (iha : SE c n a) (ihx : SE c n x) : SE c n (.app a x) := fun f fr O Q e A s ch rm R wp => mthV_e (P := fun e => wpAny _ A (eval e f.env) _ NoE s) ch fun a' es ap p h0 h2 ch => consV_e (P := fun es => wpAny _ A (eval (.Call (.Attribute a' _ ap) es [] p) f.env) _ NoE s) ch fun x' es ch => emp_e (P := fun es => wpAny _ A (eval (.Call (.Attribute a' _ ap) (x' :: es) [] p) f.env) _ NoE s) (an ch).1 (by
  obtain ⟨hx', ch⟩ := an (an ch).2
  obtain ⟨h3, h4⟩ := an ch
  have hs : [x'].all noStar = true := am hx' rfl
  refine methCall_ok hs (show 1 < 20 by decide) h2 h0 (EE (iha f fr O _ _ A s h3 rm R wp) fun v s₁ y O₁ rv R₁ st q => ?_)
  refine getMethod_list slot_list_append type_list_append R₁ rv q.1 fun b hb => ?_
  cases hb
  rw [starEach_map hs]
  refine P.append_list ?_
  refine EE (ihx f fr O₁ _ _ A s₁ h4 rm R₁ q.2) fun v' s₂ z O₂ rv' R₂ st₂ q₂ => ?_
  obtain ⟨a₀, ea, items, m, z1, z2, z3⟩ := append_ok (pos := p) (t := pure .none) R₂ (rv.mono st₂.fz) rv' q₂
  cases ea
  exact ⟨items, m, z1, z2, z3.step (st.trans st₂)⟩)
theorem popA_lst {O : Objs} {x : AV} {Q : AV → Objs → Prop} (q : popA O x Q) : lstA O x := by
  obtain ⟨a, e1, h1⟩ := oP_of q
  obtain ⟨l, e2, _⟩ := oP_of h1
  cases asRef_of e1
  exact ⟨l, asLst_of e2⟩
theorem revA_lst {O : Objs} {x : AV} {Q : AV → Objs → Prop} (q : revA O x Q) : lstA O x := by
  obtain ⟨a, e1, h1⟩ := oP_of q
  obtain ⟨l, e2, _⟩ := oP_of h1
  cases asRef_of e1
  exact ⟨l, asLst_of e2⟩
theorem ev_pop {a : X} (iha : SE c n a) : SE c n (.pop a) := fun f fr O Q e A s ch rm R wp => mthV_e (P := fun e => wpAny _ A (eval e f.env) _ NoE s) ch fun a' es ap p h0 h2 ch => emp_e (P := fun es => wpAny _ A (eval (.Call (.Attribute a' _ ap) es [] p) f.env) _ NoE s) (an ch).1 (by
  refine methCall_ok rfl (by decide) h2 h0 (EE (iha f fr O _ _ A s (an ch).2 rm R wp) fun v s₁ y O₁ rv R₁ st q => ?_)
  obtain ⟨b, rfl, _, z⟩ := pop_ok (A := A) (pos := p) R₁ rv q
  refine getMethod_list F.slot_list_pop F.type_list_pop R₁ rv (popA_lst q) fun b' hb => ?_
  cases hb
  exact stepE st z)
theorem ev_rev {a : X} (iha : SE c n a) : SE c n (.rev a) := fun f fr O Q e A s ch rm R wp => mthV_e (P := fun e => wpAny _ A (eval e f.env) _ NoE s) ch fun a' es ap p h0 h2 ch => emp_e (P := fun es => wpAny _ A (eval (.Call (.Attribute a' _ ap) es [] p) f.env) _ NoE s) (an ch).1 (by
  refine methCall_ok rfl (by decide) h2 h0 (EE (iha f fr O _ _ A s (an ch).2 rm R wp) fun v s₁ y O₁ rv R₁ st q => ?_)
  obtain ⟨b, rfl, _, z⟩ := rev_ok (A := A) (pos := p) R₁ rv q
  refine getMethod_list F.slot_list_reverse F.type_list_reverse R₁ rv (revA_lst q) fun b' hb => ?_
  cases hb
  exact stepE st z)
theorem ev_get (ok : c.Ok) {a k d : X} (iha : SE c n a) (ihk : SE c n k) (ihd : SE c n d) : SE c n (.get a k d) := fun f fr O Q e A s ch rm R wp => mthV_e (P := fun e => wpAny _ A (eval e f.env) _ NoE s) ch fun a' es ap p h0 h2 ch => consV_e (P := fun es => wpAny _ A (eval (.Call (.Attribute a' _ ap) es [] p) f.env) _ NoE s) ch fun k' es ch => consV_e (P := fun es => wpAny _ A (eval (.Call (.Attribute a' _ ap) (k' :: es) [] p) f.env) _ NoE s) ch fun d' es ch => emp_e (P := fun es => wpAny _ A (eval (.Call (.Attribute a' _ ap) (k' :: d' :: es) [] p) f.env) _ NoE s) (an ch).1 (by
  obtain ⟨hk', ch⟩ := an (an ch).2
  obtain ⟨hd', ch⟩ := an ch
  obtain ⟨h3, ch⟩ := an ch
  obtain ⟨h4, h5⟩ := an ch
  have hs : [k', d'].all noStar = true := am hk' (am hd' rfl)
  refine methCall_ok hs (show 2 < 20 by decide) h2 h0 (EE (iha f fr O _ _ A s h3 rm R wp) fun v s₁ y O₁ rv R₁ st q => ?_)
  refine getMethod_dct F.slot_dict_get F.type_dict_get R₁ rv q.1 fun b hb => ?_
  cases hb
  refine callWith_val rfl hs ?_
  rw [starEach_map hs]
  refine Calls.spliced_cons (EE (ihk f fr O₁ _ _ A s₁ h4 rm R₁ q.2) fun vk s₂ yk O₂ rk R₂ st₂ q₂ => ?_)
  refine Calls.spliced_cons (EE (ihd f fr O₂ _ _ A s₂ h5 rm R₂ q₂) fun vd s₃ yd O₃ rd R₃ st₃ q₃ => ?_)
  refine Calls.spliced_nil ?_
  have stt := (st.trans st₂).trans st₃
  obtain ⟨b', eb, nm', z⟩ := get_ok ok R₃ (rv.mono (st₂.trans st₃).fz) (rk.mono st₃.fz) rd q₃
  cases eb
  rcases z with ⟨k₀, fm, z1, z2, z3⟩ | ⟨b2, ks, xs, rfl, z2, z3, z4⟩
  · exact call_meetsIn F.slot_dict_get z2.typeIs F.entry_dict_get (F.args_dict_get_3 _ _ _) (meets_dict_get_default (PySem.strKind c.prog c.w) b z1 nm' vd) ⟨_, z2, z3.step stt⟩
  · exact call_meetsIn F.slot_dict_get z3.typeIs F.entry_dict_get (F.args_dict_get_3 _ _ _) (meetsH_dict_get_default (tupleKind (intKind c.prog c.w)) b b2 nm' vd) ⟨rm.lt (by decide), ks, xs, z2, z3, z4.step stt⟩)
theorem ev_sad {a x : X} (iha : SE c n a) (ihx : SE c n x) : SE c n (.sad a x) := fun f fr O Q e A s ch rm R wp => mthV_e (P := fun e => wpAny _ A (eval e f.env) _ NoE s) ch fun a' es ap p h0 h2 ch => consV_e (P := fun es => wpAny _ A (eval (.Call (.Attribute a' _ ap) es [] p) f.env) _ NoE s) ch fun x' es ch => emp_e (P := fun es => wpAny _ A (eval (.Call (.Attribute a' _ ap) (x' :: es) [] p) f.env) _ NoE s) (an ch).1 (by
  obtain ⟨hx', ch⟩ := an (an ch).2
  obtain ⟨h3, h4⟩ := an ch
  have hs : [x'].all noStar = true := am hx' rfl
  refine methCall_ok hs (show 1 < 20 by decide) h2 h0 (EE (iha f fr O _ _ A s h3 rm R wp) fun v s₁ y O₁ rv R₁ st q => ?_)
  refine getMethod_set F.slot_set_add F.type_set_add R₁ rv q.1 fun b hb => ?_
  cases hb
  refine callWith_val rfl hs ?_
  rw [starEach_map hs]
  refine Calls.spliced_cons (EE (ihx f fr O₁ _ _ A s₁ h4 rm R₁ q.2) fun v' s₂ z O₂ rv' R₂ st₂ q₂ => ?_)
  refine Calls.spliced_nil ?_
  obtain ⟨a₀, ea, z⟩ := sad_ok (A := A) R₂ (rv.mono st₂.fz) rv' q₂
  cases ea
  exact stepE (st.trans st₂) z)
theorem cpr_e {K : Frag} {sc : Scope} {e it : X} {x : Nat} {fs : List Nat} {t : Expr} {P : Expr → Prop} (ch : chkE K (.cpr e x fs it) sc t = true)
    (H : ∀ elt' yp it' csc p, chkCScope csc x fs = true → (∀ i ∈ fs, sc.names.lookup (nm i) = some .cell ∨ sc.names.lookup (nm i) = some .free) → noSet it' = true → chkE K it sc it' = true → chkE K e (relab csc sc) elt' = true → P (.ListComp elt' [⟨.Name (nm x) yp, it', [], 0⟩] csc p)) : P t :=
  lcV_e ch fun elt' gs csc p ch => consV_e (P := fun gs => P (.ListComp elt' gs csc p)) ch fun g gs ch => emp_e (P := fun gs => P (.ListComp elt' (g :: gs) csc p)) (an ch).1 (compV_e (P := fun g => P (.ListComp elt' [g] csc p)) (an ch).2 fun t it' ch => nmV_e (P := fun t => P (.ListComp elt' [⟨t, it', [], 0⟩] csc p)) (an ch).1 fun yp => by
    obtain ⟨h2, ch⟩ := an (an ch).2
    obtain ⟨h3, ch⟩ := an ch
    obtain ⟨h4, ch⟩ := an ch
    obtain ⟨h5, h6⟩ := an ch
    refine H elt' yp it' csc p h2 (fun i m => ?_) h4 h5 h6
    rcases Bool.or_eq_true_iff.mp (List.all_eq_true.mp h3 i m) with z | z
    · exact .inl (eq_of_beq z)
    · exact .inr (eq_of_beq z))
theorem ev_cpr {e it : X} {x : Nat} {fs : List Nat} (ihe : SE c n e) (ihit : SE c n it) : SE c n (.cpr e x fs it) := fun f fr O Q t A s ch rm R wp => cpr_e (P := fun t => wpAny _ A (eval t f.env) _ NoE s) ch fun elt' yp it' csc pos h2 h3 h4 h5 h6 => by
  rw [eval_ListComp]
  refine comp_ok (use := none) h4 rm (fun f' fr' O' Q' A' s' hsc rm' R' wp' => ihe f' fr' O' Q' elt' A' s' (by rw [hsc]; exact h6) rm' R' wp') wp.1 (ihit f fr O _ _ A s h5 rm R wp.2) (CScope.of h2) h3 R fun O₁ s₁ C D O' s' st₁ d nC ns R' st q => ?_
  obtain ⟨m, ns⟩ := ns
  refine ⟨m, ns, fun h' sb => ?_⟩
  have kk : ∀ b o, b ≠ C → s'.heap.get? b = some o → h'.get? b = some o := fun b o nb e => (sb.2 b nb).trans e
  exact ⟨.ref D, O', .ref, R'.dropHide R.fo.sub nC ns kk, st₁.trans (st.drop d kk), q⟩
theorem ev (ok : c.Ok) (x : X) : SE c n x ∧ ST c n x ∧ SL c n x := by
  induction x with
  | nil => exact ⟨.no fun _ _ _ w => w, .no fun _ _ _ w => w, ev_nil⟩
  | cons h t ihh iht => exact ⟨.no fun _ _ _ w => w, .no fun _ _ _ w => w, ev_cons ihh.1 iht.2.2⟩
  | var i => exact ⟨ev_var, .val ev_var (fun _ _ _ w => w) fun _ _ _ _ ch => nmV_e (an ch).1 fun p => rfl, .no fun _ _ _ w => w⟩
  | glb i k => exact (ev_glb ok).only (fun _ _ _ w => w) fun _ _ _ w => w
  | int k => exact SE.only (fun f fr O Q e A s ch rm R wp => conV_e ch fun b kk p ch => intV_e (P := fun b => wpAny _ A (eval (.Constant b kk p) f.env) _ NoE s) ch (wpAny_Constant_int (Post.now R _ .int wp))) (fun _ _ _ w => w) fun _ _ _ w => w
  | str x => exact SE.only (fun f fr O Q e A s ch rm R wp => conV_e ch fun b kk p ch => strV_e (P := fun b => wpAny _ A (eval (.Constant b kk p) f.env) _ NoE s) ch (wpAny_Constant_str (Post.now R _ .str wp))) (fun _ _ _ w => w) fun _ _ _ w => w
  | bol b => exact ⟨fun f fr O Q e A s ch rm R wp => conV_e ch fun b kk p ch => bolV_e (P := fun b => wpAny _ A (eval (.Constant b kk p) f.env) _ NoE s) ch (wpAny_Constant_bool (Post.now R s.toks .bool wp)),
      fun f fr O Q e A s ch rm R wp => conV_e ch fun b kk p ch => bolV_e (P := fun b => wpAny _ A (isTrue (.Constant b kk p) f.env (eval (.Constant b kk p) f.env)) _ NoE s) ch (wpAny_isTrue_value (wpAny_Constant_bool (wpAny_truthy_bool ⟨O, R, .refl _ _ _ _, wp⟩))), .no fun _ _ _ w => w⟩
  | neg a iha => exact (ev_neg iha.1).only (fun _ _ _ w => w) fun _ _ _ w => w
  | not a iha => exact ⟨ev_not iha.1, et_not iha.2.1, .no fun _ _ _ w => w⟩
  | bin o a b iha ihb => exact (ev_bin iha.1 ihb.1).only (fun _ _ _ w => w) fun _ _ _ w => w
  | cmp o a b iha ihb => exact ⟨ev_cmp ok iha.1 ihb.1, et_cmp ok iha.1 ihb.1, .no fun _ _ _ w => w⟩
  | and a b iha ihb => exact ⟨ev_and iha.1 ihb.1, et_and iha.2.1 ihb.2.1, .no fun _ _ _ w => w⟩
  | and3 a b d iha ihb ihd => exact ⟨.no fun _ _ _ w => w, et_and3 iha.2.1 ihb.2.1 ihd.2.1, .no fun _ _ _ w => w⟩
  | or a b iha ihb => exact ⟨ev_or iha.1 ihb.1, et_or iha.2.1 ihb.2.1, .no fun _ _ _ w => w⟩
  | ite t a b iht iha ihb => exact ⟨ev_ite iht.2.1 iha.1 ihb.1, et_ite iht.2.1 iha.2.1 ihb.2.1, .no fun _ _ _ w => w⟩
  | sub a i iha ihi => exact ⟨ev_sub iha.1 ihi.1, .val (ev_sub iha.1 ihi.1) (fun _ _ _ w => w) fun _ _ _ _ ch => subV_e ch fun a i p _ => rfl, .no fun _ _ _ w => w⟩
  | slc i k => exact ev_slc.only (fun _ _ _ w => w) fun _ _ _ w => w
  | atr a i C iha => exact (ev_atr ok iha.1).only (fun _ _ _ w => w) fun _ _ _ w => w
  | tup l ihl => exact (ev_tup ihl.2.2).only (fun _ _ _ w => w) fun _ _ _ w => w
  | lst l ihl => exact (ev_lst ihl.2.2).only (fun _ _ _ w => w) fun _ _ _ w => w
  | dct => exact (ev_dct ok).only (fun _ _ _ w => w) fun _ _ _ w => w
  | call i g l ihl => exact ⟨ev_call ok ihl.2.2, .val (ev_call ok ihl.2.2) (fun _ _ _ w => w) fun _ _ _ _ ch => callV_e ch fun _ _ _ _ => rfl, .no fun _ _ _ w => w⟩
  | new i C g l ihl => exact (ev_new ok ihl.2.2).only (fun _ _ _ w => w) fun _ _ _ w => w
  | mth a i C g l iha ihl => exact ⟨ev_mth ok iha.1 ihl.2.2, .val (ev_mth ok iha.1 ihl.2.2) (fun _ _ _ w => w) fun _ _ _ _ ch => callV_e ch fun _ _ _ _ => rfl, .no fun _ _ _ w => w⟩
  | «bif» b l ihl => exact (ev_bif ok ihl.2.2).only (fun _ _ _ w => w) fun _ _ _ w => w
  | app a x iha ihx => exact (ev_app iha.1 ihx.1).only (fun _ _ _ w => w) fun _ _ _ w => w
  | pop a iha => exact (ev_pop iha.1).only (fun _ _ _ w => w) fun _ _ _ w => w
  | rev a iha => exact (ev_rev iha.1).only (fun _ _ _ w => w) fun _ _ _ w => w
  | get a k d iha ihk ihd => exact (ev_get ok iha.1 ihk.1 ihd.1).only (fun _ _ _ w => w) fun _ _ _ w => w
  | sad a x iha ihx => exact (ev_sad iha.1 ihx.1).only (fun _ _ _ w => w) fun _ _ _ w => w
  | cpr e x fs it ihe ihit => exact (ev_cpr ihe.1 ihit.1).only (fun _ _ _ w => w) fun _ _ _ w => w
end
end Mine

namespace Mine

noncomputable def stOK (sc : Scope) (i : Nat) : Bool := sc.names.lookup (nm i) == some .local || sc.names.lookup (nm i) == some .cell
noncomputable def isComp (e : Expr) : Bool := Nat.ble 8 e.ctorIdx && Nat.ble e.ctorIdx 10
noncomputable def isCallE (e : Expr) : Bool := Nat.beq e.ctorIdx 16
noncomputable def isCS (e : Expr) : Bool := Nat.beq e.ctorIdx 16 || Nat.beq e.ctorIdx 21
theorem nt {b : Bool} (h : (!b) = true) : b = false := by
  cases b with
  | false => rfl
  | true => exact (Bool.false_ne_true h).elim
theorem ro {a b : Bool} (h : (a || b) = true) : a = true ∨ b = true := by
  cases a with
  | false => exact .inr h
  | true => exact .inl rfl
noncomputable def isFrz (x : S) : Bool := Nat.beq x.ctorIdx 15
theorem isFrz_of {x : S} (h : isFrz x = true) : ∃ i, x = .frz i := S.frz.elim (motive := fun x => ∃ i, x = .frz i) x (Nat.eq_of_beq_eq_true h) fun i => ⟨i, rfl⟩
noncomputable def oneV (l : List Expr) (k : Expr → Bool) : Bool := consV l fun t ts => ts.isEmpty && k t
@[elab_as_elim] theorem oneV_e {k : Expr → Bool} {P : List Expr → Prop} {l : List Expr} (h : oneV l k = true) (H : ∀ a, k a = true → P [a]) : P l :=
  consV_e h fun a t h => emp_e (P := fun t => P (a :: t)) (an h).1 (H a (an h).2)
noncomputable def asgV (e : Stmt) (k : List Expr → Expr → Pos → Bool) : Bool := if h : e.ctorIdx = 5 then Stmt.Assign.elim (motive_2 := fun _ => Bool) e h (fun ts v p => k ts v p) else false
@[elab_as_elim] theorem asgV_e {k : List Expr → Expr → Pos → Bool} {P : Stmt → Prop} {e : Stmt} (h : asgV e k = true) (H : ∀ ts v p, k ts v p = true → P (Stmt.Assign ts v p)) : P e := by
  obtain ⟨q, h⟩ := dif_t h
  exact Stmt.Assign.elim (motive_2 := fun e => ∀ q : e.ctorIdx = 5, Stmt.Assign.elim (motive_2 := fun _ => Bool) e q (fun ts v p => k ts v p) = true → P e) e q (fun ts v p q h => H ts v p h) q h
noncomputable def augV (e : Stmt) (k : Expr → Operator → Expr → Bool) : Bool := if h : e.ctorIdx = 7 then Stmt.AugAssign.elim (motive_2 := fun _ => Bool) e h (fun t o v _ => k t o v) else false
@[elab_as_elim] theorem augV_e {k : Expr → Operator → Expr → Bool} {P : Stmt → Prop} {e : Stmt} (h : augV e k = true) (H : ∀ t o v p, k t o v = true → P (Stmt.AugAssign t o v p)) : P e := by
  obtain ⟨q, h⟩ := dif_t h
  exact Stmt.AugAssign.elim (motive_2 := fun e => ∀ q : e.ctorIdx = 7, Stmt.AugAssign.elim (motive_2 := fun _ => Bool) e q (fun t o v _ => k t o v) = true → P e) e q (fun t o v p q h => H t o v p h) q h
noncomputable def exV (e : Stmt) (k : Expr → Bool) : Bool := if h : e.ctorIdx = 24 then Stmt.Expr.elim (motive_2 := fun _ => Bool) e h (fun v _ => k v) else false
@[elab_as_elim] theorem exV_e {k : Expr → Bool} {P : Stmt → Prop} {e : Stmt} (h : exV e k = true) (H : ∀ v p, k v = true → P (Stmt.Expr v p)) : P e := by
  obtain ⟨q, h⟩ := dif_t h
  exact Stmt.Expr.elim (motive_2 := fun e => ∀ q : e.ctorIdx = 24, Stmt.Expr.elim (motive_2 := fun _ => Bool) e q (fun v _ => k v) = true → P e) e q (fun v p q h => H v p h) q h
noncomputable def ifV (e : Stmt) (k : Expr → List Stmt → List Stmt → Bool) : Bool := if h : e.ctorIdx = 12 then Stmt.If.elim (motive_2 := fun _ => Bool) e h (fun t a b _ => k t a b) else false
@[elab_as_elim] theorem ifV_e {k : Expr → List Stmt → List Stmt → Bool} {P : Stmt → Prop} {e : Stmt} (h : ifV e k = true) (H : ∀ t a b p, k t a b = true → P (Stmt.If t a b p)) : P e := by
  obtain ⟨q, h⟩ := dif_t h
  exact Stmt.If.elim (motive_2 := fun e => ∀ q : e.ctorIdx = 12, Stmt.If.elim (motive_2 := fun _ => Bool) e q (fun t a b _ => k t a b) = true → P e) e q (fun t a b p q h => H t a b p h) q h
noncomputable def whlV (e : Stmt) (k : Expr → List Stmt → Bool) : Bool := if h : e.ctorIdx = 11 then Stmt.While.elim (motive_2 := fun _ => Bool) e h (fun t a b _ => b.isEmpty && k t a) else false
@[elab_as_elim] theorem whlV_e {k : Expr → List Stmt → Bool} {P : Stmt → Prop} {e : Stmt} (h : whlV e k = true) (H : ∀ t a p, k t a = true → P (Stmt.While t a [] p)) : P e := by
  obtain ⟨q, h⟩ := dif_t h
  exact Stmt.While.elim (motive_2 := fun e => ∀ q : e.ctorIdx = 11, Stmt.While.elim (motive_2 := fun _ => Bool) e q (fun t a b _ => b.isEmpty && k t a) = true → P e) e q (fun t a b p q h => emp_e (P := fun b => P (.While t a b p)) (an h).1 (H t a p (an h).2)) q h
noncomputable def forV (e : Stmt) (k : Expr → Expr → List Stmt → Bool) : Bool := if h : e.ctorIdx = 9 then Stmt.For.elim (motive_2 := fun _ => Bool) e h (fun t i a b _ => b.isEmpty && k t i a) else false
@[elab_as_elim] theorem forV_e {k : Expr → Expr → List Stmt → Bool} {P : Stmt → Prop} {e : Stmt} (h : forV e k = true) (H : ∀ t i a p, k t i a = true → P (Stmt.For t i a [] p)) : P e := by
  obtain ⟨q, h⟩ := dif_t h
  exact Stmt.For.elim (motive_2 := fun e => ∀ q : e.ctorIdx = 9, Stmt.For.elim (motive_2 := fun _ => Bool) e q (fun t i a b _ => b.isEmpty && k t i a) = true → P e) e q (fun t i a b p q h => emp_e (P := fun b => P (.For t i a b p)) (an h).1 (H t i a p (an h).2)) q h
noncomputable def retV (e : Stmt) (k : Expr → Bool) : Bool := if h : e.ctorIdx = 3 then Stmt.Return.elim (motive_2 := fun _ => Bool) e h (fun v _ => someV v k) else false
@[elab_as_elim] theorem retV_e {k : Expr → Bool} {P : Stmt → Prop} {e : Stmt} (h : retV e k = true) (H : ∀ v p, k v = true → P (Stmt.Return (some v) p)) : P e := by
  obtain ⟨q, h⟩ := dif_t h
  exact Stmt.Return.elim (motive_2 := fun e => ∀ q : e.ctorIdx = 3, Stmt.Return.elim (motive_2 := fun _ => Bool) e q (fun v _ => someV v k) = true → P e) e q (fun v p q h => someV_e (P := fun v => P (.Return v p)) h fun v h => H v p h) q h
noncomputable def cntV (e : Stmt) : Bool := if h : e.ctorIdx = 27 then Stmt.Continue.elim (motive_2 := fun _ => Bool) e h (fun _ => true) else false
@[elab_as_elim] theorem cntV_e {P : Stmt → Prop} {e : Stmt} (h : cntV e = true) (H : ∀ p, P (Stmt.Continue p)) : P e := by
  obtain ⟨q, h⟩ := dif_t h
  exact Stmt.Continue.elim (motive_2 := fun e => ∀ q : e.ctorIdx = 27, Stmt.Continue.elim (motive_2 := fun _ => Bool) e q (fun _ => true) = true → P e) e q (fun p q h => H p) q h
noncomputable def nkV (e : Expr) (y : Str) (k : Pos → Bool) : Bool := if h : e.ctorIdx = 23 then Expr.Name.elim (motive_1 := fun _ => Bool) e h (fun x p => x == y && k p) else false
@[elab_as_elim] theorem nkV_e {y : Str} {k : Pos → Bool} {P : Expr → Prop} {e : Expr} (h : nkV e y k = true) (H : ∀ p, k p = true → P (Expr.Name y p)) : P e := by
  obtain ⟨q, h⟩ := dif_t h
  exact Expr.Name.elim (motive_1 := fun e => ∀ q : e.ctorIdx = 23, Expr.Name.elim (motive_1 := fun _ => Bool) e q (fun x p => x == y && k p) = true → P e) e q (fun x p q h => beq_e (P := fun x => P (.Name x p)) (an h).1 (H p (an h).2)) q h
noncomputable def chkSet (K : Frag) (C : Addr) (i : Nat) : Bool := findIn K (.ref C) "__setattr__" == some (some (.builtin "object.__setattr__")) && plainOver K C && takerIn K C (nm i) == some none && hasDictIn K C

mutual
noncomputable def chkS (K : Frag) : S → Scope → Stmt → Bool
  | .nil, _, _ => false
  | .cons _ _, _, _ => false
  | .asg i e, sc, st => asgV st fun ts v _ => oneV ts fun t => nmV t (nm i) && (stOK sc i && ((!isComp v || sc.names.lookup (nm i) == some .cell) && chkE K e sc v))
  | .asc i elt x fs it, sc, st => asgV st fun ts v p => oneV ts fun t => nkV t (nm i) fun yp => sc.names.lookup (nm i) == some .local && ((lcV v fun _ _ csc cp => yp.line == cp.line && !(csc.names.any fun (n, k) => n == nm i && (k == .local || k == .cell))) && chkE K (.cpr elt x fs it) sc v)
  | .asg2 i j e, sc, st => asgV st fun ts v p => oneV ts fun t => tupV t fun es => consV es fun a es => oneV es fun b => nmV a (nm i) && (nmV b (nm j) && (stOK sc i && (stOK sc j && (isCS v && chkE K e sc v))))
  | .sat o i C e, sc, st => asgV st fun ts v p => oneV ts fun t => attrV t fun y a _ => nmV y (nm o) && (a == nm i && (chkSet K C i && (!isComp v && chkE K e sc v)))
  | .sit o k e, sc, st => asgV st fun ts v p => oneV ts fun t => subV t fun o' k' => !isComp v && (chkE K e sc v && (chkE K o sc o' && chkE K k sc k'))
  | .aug i op e, sc, st => augV st fun t op' v => nmV t (nm i) && (op' == op && (stOK sc i && chkE K e sc v))
  | .ex e, sc, st => exV st fun v => isCallE v && chkE K e sc v
  | .iff t a b, sc, st => ifV st fun t' a' b' => chkE K t sc t' && (chkB K a sc a' && chkB K b sc b')
  | .whl t b, sc, st => whlV st fun t' b' => chkE K t sc t' && chkB K b sc b'
  | .for x it b, sc, st => forV st fun t it' b' => nmV t (nm x) && (stOK sc x && (noSet it' && (chkE K it sc it' && chkB K b sc b')))
  | .ret e, sc, st => retV st fun v => chkE K e sc v
  | .cnt, sc, st => cntV st
  | .wild, _, _ => true
  | .frz _, _, _ => false
termination_by structural x => x
noncomputable def chkB (K : Frag) : S → Scope → List Stmt → Bool
  | .nil, _, sts => sts.isEmpty
  | .cons h t, sc, sts => bif isFrz h then chkB K t sc sts else consV sts fun st sts => chkS K h sc st && chkB K t sc sts
  | .wild, _, _ => true
  | _, _, _ => false
termination_by structural x => x
end

noncomputable def FlR (g : Fz) : Flow → Fl → Prop
  | .next, .next => True
  | .brk, .brk => True
  | .cont, .cont => True
  | .ret v, .ret x => RV g v x
  | _, _ => False
noncomputable def PostS (c : Cx) (f : Frm) (O₀ : Objs) (h₀ : Heap) (Q : Fl → St → Prop) : Flow → Shared → Prop :=
  fun fl s' => ∃ F σ', FlR (frz σ'.O f.H s'.heap) fl F ∧ Rel c f σ' s' ∧ StepO f.F f.H O₀ h₀ σ'.O s'.heap ∧ Q F σ'

section
variable {A : Around} {s : Shared} {c : Cx} {f : Frm} {fr : Nat → Option AV} {O : Objs} {n : Nat}

theorem PostS.step {O₀ O₁ : Objs} {h₀ h₁ : Heap} {Q : Fl → St → Prop} {v : Flow} {s' : Shared} (st : StepO f.F f.H O₀ h₀ O₁ h₁) (p : PostS c f O₁ h₁ Q v s') : PostS c f O₀ h₀ Q v s' :=
  let ⟨b, O', a1, a2, a3, a4⟩ := p; ⟨b, O', a1, a2, st.trans a3, a4⟩
theorem stepS {t : Sem Flow} {O₀ : Objs} {h₀ : Heap} {Q : Fl → St → Prop} (st : StepO f.F f.H O₀ h₀ O s.heap) (h : wpAny (model c.prog c.w) A t (PostS c f O s.heap Q) NoE s) : wpAny (model c.prog c.w) A t (PostS c f O₀ h₀ Q) NoE s :=
  wpAny_mono h (fun _ _ x => x.step st) fun _ _ x => x

theorem kind_of_stOK {i : Nat} (h : stOK f.env.scope i = true) : f.env.kindOf (nm i) = some .local ∨ f.env.kindOf (nm i) = some .cell := by
  unfold stOK at h
  rw [Bool.or_eq_true, beq_iff_eq, beq_iff_eq] at h
  exact h

/-- a ghost step: a finished object becomes a value -/
theorem frz_ok {i : Nat} {σ : St} {x C dx : Addr} {l : List (Nat × AV)} (R : Rel c f σ s) (e : σ.fr i = some (.ref x)) (e1 : σ.O x = some (.obj C dx)) (e2 : σ.O dx = some (.att l)) :
    Rel c f ⟨dl (dl σ.O x) dx, setf σ.fr i (.inst x C l)⟩ s ∧ StepO f.F f.H σ.O s.heap (dl (dl σ.O x) dx) s.heap := by
  have none_of : ∀ b, σ.O b = none → dl (dl σ.O x) dx b = none := fun b e => by
    unfold dl; split
    · rfl
    · split
      · rfl
      · exact e
  have fz : FzLe (frz σ.O f.H s.heap) (frz (dl (dl σ.O x) dx) f.H s.heap) := fun b o q => by
    obtain ⟨z1, z2, z3⟩ := frz_some.mp q
    exact frz_some.mpr ⟨none_of b z1, z2, z3⟩
  have hx : s.heap.get? x = some { cls := .ref C, dict := some dx, data := .plain } := R.ro.objs _ _ e1
  obtain ⟨es, ep, hd, ra⟩ := R.ro.objs _ _ e2
  have nx : x ∉ f.H := fun m => by rw [(R.ro.hid x m).1] at e1; cases e1
  have nd : dx ∉ f.H := fun m => by rw [(R.ro.hid dx m).1] at e2; cases e2
  refine ⟨⟨⟨fun b o q => ⟨(R.ro.base b o q).1, none_of b (R.ro.base b o q).2.1, (R.ro.base b o q).2.2⟩, fun b m => ⟨none_of b (R.ro.hid b m).1, (R.ro.hid b m).2⟩, fun a mo q => ?_, R.ro.gens, R.ro.os⟩, R.fo, fun j av q => ?_⟩, ⟨fz, fun _ _ _ _ e => e⟩⟩
  · have : σ.O a = some mo := by
      have q : (if a = dx then none else if a = x then none else σ.O a) = some mo := q
      split at q
      · cases q
      · split at q
        · cases q
        · exact q
    exact (R.ro.objs a mo this).same fz rfl
  · by_cases z : j = i
    · subst z
      have q' : (if j = j then some (AV.inst x C l) else σ.fr j) = some av := q
      rw [if_pos rfl] at q'; cases q'
      have zx : frz (dl (dl σ.O x) dx) f.H s.heap x = some { cls := .ref C, dict := some dx, data := .plain } := frz_some.mpr ⟨by unfold dl; split; rfl; rw [if_pos rfl], nx, hx⟩
      have zd : frz (dl (dl σ.O x) dx) f.H s.heap dx = some { cls := .type "dict", data := .dict es ep } := frz_some.mpr ⟨by unfold dl; rw [if_pos rfl], nd, hd⟩
      have rr : RV (frz (dl (dl σ.O x) dx) f.H s.heap) (.ref x) (.inst x C l) := .inst zx zd (ra.mono fz)
      rcases R.vars j _ e with ⟨k1, mc, v, z1, z2, z3⟩ | ⟨k1, ca, v, z1, z2, z3, z4⟩
      · cases z3; exact .inl ⟨k1, mc, _, z1, z2, rr⟩
      · cases z4; exact .inr ⟨k1, ca, _, z1, z2, z3, rr⟩
    · have q' : (if j = i then some (AV.inst x C l) else σ.fr j) = some av := q
      rw [if_neg z] at q'
      exact (R.vars j av q').same fz R.fo.loc (fun _ _ _ e => e) fun _ _ _ _ e => e

theorem putL_rva {g : Fz} {i : Nat} {v : Value} {av : AV} {hsh : Int} {t : Tok} (x : RV g v av) : ∀ {es : List DictEntry} {l : List (Nat × AV)}, RVA g es l → RVA g (putL (nm i) hsh (.str (nm i) t) v es) (put l i av)
  | _, _, .nil => .cons x .nil
  | _, _, .cons (h := hh) (i := j) (t := tj) (v := vj) h r => by
    unfold putL put
    by_cases q : j = i
    · subst q
      have : (DictEntry.mk hh (.str (nm j) tj) vj).key.isStr (nm j) = true := beq_self_eq_true _
      rw [if_pos this, if_pos rfl]
      exact .cons x r
    · have : (DictEntry.mk hh (.str (nm j) tj) vj).key.isStr (nm i) = false := beq_eq_false_iff_ne.mpr fun z => q (nm_inj _ _ z)
      rw [if_neg (by rw [this]; exact Bool.false_ne_true), if_neg q]
      exact .cons h (putL_rva x r)
theorem rva_len {g : Fz} : ∀ {es : List DictEntry} {l : List (Nat × AV)}, RVA g es l → es.length = l.length
  | _, _, .nil => rfl
  | _, _, .cons _ r => congrArg (· + 1) (rva_len r)
theorem put_len (i : Nat) (av : AV) : ∀ l : List (Nat × AV), (put l i av).length ≤ l.length + 1
  | [] => Nat.le_refl _
  | (j, b) :: r => by
    unfold put
    split
    · simp
    · have := put_len i av r; simp; omega

theorem osa_mine {x C dx : Addr} {i : Nat} {tk : Tok} {es : List DictEntry} {ep : Nat} {w : Value} {R : Result → Shared → Prop} (X : c.K.In s.heap) (hc : chkSet c.K C i = true)
    (hx : s.heap.get? x = some { cls := .ref C, dict := some dx, data := .plain }) (hd : s.heap.get? dx = some (dictOf es ep)) (hno : es.any (·.refKey) = false) (hl : es.length < 1000)
    (h : ∀ h', (∀ b o, b ≠ dx → s.heap.get? b = some o → h'.get? b = some o) → h'.get? dx = some (dictOf (putL (nm i) (PyData.keyHash c.w.params (nm i)) (.str (nm i) s.toks) w es) (putN (nm i) es ep)) → R (.ok (.ret .none)) { s with heap := h', toks := s.toks + 1 }) :
    codeAny (model c.prog c.w) A (.call (.builtin "object.__setattr__") ⟨[.ref x, .str (nm i) tk, w], []⟩) R s := by
  unfold chkSet at hc
  simp only [Bool.and_eq_true, beq_iff_eq] at hc
  obtain ⟨⟨⟨h1, h2⟩, h3⟩, h4⟩ := hc
  have I : InstAt s.heap x { cls := .ref C, dict := some dx, data := .plain } C (some (dictOf es ep)) := ⟨hx, rfl, rfl, hd⟩
  refine osa_open X I h2 h3 fun b => ?_
  obtain ⟨cd, hcc, hd'⟩ := any_some h4
  refine wpAny_bind (wpAny_pure (wpAny_bind (wpAny_bind (wpAny_loadPart hx (wpAny_bind ((looks_clsIn X hcc).here ?_))))))
  rw [hd']
  refine wpAny_pure (a := some dx) (wpAny_bind (wpAny_pure (wpAny_bind ?_)))
  unfold nsSet
  refine wpAny_bind (wpAny_bind (wpAny_askSetting (wpAny_pure (wpAny_bind (wpAny_mkText (wpAny_bind (wpAny_loadPart hd ?_)))))))
  dsimp only
  have cc : (!(es.toArray).any (·.key.isStr (nm i)) && (es.toArray).any (·.refKey)) = false := by
    have z : es.toArray.any (fun x : DictEntry => x.refKey) = false := by rw [← Array.any_toList]; exact hno
    rw [z, Bool.and_false]
  rw [aRefKeyMayBeTheName_at, cc]
  refine wpAny_updatePart hd ?_
  have hup : (s.heap.update dx (Obj.putName (nm i) (PyData.keyHash c.w.params (nm i)) (.str (nm i) s.toks) w)).get? dx = some (dictOf (putL (nm i) (PyData.keyHash c.w.params (nm i)) (.str (nm i) s.toks) w es) (putN (nm i) es ep)) := by
    have := putName_dict (nm i) (PyData.keyHash c.w.params (nm i)) (.str (nm i) s.toks) w es ep
    rw [← this]
    exact Heap.get?_update_self _ hd (by rw [this]; rfl)
  have len : ∀ (hs : Int) (k v : Value) (l : List DictEntry), (putL (nm i) hs k v l).length ≤ l.length + 1 := by
    intro hs k v l
    induction l with
    | nil => exact Nat.le_refl _
    | cons e r ih => unfold putL; split <;> simp <;> omega
  refine wpAny_bind (wpAny_lookBehind hup (pastItsLine_dict (by
    have := len (PyData.keyHash c.w.params (nm i)) (.str (nm i) s.toks) w es
    rw [List.size_toArray, sizeLine_eq]
    omega)) ?_)
  exact wpAny_pure (h _ (fun b o nb e => (Heap.get?_update_other _ _ (Ne.symm nb)).trans e) hup)

theorem sat_ok {x C dx : Addr} {i : Nat} {l : List (Nat × AV)} {w : Value} {av : AV} {Q : Unit → Shared → Prop} (ok : c.Ok) (hc : chkSet c.K C i = true) (R : Rel c f ⟨O, fr⟩ s) (e1 : O x = some (.obj C dx)) (e2 : O dx = some (.att l)) (hl : l.length < 100) (rv : RV (frz O f.H s.heap) w av)
    (q : ∀ s', Rel c f ⟨up O dx (.att (put l i av)), fr⟩ s' → StepO f.F f.H O s.heap (up O dx (.att (put l i av))) s'.heap → Q () s') : wpAny (model c.prog c.w) A (setAttr (.ref x) (nm i) w) Q NoE s := by
  have hc' := hc
  unfold chkSet at hc'
  simp only [Bool.and_eq_true, beq_iff_eq] at hc'
  have hx : s.heap.get? x = some { cls := .ref C, dict := some dx, data := .plain } := R.ro.objs _ _ e1
  obtain ⟨es, ep, hd, ra⟩ := R.ro.objs _ _ e2
  obtain ⟨esl⟩ := es
  have I : InstAt s.heap x { cls := .ref C, dict := some dx, data := .plain } C (some (dictOf esl ep)) := ⟨hx, rfl, rfl, hd⟩
  have X := kin_at ok R.ro
  refine set_plain X I hc'.1.1.1 (osa_mine (s := { s with toks := s.toks + 1 }) X hc hx hd ra.noRef (by rw [rva_len ra]; omega) fun h' k hup => ?_)
  have ha : (O dx).isSome = true ∨ s.heap.get? dx = none := .inl (by rw [e2]; rfl)
  have ra2 := putL_rva (i := i) (hsh := PyData.keyHash c.w.params (nm i)) (t := s.toks + 1) rv ra
  exact q _ (R.upd ha k _ ⟨_, _, hup, ra2.mono (frz_up ha k)⟩) (StepO.upd R.ro ha k)
end
end Mine

namespace Mine

section
variable {c : Cx} {n : Nat}

noncomputable abbrev SS (c : Cx) (n : Nat) (x : S) : Prop := ∀ (f : Frm) (σ : St) (Q : Fl → St → Prop) (e : Stmt) (A : Around) (s : Shared), chkS c.K x f.env.scope e = true → f.st = true → Room n A → Rel c f σ s → wpS c n x σ Q →
  wpAny (model c.prog c.w) A (exec e f.env) (PostS c f σ.O s.heap Q) NoE s
noncomputable abbrev SB (c : Cx) (n : Nat) (x : S) : Prop := ∀ (f : Frm) (σ : St) (Q : Fl → St → Prop) (es : List Stmt) (A : Around) (s : Shared), chkB c.K x f.env.scope es = true → f.st = true → Room n A → Rel c f σ s → wpS c n x σ Q →
  wpAny (model c.prog c.w) A (execs es f.env) (PostS c f σ.O s.heap Q) NoE s

theorem swaps_of {v : Expr} {t : Expr} {l : Nat} {env : Env} (h : isComp v = false) : swapsWith v (some t) l env = pure false := by
  cases v <;> first | rfl | (exact absurd h.symm Bool.false_ne_true)
theorem swaps_name {v : Expr} {x : Str} {xp : Pos} {l : Nat} {env : Env} (h : isComp v = false ∨ env.kindOf x = some .cell) : swapsWith v (some (.Name x xp)) l env = pure false := by
  rcases h with h | h
  · exact swaps_of h
  · cases v <;> first
      | rfl
      | (show (pure (env.blockKind == .function && env.kindOf x == some .local && _ && _) : Sem Bool) = pure false
         rw [h]
         have : (some NameKind.cell == some NameKind.local) = false := by decide
         rw [this, Bool.and_false, Bool.false_and, Bool.false_and])

theorem fn_not_inter {env : Env} (h : env.scope.kind = .function) : interactive env = false := by
  unfold interactive; rw [h]; rfl

/-- the end of a loop: the iterator is let go -/
theorem Rel.endHide {f : Frm} {σ : St} {s' : Shared} {I : Addr} (hst : f.st = true) (R' : Rel c (Mine.hide f [I]) σ s') (sub : ∀ b ∈ f.F, b ∈ f.H) (nC : I ∉ f.H) {h' : Heap} (k : ∀ b o, b ≠ I → s'.heap.get? b = some o → h'.get? b = some o) :
    Rel c f σ { s' with heap := h' } := by
  have own : ∀ b, b ∈ f.F → ∀ o, s'.heap.get? b = some o → h'.get? b = some o := fun b m o e => k b o (fun q => nC (q ▸ sub b m)) e
  have x := R'.fo.same own
  have fz : FzLe (frz σ.O (I :: f.H) s'.heap) (frz σ.O f.H h') := fun b o e => by
    obtain ⟨e1, e2, e3⟩ := frz_some.mp e
    rw [List.mem_cons, not_or] at e2
    exact frz_some.mpr ⟨e1, e2.2, k _ _ e2.1 e3⟩
  refine ⟨RelO.drop (H := f.H) R'.ro nC k s'.toks, ⟨sub, x.loc, x.ns, x.cel, x.inj, x.nf, x.kd, x.gl, x.bl⟩, fun i av e => ?_⟩
  rcases R'.vars i av e with ⟨k1, mc, v, z1, z2, z3⟩ | ⟨k1, ca, v, a1, a2, a3, a4⟩
  · obtain ⟨o, es, ep, e1, e2⟩ := z1
    exact .inl ⟨k1, mc, v, ⟨o, es, ep, own _ R'.fo.loc _ e1, e2⟩, z2, z3.mono fz⟩
  · rcases k1 with k1 | k1
    · obtain ⟨ca', v', b1, b2, _⟩ := R'.fo.cel hst _ k1
      have b1' : f.env.cells.lookup (nm i) = some ca' := b1
      have a1' : f.env.cells.lookup (nm i) = some ca := a1
      rw [b1'] at a1'; cases a1'
      obtain ⟨o, e1, e2⟩ := a3
      exact .inr ⟨.inl k1, _, v, b1', sub _ b2, ⟨o, own _ b2 _ e1, e2⟩, a4.mono fz⟩
    · exact absurd k1 (R'.fo.nf hst _)

theorem iadd_ok {A : Around} {s : Shared} {a b : Int} {g g' : Fz} {v v' : Value} {Q : Value → Shared → Prop} (rx : RV g v (.int a)) (ry : RV g' v' (.int b)) (k : Q (.int (a + b) s.toks) { s with toks := s.toks + 1 }) : wpAny (model c.prog c.w) A (inplaceOp .Add v v') Q NoE s := by
  cases rx; cases ry
  exact wpAny_iadd_int k

theorem for_ok {A : Around} {s : Shared} {f : Frm} {fr : Nat → Option AV} {O : Objs} {x : Nat} {yp : Pos} {b' : List Stmt} {b : S} {v : AV} {w : Value} {full : List AV} {Q : Fl → St → Prop}
    (hst : f.st = true) (rm : Room n A) (ihb : SB c n b) (hc : chkB c.K b f.env.scope b' = true) (hx : stOK f.env.scope x = true) (R : Rel c f ⟨O, fr⟩ s) (rv : RV (frz O f.H s.heap) w v) (es : seqOf O v = some full) (hl : full.length < lim)
    (wp : forL x v full (fun σ K => wpS c n b σ K) full ⟨O, fr⟩ Q) :
    wpAny (model c.prog c.w) A (pyIter w) (fun it s₂ => codeAny (model c.prog c.w) A (.forLoop (.Name (nm x) yp) it b' [] f.env) (fun r s' => match r with | .ok fl => PostS c f O s.heap Q fl s' | .error e => cameBackBy (model c.prog c.w) A f.env NoE e s') s₂) NoE s := by
  refine iter_start R rv es fun o it0 => ?_
  generalize hI : s.heap.objs.size = I at it0
  have dI : s.heap.get? I = none := by rw [← hI]; exact dead_size _
  have nI : I ∉ f.H := fun m => by obtain ⟨_, o', e⟩ := R.ro.hid I m; rw [dI] at e; cases e
  have kp : ∀ b q, s.heap.get? b = some q → (s.heap.push o).get? b = some q := fun b q e => Heap.get?_push_of_some _ e
  have alI : ∃ q, (s.heap.push o).get? I = some q := by
    unfold IterAt at it0
    split at it0
    · obtain ⟨q, e, _⟩ := it0; exact ⟨q, e⟩
    · obtain ⟨_, _, _, _, _, q, e, _⟩ := it0; exact ⟨q, e⟩
    · exact ⟨_, it0⟩
    · exact it0.elim
  have dL : ∀ b ∈ [I], s.heap.get? b = none := fun b m => by simp at m; rw [m]; exact dI
  have R0 : Rel c (hide f [I]) ⟨O, fr⟩ { s with heap := s.heap.push o } := Rel.hide R kp dL (fun b m => by simp at m; rw [m]; exact alI) s.toks
  have it1 : IterAt (s.heap.push o) (frz O ([I] ++ f.H) (s.heap.push o)) I v 0 := it0.same (fun b q e => by
    obtain ⟨e1, e2, e3⟩ := frz_some.mp e
    refine frz_some.mpr ⟨e1, fun m => ?_, kp _ _ e3⟩
    rcases List.mem_append.mp m with m | m
    · rw [dL b m] at e3; cases e3
    · exact e2 m) fun _ e => e
  have mI : I ∈ [I] ++ f.H := by simp
  refine codeAny_forLoop (fun k s' => ∃ i σ', k = full.length - i ∧ i ≤ full.length ∧ Rel c (hide f [I]) σ' s' ∧ StepO (I :: f.F) ([I] ++ f.H) O (s.heap.push o) σ'.O s'.heap ∧ IterAt s'.heap (frz σ'.O ([I] ++ f.H) s'.heap) I v i ∧ seqOf σ'.O v = some full ∧
    forL x v full (fun σ K => wpS c n b σ K) (full.drop i) σ' Q) ?_ full.length ⟨0, ⟨O, fr⟩, rfl, Nat.zero_le _, R0, .refl _ _ _ _, it1, es, wp⟩
  rintro k s1 ⟨i, σ1, hk, hi, R1, st1, itt, es1, wp1⟩
  refine wpF (iter_next rm.hh R1.ro mI itt es1 hi (fun hend h' kk => ?_) fun w1 y h' t hy rw1 kk al it2 => ?_)
  · subst hend
    rw [List.drop_length] at wp1
    have wp2 : Q .next σ1 := wp1
    refine wpAny_execs_nil ?_
    have R2 := R1.endHide hst R.fo.sub nI kk
    have st3 := (st1.unhide dL kp).drop dI kk
    exact ⟨.next, σ1, trivial, R2, ⟨st3.fz, fun b m nf q e => st3.hid b m (fun z => by
      rcases List.mem_cons.mp z with z | z
      · exact nI (z ▸ m)
      · exact nf z) q e⟩, wp2⟩
  · have R2 : Rel c (hide f [I]) σ1 { s1 with heap := h', toks := t } := by
      have k' : ∀ b q, b ∉ ([I] ++ f.H) → s1.heap.get? b = some q → h'.get? b = some q := fun b q nb e => kk b q (fun z => nb (by rw [z]; exact mI)) e
      have nF : ∀ b ∈ f.F, b ≠ I := fun b m z => nI (z ▸ R.fo.sub b m)
      have fz := frz_own (O := σ1.O) k'
      have own : ∀ b, b ∈ f.F → ∀ q, s1.heap.get? b = some q → h'.get? b = some q := fun b m q e => kk b q (nF b m) e
      refine ⟨R1.ro.one mI kk al t, R1.fo.same own, fun j av e => ?_⟩
      rcases R1.vars j av e with ⟨k1, mc, v, z1, z2, z3⟩ | ⟨k1, ca, v, a1, a2, a3, a4⟩
      · obtain ⟨o, es, ep, e1, e2⟩ := z1
        exact .inl ⟨k1, mc, v, ⟨o, es, ep, own _ R1.fo.loc _ e1, e2⟩, z2, z3.mono fz⟩
      · rcases k1 with k1 | k1
        · obtain ⟨ca', v', b1, b2, _⟩ := R1.fo.cel hst _ k1
          rw [b1] at a1; cases a1
          obtain ⟨o, e1, e2⟩ := a3
          exact .inr ⟨.inl k1, _, v, b1, a2, ⟨o, own _ b2 _ e1, e2⟩, a4.mono fz⟩
        · exact absurd k1 (R1.fo.nf hst _)
    have st2 : StepO (I :: f.F) ([I] ++ f.H) O (s.heap.push o) σ1.O h' := st1.trans (.one (a := I) List.mem_cons_self mI kk)
    have sw : ∀ {O₁ O₂ : Objs} {h₁ h₂ : Heap}, StepO (hide f [I]).F (hide f [I]).H O₁ h₁ O₂ h₂ → StepO (I :: f.F) ([I] ++ f.H) O₁ h₁ O₂ h₂ := fun z => StepO.wide z fun b m => List.mem_cons_of_mem _ m
    have nF : I ∉ (hide f [I]).F := fun m => nI (R.fo.sub _ m)
    refine wpF (wpAny_assign_Name ?_)
    refine store_ok (f := hide f [I]) (O := σ1.O) (fr := σ1.fr) hst (kind_of_stOK (f := hide f [I]) hx) R2 rw1 fun s2 R3 st3 => ?_
    have di : full.drop i = y :: full.drop (i + 1) := by
      obtain ⟨hlt, e⟩ := List.getElem?_eq_some_iff.mp hy
      rw [List.drop_eq_getElem_cons hlt, e]
    have lt : i < full.length := (List.getElem?_eq_some_iff.mp hy).1
    rw [di] at wp1
    have it3 : IterAt s2.heap (frz σ1.O ([I] ++ f.H) s2.heap) I v (i + 1) := it2.same st3.fz fun q e => st3.hid I mI nF _ e
    refine wpF (wpAny_mono (ihb (hide f [I]) _ _ b' A s2 hc hst rm R3 wp1) (fun fl s3 ⟨F, σ4, z1, z2, z3, z4⟩ => ?_) fun _ _ h => h)
    have it4 : IterAt s3.heap (frz σ4.O ([I] ++ f.H) s3.heap) I v (i + 1) := it3.same z3.fz fun q e => z3.hid I mI nF _ e
    have st4 := (st2.trans (sw st3)).trans (sw z3)
    have fin : Rel c f σ4 { s3 with heap := s3.heap } ∧ StepO f.F f.H O s.heap σ4.O s3.heap := by
      refine ⟨z2.endHide hst R.fo.sub nI fun b q _ e => e, ?_⟩
      have st5 := st4.unhide dL kp
      exact ⟨st5.fz, fun b m nf q e => st5.hid b m (fun z => by
        rcases List.mem_cons.mp z with z | z
        · exact nI (z ▸ m)
        · exact nf z) q e⟩
    cases fl with
    | next =>
      cases F with
      | next => exact ⟨full.length - (i + 1), by omega, i + 1, σ4, rfl, lt, z2, st4, it4, z4.1, z4.2⟩
      | _ => exact z1.elim
    | cont =>
      cases F with
      | cont => exact ⟨full.length - (i + 1), by omega, i + 1, σ4, rfl, lt, z2, st4, it4, z4.1, z4.2⟩
      | _ => exact z1.elim
    | brk =>
      cases F with
      | brk => exact ⟨.next, σ4, trivial, fin.1, fin.2, z4⟩
      | _ => exact z1.elim
    | ret w =>
      cases F with
      | ret u => exact ⟨.ret u, σ4, RV.mono frz_wide z1, fin.1, fin.2, z4⟩
      | _ => exact z1.elim
end
end Mine

namespace Mine

section
variable {c : Cx} {n : Nat}

theorem refP {o : Option AV} {P : Addr → Prop} (h : match o with | some (.ref x) => P x | _ => False) : ∃ x, o = some (.ref x) ∧ P x := by
  cases o with
  | none => exact False.elim h
  | some x => cases x with
    | ref x => exact ⟨x, rfl, h⟩
    | _ => exact False.elim h
theorem aintP {o : Option AV} {P : Int → Prop} (h : match o with | some (.int x) => P x | _ => False) : ∃ x, o = some (.int x) ∧ P x := by
  cases o with
  | none => exact False.elim h
  | some x => cases x with
    | int x => exact ⟨x, rfl, h⟩
    | _ => exact False.elim h
theorem objP {o : Option MO} {P : Addr → Addr → Prop} (h : match o with | some (.obj C dx) => P C dx | _ => False) : ∃ C dx, o = some (.obj C dx) ∧ P C dx := by
  cases o with
  | none => exact False.elim h
  | some x => cases x with
    | obj C dx => exact ⟨C, dx, rfl, h⟩
    | _ => exact False.elim h
theorem attP {o : Option MO} {P : List (Nat × AV) → Prop} (h : match o with | some (.att l) => P l | _ => False) : ∃ l, o = some (.att l) ∧ P l := by
  cases o with
  | none => exact False.elim h
  | some x => cases x with
    | att l => exact ⟨l, rfl, h⟩
    | _ => exact False.elim h
theorem seqP {o : Option (List AV)} {P : List AV → Prop} (h : match o with | some full => P full | none => False) : ∃ l, o = some l ∧ P l := by
  cases o with
  | none => exact False.elim h
  | some x => exact ⟨x, rfl, h⟩
theorem pairP {v : AV} {P : AV → AV → Prop} (h : match v with | .tup [a, b] => P a b | _ => False) : ∃ a b, v = .tup [a, b] ∧ P a b := by
  split at h
  · exact ⟨_, _, rfl, h⟩
  · exact h.elim
@[elab_as_elim] theorem FlR.on {g : Fz} {fl : Flow} {F : Fl} {P : Flow → Fl → Prop} (z : FlR g fl F) (hn : P .next .next) (hb : P .brk .brk) (hc : P .cont .cont) (hr : ∀ w u, RV g w u → P (.ret w) (.ret u)) : P fl F := by
  cases fl <;> cases F <;> first | exact hn | exact hb | exact hc | exact hr _ _ z | exact False.elim z
theorem SS.no {x : S} (h : ∀ sc st, chkS c.K x sc st = false) : SS c n x := fun f σ Q e A s ch => (Bool.false_ne_true ((h _ _).symm.trans ch)).elim
theorem SB.no {x : S} (h : ∀ sc st, chkB c.K x sc st = false) : SB c n x := fun f σ Q e A s ch => (Bool.false_ne_true ((h _ _).symm.trans ch)).elim

theorem xb_nil : SB c n .nil := fun f σ Q es A s ch hst rm R wp => emp_e (P := fun es => wpAny _ A (execs es f.env) _ NoE s) ch (wpAny_execs_nil ⟨.next, σ, trivial, R, .refl _ _ _ _, wp⟩)
theorem frz_wp {i : Nat} {t : S} {σ : St} {Q : Fl → St → Prop} (wp : wpS c n (.cons (.frz i) t) σ Q) : ∃ x C dx l, σ.fr i = some (.ref x) ∧ σ.O x = some (.obj C dx) ∧ σ.O dx = some (.att l) ∧ wpS c n t ⟨dl (dl σ.O x) dx, setf σ.fr i (.inst x C l)⟩ Q := by
  obtain ⟨x, e, wp⟩ := refP wp
  obtain ⟨C, dx, e1, wp⟩ := objP wp
  obtain ⟨l, e2, wp⟩ := attP wp
  exact ⟨x, C, dx, l, e, e1, e2, wp⟩
theorem xb_cons {h t : S} (ihh : SS c n h) (iht : SB c n t) : SB c n (.cons h t) := fun f σ Q es A s ch hst rm R wp => by
  cases q : isFrz h with
  | true =>
    obtain ⟨i, rfl⟩ := isFrz_of q
    obtain ⟨x, C, dx, l, e, e1, e2, wp⟩ := frz_wp wp
    obtain ⟨R1, st1⟩ := frz_ok R e e1 e2
    exact wpAny_mono (iht f _ Q es A s ch hst rm R1 wp) (fun _ _ z => PostS.step st1 z) fun _ _ z => z
  | false =>
    have ch2 : (consV es fun st sts => chkS c.K h f.env.scope st && chkB c.K t f.env.scope sts) = true := by
      have ch' : (bif isFrz h then chkB c.K t f.env.scope es else consV es fun st sts => chkS c.K h f.env.scope st && chkB c.K t f.env.scope sts) = true := ch
      rw [q] at ch'; exact ch'
    refine consV_e (P := fun es => wpAny _ A (execs es f.env) _ NoE s) ch2 fun st sts ch => ?_
    refine wpAny_execs_cons (wpAny_mono (ihh f σ _ st A s (an ch).1 hst rm R wp) (fun fl s1 ⟨F, σ1, z1, z2, z3, z4⟩ => ?_) fun _ _ z => z)
    revert z4
    refine FlR.on z1 (fun z4 => ?_) (fun z4 => ⟨.brk, σ1, trivial, z2, z3, z4⟩) (fun z4 => ⟨.cont, σ1, trivial, z2, z3, z4⟩) fun w u r z4 => ⟨.ret u, σ1, r, z2, z3, z4⟩
    exact wpAny_mono (iht f σ1 Q sts A s1 (an ch).2 hst rm z2 z4) (fun _ _ z => PostS.step z3 z) fun _ _ z => z
theorem xs_asg (ok : c.Ok) {i : Nat} {e : X} : SS c n (.asg i e) := fun f σ Q st A s ch hst rm R wp => asgV_e (P := fun st => wpAny _ A (exec st f.env) _ NoE s) ch fun ts v p ch => oneV_e (P := fun ts => wpAny _ A (exec (.Assign ts v p) f.env) _ NoE s) ch fun t ch => nmV_e (P := fun t => wpAny _ A (exec (.Assign [t] v p) f.env) _ NoE s) (an ch).1 fun xp => by
  obtain ⟨h2, ch⟩ := an (an ch).2
  obtain ⟨h3, h4⟩ := an ch
  refine wpAny_Assign_Name (EE ((ev ok e).1 f σ.fr σ.O _ _ A s h4 rm R wp) fun w s₁ x O₁ rv R₁ st₁ q => ?_) (swaps_name ((ro h3).imp nt eq_of_beq))
  exact store_ok hst (kind_of_stOK h2) R₁ rv fun s' R' st' => ⟨.next, _, trivial, R', st₁.trans st', q⟩
theorem xs_asc (ok : c.Ok) {i x : Nat} {elt it : X} {fs : List Nat} : SS c n (.asc i elt x fs it) := fun f σ Q st A s ch hst rm R wp => asgV_e (P := fun st => wpAny _ A (exec st f.env) _ NoE s) ch fun ts v p ch => oneV_e (P := fun ts => wpAny _ A (exec (.Assign ts v p) f.env) _ NoE s) ch fun t ch => nkV_e (P := fun t => wpAny _ A (exec (.Assign [t] v p) f.env) _ NoE s) ch fun yp ch => by
  obtain ⟨h2, ch⟩ := an ch
  obtain ⟨h3, h4⟩ := an ch
  revert h3
  refine cpr_e (P := fun v => (lcV v fun _ _ csc cp => yp.line == cp.line && !(csc.names.any fun (n, k) => n == nm i && (k == .local || k == .cell))) = true → wpAny _ A (exec (.Assign [.Name (nm i) yp] v p) f.env) _ NoE s) h4 fun elt' yp2 it' csc pos g2 g3 g4 g5 g6 h3 => ?_
  have hsw : swapsWith (.ListComp elt' [⟨.Name (nm x) yp2, it', [], 0⟩] csc pos) (some (.Name (nm i) yp)) p.line f.env = pure true := by
    show (pure (f.env.blockKind == .function && f.env.kindOf (nm i) == some .local && yp.line == pos.line && !(csc.names.any fun (n, k) => n == nm i && (k == .local || k == .cell))) : Sem Bool) = pure true
    have e1 : (f.env.blockKind == .function) = true := by unfold Env.blockKind; rw [R.fo.kd]; rfl
    exact congrArg pure (am (am (am e1 h2) (an (a := yp.line == pos.line) h3).1) (an (a := yp.line == pos.line) h3).2)
  rw [exec_Assign_Name_used _ _ _ _ hsw]
  refine wpAny_bind (wpAny_standAt (wpAny_bind ?_))
  show wpAny _ A (do let _ ← comprehension (.ListComp elt' [⟨.Name (nm x) yp2, it', [], 0⟩] csc pos) csc f.env _ (newList []) false (eval it' f.env) (some (assign (.Name (nm i) yp) f.env))) _ _ s
  refine wpAny_bind (wpAny_mono (comp_ok (use := some (assign (.Name (nm i) yp) f.env)) (Qf := fun _ s' => PostS c f σ.O s.heap Q .next s') g4 rm (fun f' fr' O' Q' A' s' hsc rm' R' wp' => (ev ok elt).1 f' fr' O' Q' elt' A' s' (by rw [hsc]; exact g6) rm' R' wp') wp.1 ((ev ok it).1 f σ.fr σ.O _ _ A s g5 rm R wp.2) (CScope.of g2) g3 R fun O₁ s₁ C D O' s' st₁ d nC ns R' st q => ?_) (fun _ s' hq => wpAny_pure (wpAny_pure hq)) fun _ _ z => z)
  obtain ⟨m, ns⟩ := ns
  show wpAny _ A (assign (.Name (nm i) yp) f.env (.ref D)) _ _ s'
  refine wpAny_assign_Name (store_ok (f := hide f [C]) hst (.inl (eq_of_beq h2)) R' (.ref (a := D)) fun s2 R3 st3 => ?_)
  have nF : C ∉ (hide f [C]).F := fun mm => nC (R.fo.sub _ mm)
  have ns2 : s2.heap.Ns C m := let ⟨o, es, ep, e1, e2⟩ := ns; ⟨o, es, ep, st3.hid C (List.mem_append_left _ List.mem_cons_self) nF _ e1, e2⟩
  refine ⟨m, ns2, fun h' sb => ?_⟩
  have kk : ∀ b o, b ≠ C → s2.heap.get? b = some o → h'.get? b = some o := fun b o nb e => (sb.2 b nb).trans e
  have st4 : StepO f.F f.H O₁ s₁.heap O' s2.heap := by
    refine ⟨fun b o e => ?_, fun b m nf o e => st3.hid b (List.mem_append_right _ m) nf o (st.hid b m nf o e)⟩
    have z := frz_some.mp (st.fz b o e)
    refine frz_wide (L := [C]) _ _ (st3.fz b o (frz_some.mpr ⟨z.1, fun mm => ?_, z.2.2⟩))
    rcases List.mem_append.mp mm with mm | mm
    · cases List.mem_singleton.mp mm
      rw [(frz_some.mp e).2.2] at d; cases d
    · exact z.2.1 mm
  exact ⟨.next, _, trivial, R3.dropHide R.fo.sub nC ns2 kk, st₁.trans (st4.drop d kk), q⟩
theorem asg2_val {A : Around} {f : Frm} {s₁ : Shared} {O₁ : Objs} {fr : Nat → Option AV} {i j : Nat} {xp yp tp : Pos} {k : Nat} {a b : AV} {w : Value} {O₀ : Objs} {h₀ : Heap} {Q : Fl → St → Prop} (hst : f.st = true) (hh : A.handled = none) (h2 : stOK f.env.scope i = true) (h3 : stOK f.env.scope j = true)
    (rv : RV (frz O₁ f.H s₁.heap) w (.tup [a, b])) (R₁ : Rel c f ⟨O₁, fr⟩ s₁) (st₁ : StepO f.F f.H O₀ h₀ O₁ s₁.heap) (q : Q .next ⟨O₁, setf (setf fr i a) j b⟩) :
    wpAny (model c.prog c.w) A (assign (.Tuple [.Name (nm i) xp, .Name (nm j) yp] k tp) f.env w) (fun _ => PostS c f O₀ h₀ Q .next) NoE s₁ := by
  cases rv with | tup z1 z2 =>
  rename_i t vs m
  have hg := frz_in O₁ f.H s₁.heap
  obtain ⟨vs⟩ := vs
  cases z2 with | cons ra z2 =>
  cases z2 with | cons rb z2 =>
  cases z2
  rename_i va vb
  refine wpAny_assign_Tuple hh ⟨_, hg _ _ z1, rfl, _, rfl⟩ rfl rfl fun h' k => ?_
  have kk : ∀ b o, s₁.heap.get? b = some o → h'.get? b = some o := fun b o e => k b o (Nat.ne_of_lt (Heap.lt_size e)) e
  have R₂ := R₁.keeps kk s₁.toks
  have fz : FzLe (frz O₁ f.H s₁.heap) (frz O₁ f.H h') := frz_keeps kk
  show wpAny _ A (holding [vb] (assign (.Name (nm i) xp) f.env va) >>= fun _ => (holding [] (assign (.Name (nm j) yp) f.env vb) >>= fun _ => pure ())) _ _ _
  refine wpAny_bind (wpAny_holding (wpAny_assign_Name (store_ok hst (kind_of_stOK h2) R₂ (ra.mono fz) fun s2 R3 st3 => ?_)))
  refine wpAny_bind (wpAny_holding (wpAny_assign_Name (store_ok hst (kind_of_stOK h3) R3 ((rb.mono fz).mono st3.fz) fun s3 R4 st4 => wpAny_pure ?_)))
  exact ⟨.next, _, trivial, R4, ((st₁.trans (.keeps kk)).trans st3).trans st4, q⟩
theorem swaps2 {v : Expr} {l : Nat} {elts : List Expr} {k : Nat} {tp : Pos} {env : Env} (h : isCS v = true) : swapsWithSole [.Tuple elts k tp] v l env = pure false ∧ swappedStores [.Tuple elts k tp] v env = pure none := by
  cases v <;> first | exact ⟨rfl, rfl⟩ | (exact absurd h Bool.false_ne_true)
theorem xs_asg2 (ok : c.Ok) {i j : Nat} {e : X} : SS c n (.asg2 i j e) := fun f σ Q st A s ch hst rm R wp => asgV_e (P := fun st => wpAny _ A (exec st f.env) _ NoE s) ch fun ts v p ch => oneV_e (P := fun ts => wpAny _ A (exec (.Assign ts v p) f.env) _ NoE s) ch fun t ch => tupV_e (P := fun t => wpAny _ A (exec (.Assign [t] v p) f.env) _ NoE s) ch fun es k tp ch =>
  consV_e (P := fun es => wpAny _ A (exec (.Assign [.Tuple es k tp] v p) f.env) _ NoE s) ch fun a es ch => oneV_e (P := fun es => wpAny _ A (exec (.Assign [.Tuple (a :: es) k tp] v p) f.env) _ NoE s) ch fun b ch => nmV_e (P := fun a => wpAny _ A (exec (.Assign [.Tuple [a, b] k tp] v p) f.env) _ NoE s) (an ch).1 fun xp => nmV_e (P := fun b => wpAny _ A (exec (.Assign [.Tuple [.Name (nm i) xp, b] k tp] v p) f.env) _ NoE s) (an (an ch).2).1 fun yp => by
  obtain ⟨h2, ch⟩ := an (an (an ch).2).2
  obtain ⟨h3, ch⟩ := an ch
  obtain ⟨h4, h5⟩ := an ch
  refine Assign_Tuple (EE ((ev ok e).1 f σ.fr σ.O _ _ A s h5 rm R wp) fun w s₁ z O₁ rv R₁ st₁ q => ?_) (swaps2 (l := p.line) h4).1 (swaps2 (l := p.line) h4).2
  obtain ⟨a, b, rfl, q⟩ := pairP q
  exact asg2_val hst rm.hh h2 h3 rv R₁ st₁ q
theorem xs_sat (ok : c.Ok) {o i : Nat} {C : Addr} {e : X} : SS c n (.sat o i C e) := fun f σ Q st A s ch hst rm R wp => asgV_e (P := fun st => wpAny _ A (exec st f.env) _ NoE s) ch fun ts v p ch => oneV_e (P := fun ts => wpAny _ A (exec (.Assign ts v p) f.env) _ NoE s) ch fun t ch => attrV_e (P := fun t => wpAny _ A (exec (.Assign [t] v p) f.env) _ NoE s) ch fun y a tp ch =>
  nmV_e (P := fun y => wpAny _ A (exec (.Assign [.Attribute y a tp] v p) f.env) _ NoE s) (an ch).1 fun yp => by
  obtain ⟨h1, ch⟩ := an (an ch).2
  obtain ⟨h2, ch⟩ := an ch
  obtain ⟨h3, h4⟩ := an ch
  cases eq_of_beq h1
  refine plainObj_wpAny_Assign_Attribute (EE ((ev ok e).1 f σ.fr σ.O _ _ A s h4 rm R wp) fun w s₁ z O₁ rv R₁ st₁ q => ?_) (swaps_of (nt h3))
  obtain ⟨x, ex, q⟩ := refP q
  obtain ⟨C', dx, e1, rfl, q2⟩ := objP q
  obtain ⟨l, e2, q⟩ := attP q2
  refine EE (name_ok (Q := fun v O => v = .ref x ∧ O = O₁) R₁ ex ⟨rfl, rfl⟩) fun w2 s₂ z2 O₂ rv2 R₂ st₂ q2 => ?_
  obtain ⟨rfl, rfl⟩ := q2
  cases rv2
  exact sat_ok ok h2 R₂ e1 e2 q.1 (rv.mono st₂.fz) fun s' R' st' => ⟨.next, _, trivial, R', (st₁.trans st₂).trans st', q.2⟩
theorem xs_sit (ok : c.Ok) {o k e : X} : SS c n (.sit o k e) := fun f σ Q st A s ch hst rm R wp => asgV_e (P := fun st => wpAny _ A (exec st f.env) _ NoE s) ch fun ts v p ch => oneV_e (P := fun ts => wpAny _ A (exec (.Assign ts v p) f.env) _ NoE s) ch fun t ch => subV_e (P := fun t => wpAny _ A (exec (.Assign [t] v p) f.env) _ NoE s) ch fun o' k' tp ch => by
  obtain ⟨h1, ch⟩ := an ch
  obtain ⟨h2, ch⟩ := an ch
  obtain ⟨h3, h4⟩ := an ch
  refine wpAny_Assign_Subscript (EE ((ev ok e).1 f σ.fr σ.O _ _ A s h2 rm R wp) fun w s₁ z O₁ rv R₁ st₁ q => ?_) (swaps_of (nt h1))
  refine EE ((ev ok o).1 f σ.fr O₁ _ _ A s₁ h3 rm R₁ q) fun wo s₂ zo O₂ ro R₂ st₂ q₂ => ?_
  refine EE ((ev ok k).1 f σ.fr O₂ _ _ A s₂ h4 rm R₂ q₂) fun wk s₃ zk O₃ rk R₃ st₃ q₃ => ?_
  refine wpAny_mono (sit_ok ok R₃ (rm.lt (by decide)) (ro.mono st₃.fz) rk (rv.mono (st₂.trans st₃).fz) q₃) (fun _ s' ⟨O', z1, z2, z3⟩ => ?_) fun _ _ z => z
  exact ⟨.next, _, trivial, z1, ((st₁.trans st₂).trans st₃).trans z2, z3⟩
theorem augP {op : Operator} {v : AV} {P : Int → Prop} (h : match op, v with | .Add, .int b => P b | _, _ => False) : ∃ b, op = .Add ∧ v = .int b ∧ P b := by
  split at h
  · exact ⟨_, rfl, rfl, h⟩
  · exact h.elim
theorem xs_aug (ok : c.Ok) {i : Nat} {op : Operator} {e : X} : SS c n (.aug i op e) := fun f σ Q st A s ch hst rm R wp => augV_e (P := fun st => wpAny _ A (exec st f.env) _ NoE s) ch fun t op' v p ch => nmV_e (P := fun t => wpAny _ A (exec (.AugAssign t op' v p) f.env) _ NoE s) (an ch).1 fun xp => by
  obtain ⟨h1, ch⟩ := an (an ch).2
  obtain ⟨h2, h3⟩ := an ch
  cases eq_of_beq h1
  obtain ⟨a, ea, wp⟩ := aintP wp
  refine wpAny_AugAssign_Name ?_
  refine EE (loadName_ok (Q := fun v O => v = .int a ∧ O = σ.O) R ea ⟨rfl, rfl⟩) fun w s₁ z O₁ rv R₁ st₁ q => ?_
  obtain ⟨rfl, rfl⟩ := q
  refine EE ((ev ok e).1 f σ.fr σ.O _ _ A s₁ h3 rm R₁ wp) fun w2 s₂ z2 O₂ rv2 R₂ st₂ q₂ => ?_
  obtain ⟨b, rfl, rfl, q₂⟩ := augP q₂
  refine iadd_ok rv rv2 ?_
  exact store_ok hst (kind_of_stOK h2) (R₂.toks (s₂.toks + 1)) .int fun s' R' st' => ⟨.next, _, trivial, R', (st₁.trans st₂).trans st', q₂⟩
theorem exP {z : AV} {P : Prop} (h : match z with | .none => P | .int _ => P | _ => False) : (z = .none ∨ ∃ k, z = .int k) ∧ P := by
  cases z with
  | none => exact ⟨.inl rfl, h⟩
  | int k => exact ⟨.inr ⟨k, rfl⟩, h⟩
  | _ => exact False.elim h
theorem xs_ex (ok : c.Ok) {e : X} : SS c n (.ex e) := fun f σ Q st A s ch hst rm R wp => exV_e (P := fun st => wpAny _ A (exec st f.env) _ NoE s) ch fun v p ch => by
  refine wpAny_Expr (EE ((ev ok e).1 f σ.fr σ.O _ _ A s (an ch).2 rm R wp) fun w s₁ z O₁ rv R₁ st₁ q => ?_) (fn_not_inter R.fo.kd) ?_
  · obtain ⟨rfl | ⟨k, rfl⟩, q⟩ := exP q <;> (cases rv; exact ⟨.next, _, trivial, R₁, st₁, q⟩)
  · have h := (an ch).1
    cases v <;> first | rfl | (exact absurd h Bool.false_ne_true)
theorem xs_iff (ok : c.Ok) {t : X} {a b : S} (iha : SB c n a) (ihb : SB c n b) : SS c n (.iff t a b) := fun f σ Q st A s ch hst rm R wp => ifV_e (P := fun st => wpAny _ A (exec st f.env) _ NoE s) ch fun t' a' b' p ch => wpAny_If (TT ((ev ok t).2.1 f σ.fr σ.O _ _ A s (an ch).1 rm R wp) fun z s₁ O₁ R₁ st₁ q => by
  cases z with
  | true => exact wpAny_mono (iha f _ Q _ A s₁ (an (an ch).2).1 hst rm R₁ q) (fun _ _ z => PostS.step st₁ z) fun _ _ z => z
  | false => exact wpAny_mono (ihb f _ Q _ A s₁ (an (an ch).2).2 hst rm R₁ q) (fun _ _ z => PostS.step st₁ z) fun _ _ z => z)
theorem xs_whl (ok : c.Ok) {t : X} {b : S} (ihb : SB c n b) : SS c n (.whl t b) := fun f σ Q st A s ch hst rm R wp => whlV_e (P := fun st => wpAny _ A (exec st f.env) _ NoE s) ch fun t' b' p ch => by
  obtain ⟨I, k, h0, hI⟩ := wp
  refine wpAny_While (codeAny_whileLoop (fun k s' => ∃ σ', I k σ' ∧ Rel c f σ' s' ∧ StepO f.F f.H σ.O s.heap σ'.O s'.heap) ?_ k ⟨σ, h0, R, .refl _ _ _ _⟩)
  rintro k s1 ⟨σ1, i1, R1, st1⟩
  refine wpF (TT ((ev ok t).2.1 f σ1.fr σ1.O _ _ A s1 (an ch).1 rm R1 (hI k σ1 i1)) fun z s₁ O₁ R₁ st₁ q => ?_)
  cases z with
  | true =>
    refine wpF (wpAny_mono (ihb f _ _ _ A s₁ (an ch).2 hst rm R₁ q) (fun fl s3 ⟨F, σ4, z1, z2, z3, z4⟩ => ?_) fun _ _ z => z)
    have stt := (st1.trans st₁).trans z3
    revert z4
    refine FlR.on z1 (fun ⟨m, hm, im⟩ => ⟨m, hm, σ4, im, z2, stt⟩) (fun z4 => ⟨.next, σ4, trivial, z2, stt, z4⟩) (fun ⟨m, hm, im⟩ => ⟨m, hm, σ4, im, z2, stt⟩) fun w u r z4 => ⟨.ret u, σ4, r, z2, stt, z4⟩
  | false => exact wpF (wpAny_execs_nil ⟨.next, _, trivial, R₁, st1.trans st₁, q⟩)
theorem xs_for (ok : c.Ok) {x : Nat} {it : X} {b : S} (ihb : SB c n b) : SS c n (.for x it b) := fun f σ Q st A s ch hst rm R wp => forV_e (P := fun st => wpAny _ A (exec st f.env) _ NoE s) ch fun t it' b' p ch => nmV_e (P := fun t => wpAny _ A (exec (.For t it' b' [] p) f.env) _ NoE s) (an ch).1 fun yp => by
  obtain ⟨h2, ch⟩ := an (an ch).2
  obtain ⟨h3, ch⟩ := an ch
  obtain ⟨h4, h5⟩ := an ch
  refine wpAny_For (EE ((ev ok it).1 f σ.fr σ.O _ _ A s h4 rm R wp) fun w s₁ v O₁ rv R₁ st₁ q => ?_) (fun y => by cases it' <;> first | rfl | (exact absurd h3 Bool.false_ne_true))
  obtain ⟨full, es, q⟩ := seqP q
  refine wpAny_mono (for_ok (yp := yp) hst rm ihb h5 h2 R₁ rv es q.1 q.2) (fun it s₂ z => codeAny_mono z fun r s' zz => ?_) fun _ _ z => z
  cases r with
  | ok fl => exact PostS.step st₁ zz
  | error e => exact zz
theorem exs (ok : c.Ok) (x : S) : SS c n x ∧ SB c n x := by
  induction x with
  | nil => exact ⟨.no fun _ _ => rfl, xb_nil⟩
  | cons h t ihh iht => exact ⟨.no fun _ _ => rfl, xb_cons ihh.1 iht.2⟩
  | asg i e => exact ⟨xs_asg ok, .no fun _ _ => rfl⟩
  | asc i elt x fs it => exact ⟨xs_asc ok, .no fun _ _ => rfl⟩
  | asg2 i j e => exact ⟨xs_asg2 ok, .no fun _ _ => rfl⟩
  | sat o i C e => exact ⟨xs_sat ok, .no fun _ _ => rfl⟩
  | sit o k e => exact ⟨xs_sit ok, .no fun _ _ => rfl⟩
  | aug i op e => exact ⟨xs_aug ok, .no fun _ _ => rfl⟩
  | ex e => exact ⟨xs_ex ok, .no fun _ _ => rfl⟩
  | iff t a b iha ihb => exact ⟨xs_iff ok iha.2 ihb.2, .no fun _ _ => rfl⟩
  | whl t b ihb => exact ⟨xs_whl ok ihb.2, .no fun _ _ => rfl⟩
  | «for» x it b ihb => exact ⟨xs_for ok ihb.2, .no fun _ _ => rfl⟩
  | ret e => exact ⟨fun f σ Q st A s ch hst rm R wp => retV_e (P := fun st => wpAny _ A (exec st f.env) _ NoE s) ch fun v p ch => wpAny_Return_some (EE ((ev ok e).1 f σ.fr σ.O _ _ A s ch rm R wp) fun w s₁ v O₁ rv R₁ st₁ q => ⟨.ret v, ⟨O₁, σ.fr⟩, rv, R₁, st₁, q⟩), .no fun _ _ => rfl⟩
  | cnt => exact ⟨fun f σ Q st A s ch hst rm R wp => cntV_e (P := fun st => wpAny _ A (exec st f.env) _ NoE s) ch fun p => wpAny_Continue ⟨.cont, σ, trivial, R, .refl _ _ _ _, wp⟩, .no fun _ _ => rfl⟩
  | wild => exact ⟨fun f σ Q st A s ch hst rm R wp => wp.elim, fun f σ Q es A s ch hst rm R wp => wp.elim⟩
  | frz i => exact ⟨.no fun _ _ => rfl, .no fun _ _ => rfl⟩
end
end Mine

namespace Mine

noncomputable def chkScope (sc : Scope) (ps : List Nat) : Bool :=
  sc.kind == .function && !sc.isCoroutine && !sc.isGenerator && sc.names.all (fun p => p.2 != .free) && decide ((sc.names.map (·.1)).Nodup) && ps.all (fun i => stOK sc i) && decide (ps.Nodup)
noncomputable def fnOK (K : Frag) (fa : Addr) (ps : List Nat) (b : S) : Bool := match K.lookup fa with
  | some ⟨_, _, .func fd, _⟩ => (match fd.body with | .stmts body => chkB K b fd.scope body | _ => false) && chkScope fd.scope ps && codeIn K fd.code fd.qualname && fd.closure.isEmpty && fd.globals == mainGlobals && fd.builtins == builtinsNs
  | _ => false
noncomputable def BindsFn (K : Frag) (fa : Addr) (ps : List Nat) (k : Nat) (dvs : List Value) : Prop :=
  ∀ oc od fd sl, K.lookup fa = some ⟨oc, od, .func fd, sl⟩ → ∀ ws : List Value, ws.length = k → ∀ S, peek K S (bindArgs fd ⟨ws, []⟩) = some ((ps.map nm).zip (ws ++ dvs))

theorem bindL_other {k : Str → Option NameKind} {x : Str} {l : List (Str × Value)} {m : Str → Option Value} (h : ∀ p ∈ l, p.1 ≠ x) : bindL k l m x = m x := by
  induction l generalizing m with
  | nil => rfl
  | cons p r ih =>
    unfold bindL
    rw [ih fun p q => h p (List.mem_cons_of_mem _ q)]
    split
    · exact if_neg (Ne.symm (h _ List.mem_cons_self))
    · rfl
theorem bindC_other {k : Str → Option NameKind} {x : Str} {l : List (Str × Value)} {m : Str → Option Value} (h : ∀ p ∈ l, p.1 ≠ x) : bindC k l m x = m x := by
  induction l generalizing m with
  | nil => rfl
  | cons p r ih =>
    unfold bindC
    rw [ih fun p q => h p (List.mem_cons_of_mem _ q)]
    split
    · rfl
    · exact if_neg (Ne.symm (h _ List.mem_cons_self))
theorem zip_mem {p : Str × Value} {ps : List Nat} {ws : List Value} (m : p ∈ (ps.map nm).zip ws) : ∃ i ∈ ps, p.1 = nm i := by
  obtain ⟨i, m1, e⟩ := List.mem_map.mp (List.of_mem_zip (show (p.1, p.2) ∈ _ from m)).1
  exact ⟨i, m1, e.symm⟩
theorem zip_other {i : Nat} {ps : List Nat} {ws : List Value} (h : i ∉ ps) : ∀ p ∈ (ps.map nm).zip ws, p.1 ≠ nm i := fun p m e => by
  obtain ⟨j, mj, e'⟩ := zip_mem m
  exact h (nm_inj _ _ (e'.symm.trans e) ▸ mj)
theorem bindL_get {k : Str → Option NameKind} {g : Fz} {i : Nat} {av : AV} {ps : List Nat} {ws : List Value} {vs : List AV} {m : Str → Option Value} (r : RVs g ws vs) (nd : ps.Nodup) (e : lk (ps.zip vs) i = some av) (hk : k (nm i) = some .local) : ∃ w, bindL k ((ps.map nm).zip ws) m (nm i) = some w ∧ RV g w av := by
  induction ps generalizing ws vs m with
  | nil => cases e
  | cons p ps ih =>
    cases vs with
    | nil => cases e
    | cons v vs =>
      cases r with | cons h r =>
      rw [List.nodup_cons] at nd
      rw [List.zip_cons_cons] at e
      rw [List.map_cons, List.zip_cons_cons]
      unfold lk at e
      unfold bindL
      by_cases q : p = i
      · subst q
        rw [if_pos rfl] at e; cases e
        rw [bindL_other (zip_other nd.1), if_pos hk, if_pos rfl]
        exact ⟨_, rfl, h⟩
      · rw [if_neg q] at e
        exact ih r nd.2 e
theorem bindC_get {k : Str → Option NameKind} {g : Fz} {i : Nat} {av : AV} {ps : List Nat} {ws : List Value} {vs : List AV} {m : Str → Option Value} (r : RVs g ws vs) (nd : ps.Nodup) (e : lk (ps.zip vs) i = some av) (hk : k (nm i) = some .cell) : ∃ w, bindC k ((ps.map nm).zip ws) m (nm i) = some w ∧ RV g w av := by
  induction ps generalizing ws vs m with
  | nil => cases e
  | cons p ps ih =>
    cases vs with
    | nil => cases e
    | cons v vs =>
      cases r with | cons h r =>
      rw [List.nodup_cons] at nd
      rw [List.zip_cons_cons] at e
      rw [List.map_cons, List.zip_cons_cons]
      unfold lk at e
      unfold bindC
      by_cases q : p = i
      · subst q
        rw [if_pos rfl] at e; cases e
        rw [bindC_other (zip_other nd.1), if_neg (by rw [hk]; decide), if_pos rfl]
        exact ⟨_, rfl, h⟩
      · rw [if_neg q] at e
        exact ih r nd.2 e
theorem lk_mem {i : Nat} {av : AV} {ps : List Nat} {vs : List AV} (e : lk (ps.zip vs) i = some av) : i ∈ ps := by
  induction ps generalizing vs with
  | nil => cases e
  | cons p ps ih =>
    cases vs with
    | nil => cases e
    | cons v vs =>
      rw [List.zip_cons_cons] at e
      unfold lk at e
      by_cases q : p = i
      · rw [q]; exact List.mem_cons_self
      · rw [if_neg q] at e; exact List.mem_cons_of_mem _ (ih e)

structure FnScope (sc : Scope) (ps : List Nat) : Prop where
  kd : sc.kind = .function
  co : sc.isCoroutine = false
  ge : sc.isGenerator = false
  nf : ∀ p ∈ sc.names, p.2 ≠ .free
  nd : (sc.names.map (·.1)).Nodup
  st : ∀ i ∈ ps, sc.names.lookup (nm i) = some .local ∨ sc.names.lookup (nm i) = some .cell
  pd : ps.Nodup
theorem FnScope.of {sc : Scope} {ps : List Nat} (h : chkScope sc ps = true) : FnScope sc ps := by
  unfold chkScope stOK at h
  simp only [Bool.and_eq_true, Bool.or_eq_true, beq_iff_eq, List.all_eq_true, decide_eq_true_eq, bne_iff_ne, Bool.not_eq_true'] at h
  obtain ⟨⟨⟨⟨⟨⟨h1, h2⟩, h3⟩, h4⟩, h5⟩, h6⟩, h7⟩ := h
  exact ⟨h1, h2, h3, h4, h5, h6, h7⟩

section
variable {c : Cx} {n : Nat}

/-- the body of a def, entered -/
theorem fn_enter {A : Around} {s : Shared} {H : List Addr} {O : Objs} {fa : Addr} {ps : List Nat} {b : S} {ws : List Value} {dvs : List Value} {vs : List AV} {Q : Fl → St → Prop} {k : Nat} {R : Result → Shared → Prop}
    (ok : c.Ok) (hf : fnOK c.K fa ps b = true) (hb : BindsFn c.K fa ps k dvs) (rm : Room (n + 1) A) (RO : RelO c H O s) (rv : RVs (frz O H s.heap) (ws ++ dvs) vs) (hk : ws.length = k)
    (wp : wpS c n b ⟨O, lk (ps.zip vs)⟩ Q)
    (hR : ∀ F f s' (fl : Flow) Fl' σ', (∀ b ∈ F, s.heap.get? b = none) → FlR (frz σ'.O (F ++ H) s'.heap) fl Fl' → Rel c f σ' s' → f.H = F ++ H → RelO c H σ'.O s' → StepO [] H O s.heap σ'.O s'.heap → Q Fl' σ' → R (.ok (.ret (match fl with | .ret v => v | _ => .none))) s') :
    codeAny (model c.prog c.w) A (.call (.ref fa) ⟨ws, []⟩) R s := by
  unfold fnOK at hf
  split at hf
  · rename_i oc od fd sl e
    simp only [Bool.and_eq_true, beq_iff_eq] at hf
    obtain ⟨⟨⟨⟨⟨h1, h2⟩, h3⟩, h4⟩, h5⟩, h6⟩ := hf
    split at h1
    · rename_i body eb
      have fs := FnScope.of h2
      have X : c.K.In s.heap := ok.kin.keeps fun b o e => (RO.base b o e).1
      have hlim : s.heap.NoLimit := ok.nolimit.keeps fun b o e => (RO.base b o e).1
      refine codeAny_call_function (by have := rm.dp; show A.depth < 1000; omega) (X _ _ e) rfl fs.co fs.ge eb (codeRec_of X h3) (kp_binds X (hb _ _ _ _ e ws hk) _ _ _ _ ?_)
      have hcl : fd.closure = [] := by
        cases q : fd.closure with
        | nil => rfl
        | cons _ _ => rw [q] at h4; cases h4
      rw [hcl]
      have kinds : ∀ x ∈ (ps.map nm).zip (ws ++ dvs), fd.scope.names.lookup x.1 = some .local ∨ (fd.scope.names.lookup x.1 = some .cell ∧ ((cellsFrom (s.heap.objs.size + 1) fd.scope.names []).lookup x.1).isSome = true) := fun x m => by
        obtain ⟨i, mi, ei⟩ := zip_mem m
        rcases fs.st i mi with q | q
        · exact .inl (by rw [ei]; exact q)
        · refine .inr ⟨by rw [ei]; exact q, ?_⟩
          obtain ⟨ca, z1, _⟩ := cellsFrom_new (h := s.heap.push { cls := .type "frame", data := .dict #[] }) (acc := []) (mem_of_lookup q) fs.nd
          rw [Heap.size_push] at z1
          rw [ei, z1]; rfl
      refine wpAny_newFunctionEnv_cells fs.kd kinds fun env he s1 x => ?_
      refine ⟨hlim.keeps x.toInCall.keep, codeAny_func ?_⟩
      obtain ⟨h1', tk, es⟩ := x.toInCall.same
      have envL : env.locals = s.heap.objs.size := by rw [he]; rfl
      have envC : env.cells = cellsFrom (s.heap.objs.size + 1) fd.scope.names [] := by rw [he]; rfl
      have envS : env.scope = fd.scope := by rw [he]; rfl
      have envG : env.globals = mainGlobals := by rw [he]; exact h5
      have envB : env.builtins = builtinsNs := by rw [he]; exact h6
      have ekd : ∀ y, env.kindOf y = fd.scope.names.lookup y := fun y => by show env.scope.names.lookup y = _; rw [envS]
      let cl : List Addr := fd.scope.names.filterMap fun p => if p.2 = .cell then env.cells.lookup p.1 else none
      let F : List Addr := env.locals :: cl
      have inCl : ∀ b ∈ cl, ∃ y, env.cells.lookup y = some b := fun b m => by
        obtain ⟨p, _, e⟩ := List.mem_filterMap.mp m
        split at e
        · exact ⟨_, e⟩
        · cases e
      have toCl : ∀ y ca, fd.scope.names.lookup y = some .cell → env.cells.lookup y = some ca → ca ∈ cl := fun y ca q e =>
        List.mem_filterMap.mpr ⟨(y, .cell), mem_of_lookup q, by rw [if_pos rfl]; exact e⟩
      have cellof : ∀ y, fd.scope.names.lookup y = some .cell → ∃ ca, env.cells.lookup y = some ca ∧ s.heap.objs.size + 1 ≤ ca := fun y q => by
        obtain ⟨ca, z1, z2, _⟩ := cellsFrom_new (h := s.heap.push { cls := .type "frame", data := .dict #[] }) (acc := []) (mem_of_lookup q) fs.nd
        rw [Heap.size_push] at z1 z2
        exact ⟨ca, by rw [envC]; exact z1, z2⟩
      have Fge : ∀ b ∈ F, s.heap.objs.size ≤ b := fun b m => by
        rcases List.mem_cons.mp m with q | q
        · rw [q, envL]; exact Nat.le_refl _
        · obtain ⟨y, e⟩ := inCl b q
          have := x.above y b (mem_of_lookup e)
          rw [envL] at this
          exact Nat.le_of_lt this
      have Fdead : ∀ b ∈ F, s.heap.get? b = none := fun b m => by
        cases q : s.heap.get? b with
        | none => rfl
        | some o => exact absurd (Heap.lt_size q) (Nat.not_lt.mpr (Fge b m))
      have FH : ∀ b ∈ F, b ∉ H := fun b m mh => by
        obtain ⟨_, o, q⟩ := RO.hid b mh
        rw [Fdead b m] at q; cases q
      have Fal : ∀ b ∈ F, ∃ o, s1.heap.get? b = some o := fun b m => by
        rcases List.mem_cons.mp m with q | q
        · obtain ⟨o, _, _, e1, _⟩ := x.toInCall.ns; exact ⟨o, by rw [q]; exact e1⟩
        · obtain ⟨y, e⟩ := inCl b q
          obtain ⟨o, e1, _⟩ := x.cell _ _ e
          exact ⟨o, e1⟩
      subst es
      have RO1 : RelO c (F ++ H) O { s with heap := h1', toks := tk } := RO.enter x.toInCall.keep Fdead Fal tk
      let f : Frm := ⟨env, F, F ++ H, true⟩
      have fz : FzLe (frz O H s.heap) (frz O (F ++ H) h1') := fun b o q => by
        obtain ⟨e1, e2, e3⟩ := frz_some.mp q
        refine frz_some.mpr ⟨e1, fun m => ?_, x.toInCall.keep _ _ e3⟩
        rcases List.mem_append.mp m with m | m
        · rw [Fdead b m] at e3; cases e3
        · exact e2 m
      have RR : Rel c f ⟨O, lk (ps.zip vs)⟩ { s with heap := h1', toks := tk } := by
        refine ⟨RO1, ⟨fun b m => List.mem_append_left _ m, List.mem_cons_self, ⟨_, x.toInCall.ns⟩, fun _ y q => ?_, fun _ y z ca q1 q2 e1 e2 => ?_, fun _ y q => ?_, by show env.scope.kind = _; rw [envS]; exact fs.kd, envG, envB⟩, fun i av e' => ?_⟩
        · rw [ekd] at q
          obtain ⟨ca, z1, z2⟩ := cellof y q
          exact ⟨ca, _, z1, List.mem_cons_of_mem _ (toCl y ca q z1), (by show ca ≠ env.locals; rw [envL]; exact Nat.ne_of_gt z2), x.cell _ _ z1⟩
        · exact name_of_addr x.apart (mem_of_lookup e1) (mem_of_lookup e2)
        · rw [ekd] at q
          exact fs.nf _ (mem_of_lookup q) rfl
        · have mi := lk_mem e'
          rcases fs.st i mi with q | q
          · obtain ⟨w, z1, z2⟩ := bindL_get (k := env.kindOf) (m := fun _ => none) (rv.mono fz) fs.pd e' (by rw [ekd]; exact q)
            exact .inl ⟨by rw [ekd]; exact q, _, w, x.toInCall.ns, z1, z2⟩
          · obtain ⟨w, z1, z2⟩ := bindC_get (k := env.kindOf) (m := fun _ => none) (rv.mono fz) fs.pd e' (by rw [ekd]; exact q)
            obtain ⟨ca, y1, y2⟩ := cellof _ q
            exact .inr ⟨.inl (by rw [ekd]; exact q), ca, w, y1, List.mem_append_left _ (List.mem_cons_of_mem _ (toCl _ _ q y1)), z1 ▸ x.cell _ _ y1, z2⟩
      have rm' : Room n (A.deeper env) := ⟨rm.hh, by have := rm.dp; show A.depth + 1 + 4 * n + 8 ≤ 1000; omega, by have := rm.un; show A.units + 3 + 12 * n + 100 ≤ 9900; omega⟩
      refine wpF (wpAny_mono ((exs ok b).2 f ⟨O, lk (ps.zip vs)⟩ Q body (A.deeper env) _ (by show chkB c.K b env.scope body = true; rw [envS]; exact h1) rfl rm' RR wp) (fun fl s' ⟨Fl', σ', z1, z2, z3, z4⟩ => ?_) fun _ _ z => z)
      exact hR F f s' fl Fl' σ' Fdead z1 z2 rfl z2.ro.unhide ((z3.unhide Fdead x.toInCall.keep).noOwn (c := c) (s := s) FH) z4
    · cases h1
  · cases hf

theorem fn_call {O : Objs} {fa : Addr} {ps : List Nat} {b : S} {dvs : List Value} {dv : List AV} {vs : List AV} {Q : AV → Objs → Prop} {k : Nat}
    (ok : c.Ok) (hf : fnOK c.K fa ps b = true) (hb : BindsFn c.K fa ps k dvs) (hk : vs.length = k) (hd : ∀ g, RVs g dvs dv)
    (wp : wpS c n b ⟨O, lk (ps.zip (vs ++ dv))⟩ fun F σ' => (match F with | .ret v => Q v σ'.O | .next => Q .none σ'.O | _ => False)) : CallOK c (n + 1) fa vs O Q := by
  intro A s H ws rm RO rv
  refine fn_enter ok hf hb rm RO (rv.append (hd _)) (by rw [rv.length]; exact hk) wp fun F f s' fl Fl' σ' Fd z1 R' _ RO' st q => ?_
  cases Fl' with
  | ret v =>
    cases fl with
    | ret w => exact ⟨v, σ'.O, RV.mono frz_wide z1, RO', st, q⟩
    | _ => exact z1.elim
  | next =>
    cases fl with
    | next => exact ⟨.none, σ'.O, .none, RO', st, q⟩
    | _ => exact z1.elim
  | _ => exact q.elim
end
end Mine

namespace Mine

noncomputable def ir_fixed_atoms : S := (.cons (.ret (.tup (.cons (.str (Str.ofString "[]")) (.cons (.str (Str.ofString ".")) (.cons (.str (Str.ofString "{}")) (.cons (.str (Str.ofString "-")) (.cons (.str (Str.ofString "+")) (.cons (.str (Str.ofString "*")) (.cons (.str (Str.ofString "/")) (.cons (.str (Str.ofString ",")) (.cons (.str (Str.ofString "|")) (.cons (.str (Str.ofString ";")) (.cons (.str (Str.ofString "->")) (.cons (.str (Str.ofString "\\+")) (.cons (.str (Str.ofString ":-")) (.cons (.str (Str.ofString "?-")) (.cons (.str (Str.ofString "-->")) (.cons (.str (Str.ofString "!")) (.cons (.str (Str.ofString "true")) (.cons (.str (Str.ofString "fail")) (.cons (.str (Str.ofString "false")) (.cons (.str (Str.ofString "call")) (.cons (.str (Str.ofString "=")) (.cons (.str (Str.ofString "^")) (.cons (.str (Str.ofString "error")) (.cons (.str (Str.ofString "")) (.cons (.str (Str.ofString "end_of_file")) (.cons (.str (Str.ofString "system")) (.cons (.str (Str.ofString "$VAR")) (.cons (.str (Str.ofString "catch")) (.cons (.str (Str.ofString "throw")) .nil)))))))))))))))))))))))))))))))
 .nil)
noncomputable def ir_fixed_functors : S := (.cons (.ret (.tup (.cons (.tup (.cons (.str (Str.ofString ".")) (.cons (.int 2) .nil))) (.cons (.tup (.cons (.str (Str.ofString ",")) (.cons (.int 2) .nil))) (.cons (.tup (.cons (.str (Str.ofString ";")) (.cons (.int 2) .nil))) (.cons (.tup (.cons (.str (Str.ofString "->")) (.cons (.int 2) .nil))) (.cons (.tup (.cons (.str (Str.ofString "\\+")) (.cons (.int 1) .nil))) (.cons (.tup (.cons (.str (Str.ofString ":-")) (.cons (.int 2) .nil))) (.cons (.tup (.cons (.str (Str.ofString ":-")) (.cons (.int 1) .nil))) (.cons (.tup (.cons (.str (Str.ofString "?-")) (.cons (.int 1) .nil))) (.cons (.tup (.cons (.str (Str.ofString "-->")) (.cons (.int 2) .nil))) (.cons (.tup (.cons (.str (Str.ofString "{}")) (.cons (.int 1) .nil))) (.cons (.tup (.cons (.str (Str.ofString "=")) (.cons (.int 2) .nil))) (.cons (.tup (.cons (.str (Str.ofString "^")) (.cons (.int 2) .nil))) (.cons (.tup (.cons (.str (Str.ofString "-")) (.cons (.int 1) .nil))) (.cons (.tup (.cons (.str (Str.ofString "-")) (.cons (.int 2) .nil))) (.cons (.tup (.cons (.str (Str.ofString "+")) (.cons (.int 2) .nil))) (.cons (.tup (.cons (.str (Str.ofString "/")) (.cons (.int 2) .nil))) (.cons (.tup (.cons (.str (Str.ofString "error")) (.cons (.int 2) .nil))) (.cons (.tup (.cons (.str (Str.ofString "$VAR")) (.cons (.int 1) .nil))) (.cons (.tup (.cons (.str (Str.ofString "catch")) (.cons (.int 3) .nil))) (.cons (.tup (.cons (.str (Str.ofString "throw")) (.cons (.int 1) .nil))) (.cons (.tup (.cons (.str (Str.ofString "!")) (.cons (.int 0) .nil))) (.cons (.tup (.cons (.str (Str.ofString "true")) (.cons (.int 0) .nil))) (.cons (.tup (.cons (.str (Str.ofString "fail")) (.cons (.int 0) .nil))) (.cons (.tup (.cons (.str (Str.ofString "false")) (.cons (.int 0) .nil))) (.cons (.tup (.cons (.str (Str.ofString "call")) (.cons (.int 1) .nil))) (.cons (.tup (.cons (.str (Str.ofString "call")) (.cons (.int 2) .nil))) (.cons (.tup (.cons (.str (Str.ofString "call")) (.cons (.int 3) .nil))) (.cons (.tup (.cons (.str (Str.ofString "call")) (.cons (.int 4) .nil))) (.cons (.tup (.cons (.str (Str.ofString "call")) (.cons (.int 5) .nil))) (.cons (.tup (.cons (.str (Str.ofString "call")) (.cons (.int 6) .nil))) (.cons (.tup (.cons (.str (Str.ofString "call")) (.cons (.int 7) .nil))) (.cons (.tup (.cons (.str (Str.ofString "call")) (.cons (.int 8) .nil))) .nil))))))))))))))))))))))))))))))))))
 .nil)
noncomputable def ir_Symbols_init : S := (.cons (.sat 0 114 154 (.lst .nil))
 (.cons (.sat 0 115 154 .dct)
 (.cons (.sat 0 116 154 (.lst .nil))
 (.cons (.sat 0 117 154 .dct)
 (.cons (.frz 0) (.cons (.for 32 (.call 1 60 .nil) (.cons (.ex (.mth (.var 0) 31 154 88 (.cons (.var 32) .nil)))
 .nil))
 (.cons (.for 100 (.call 2 67 .nil) (.cons (.ex (.mth (.var 0) 34 154 109 (.cons (.sub (.var 100) (.int 0)) (.cons (.sub (.var 100) (.int 1)) .nil))))
 .nil))
 .nil)))))))
noncomputable def ir_Symbols_atom : S := (.cons (.asg 91 (.get (.atr (.var 0) 115 154) (.var 32) (.neg (.int 1))))
 (.cons (.iff (.cmp .GtE (.var 91) (.int 0)) (.cons (.ret (.var 91))
 .nil) .nil)
 (.cons (.asg 118 (.bif .len (.cons (.atr (.var 0) 114 154) .nil)))
 (.cons (.ex (.app (.atr (.var 0) 114 154) (.var 32)))
 (.cons (.sit (.atr (.var 0) 115 154) (.var 32) (.var 118))
 (.cons (.ret (.var 118))
 .nil))))))
noncomputable def ir_Symbols_text : S := (.cons (.ret (.sub (.atr (.var 0) 114 154) (.var 118)))
 .nil)
noncomputable def ir_Symbols_functor : S := (.cons (.asg 119 (.tup (.cons (.var 31) (.cons (.var 36) .nil))))
 (.cons (.asg 91 (.get (.atr (.var 0) 117 154) (.var 119) (.neg (.int 1))))
 (.cons (.iff (.cmp .GtE (.var 91) (.int 0)) (.cons (.ret (.var 91))
 .nil) .nil)
 (.cons (.asg 118 (.bif .len (.cons (.atr (.var 0) 116 154) .nil)))
 (.cons (.ex (.app (.atr (.var 0) 116 154) (.var 119)))
 (.cons (.sit (.atr (.var 0) 117 154) (.var 119) (.var 118))
 (.cons (.ret (.var 118))
 .nil)))))))
noncomputable def ir_Symbols_func : S := (.cons (.ret (.mth (.var 0) 33 154 102 (.cons (.mth (.var 0) 31 154 88 (.cons (.var 32) .nil)) (.cons (.var 36) .nil))))
 .nil)
noncomputable def ir_Symbols_name : S := (.cons (.ret (.sub (.sub (.atr (.var 0) 116 154) (.var 33)) (.int 0)))
 .nil)
noncomputable def ir_Symbols_arity : S := (.cons (.ret (.sub (.sub (.atr (.var 0) 116 154) (.var 33)) (.int 1)))
 .nil)
noncomputable def ir_Store_init : S := (.cons (.sat 0 73 373 (.var 73))
 (.cons (.sat 0 120 373 (.var 120))
 (.cons (.sat 0 121 373 (.lst .nil))
 (.cons (.sat 0 122 373 (.lst .nil))
 (.cons (.sat 0 123 373 (.lst .nil))
 (.cons (.sat 0 124 373 (.int 0))
 (.cons (.sat 0 125 373 (.int 0))
 (.cons (.frz 0) .nil))))))))
noncomputable def ir_Store_push : S := (.cons (.asg 126 (.bif .len (.cons (.atr (.var 0) 121 373) .nil)))
 (.cons (.iff (.cmp .GtE (.var 126) (.atr (.var 0) 120 373)) (.cons .wild
 .nil) .nil)
 (.cons (.ex (.app (.atr (.var 0) 121 373) (.var 75)))
 (.cons (.ret (.var 126))
 .nil))))
noncomputable def ir_Store_new_var : S := (.cons (.asg 75 (.tup (.cons (.glb 41 0) (.cons (.bif .len (.cons (.atr (.var 0) 121 373) .nil)) .nil))))
 (.cons (.ex (.mth (.var 0) 48 373 201 (.cons (.var 75) .nil)))
 (.cons (.ret (.var 75))
 .nil)))
noncomputable def ir_Store_reserve : S := (.cons (.asg 107 (.bif .len (.cons (.atr (.var 0) 121 373) .nil)))
 (.cons (.iff (.cmp .Gt (.bin .Add (.var 107) (.var 38)) (.atr (.var 0) 120 373)) (.cons .wild
 .nil) .nil)
 (.cons (.for 78 (.bif .range (.cons (.var 38) .nil)) (.cons (.ex (.app (.atr (.var 0) 121 373) (.tup (.cons (.glb 41 0) (.cons (.bin .Add (.var 107) (.var 78)) .nil)))))
 .nil))
 (.cons (.ret (.var 107))
 .nil))))
noncomputable def ir_Store_deref : S := (.cons (.whl (.bol true) (.cons (.asg 83 (.sub (.var 75) (.int 0)))
 (.cons (.iff (.cmp .Eq (.var 83) (.glb 41 0)) (.cons (.asg 91 (.sub (.atr (.var 0) 121 373) (.sub (.var 75) (.int 1))))
 .nil) (.cons (.iff (.cmp .Eq (.var 83) (.glb 42 1)) (.cons (.asg 91 (.sub (.atr (.var 0) 122 373) (.sub (.var 75) (.int 1))))
 .nil) (.cons (.ret (.var 75))
 .nil))
 .nil))
 (.cons (.iff (.cmp .Eq (.var 91) (.var 75)) (.cons (.ret (.var 75))
 .nil) .nil)
 (.cons (.asg 75 (.var 91))
 .nil)))))
 .nil)
noncomputable def ir_Store_bind : S := (.cons (.asg 77 (.sub (.var 75) (.int 1)))
 (.cons (.iff (.cmp .Eq (.sub (.var 75) (.int 0)) (.glb 41 0)) (.cons (.sit (.atr (.var 0) 121 373) (.var 77) (.var 128))
 (.cons (.iff (.cmp .Lt (.var 77) (.atr (.var 0) 124 373)) (.cons (.ex (.app (.atr (.var 0) 123 373) (.var 77)))
 .nil) .nil)
 .nil)) (.cons (.sit (.atr (.var 0) 122 373) (.var 77) (.var 128))
 (.cons (.iff (.cmp .Lt (.var 77) (.atr (.var 0) 125 373)) (.cons (.ex (.app (.atr (.var 0) 123 373) (.bin .Sub (.neg (.int 1)) (.var 77))))
 .nil) .nil)
 .nil)))
 .nil))
noncomputable def ir_Store_globalise : S := (.cons (.asg 75 (.mth (.var 0) 52 373 229 (.cons (.var 75) .nil)))
 (.cons (.iff (.cmp .Eq (.sub (.var 75) (.int 0)) (.glb 42 1)) (.cons (.asg 151 (.mth (.var 0) 49 373 208 .nil))
 (.cons (.ex (.mth (.var 0) 54 373 243 (.cons (.var 75) (.cons (.var 151) .nil))))
 (.cons (.ret (.var 151))
 .nil))) .nil)
 (.cons (.ret (.var 75))
 .nil)))
noncomputable def ir_Store_is_compound : S := (.cons (.ret (.or (.cmp .Eq (.sub (.var 75) (.int 0)) (.glb 43 2)) (.cmp .Eq (.sub (.var 75) (.int 0)) (.glb 44 3))))
 .nil)
noncomputable def ir_Store_functor_of : S := (.cons (.asg 83 (.sub (.var 75) (.int 0)))
 (.cons (.iff (.cmp .Eq (.var 83) (.glb 43 2)) (.cons (.ret (.sub (.sub (.atr (.var 0) 121 373) (.sub (.var 75) (.int 1))) (.int 1)))
 .nil) .nil)
 (.cons (.iff (.cmp .Eq (.var 83) (.glb 44 3)) (.cons (.ret (.glb 30 0))
 .nil) .nil)
 (.cons (.iff (.cmp .Eq (.var 83) (.glb 45 4)) (.cons (.ret (.mth (.atr (.var 0) 73 373) 33 154 102 (.cons (.sub (.var 75) (.int 1)) (.cons (.int 0) .nil))))
 .nil) .nil)
 (.cons (.ret (.neg (.int 1)))
 .nil)))))
noncomputable def ir_Store_width : S := (.cons (.asg 83 (.sub (.var 75) (.int 0)))
 (.cons (.iff (.cmp .Eq (.var 83) (.glb 44 3)) (.cons (.ret (.int 2))
 .nil) .nil)
 (.cons (.iff (.cmp .Eq (.var 83) (.glb 43 2)) (.cons (.ret (.mth (.atr (.var 0) 73 373) 36 154 123 (.cons (.sub (.sub (.atr (.var 0) 121 373) (.sub (.var 75) (.int 1))) (.int 1)) .nil)))
 .nil) .nil)
 (.cons (.ret (.int 0))
 .nil))))
noncomputable def ir_Store_base : S := (.cons (.iff (.cmp .Eq (.sub (.var 75) (.int 0)) (.glb 44 3)) (.cons (.ret (.sub (.var 75) (.int 1)))
 .nil) .nil)
 (.cons (.ret (.bin .Add (.sub (.var 75) (.int 1)) (.int 1)))
 .nil))
noncomputable def ir_Store_new_block : S := (.cons (.iff (.cmp .Eq (.var 84) (.glb 30 0)) (.cons (.ret (.tup (.cons (.glb 44 3) (.cons (.mth (.var 0) 50 373 215 (.cons (.int 2) .nil)) .nil))))
 .nil) .nil)
 (.cons (.asg 130 (.mth (.var 0) 50 373 215 (.cons (.bin .Add (.int 1) (.mth (.atr (.var 0) 73 373) 36 154 123 (.cons (.var 84) .nil))) .nil)))
 (.cons (.sit (.atr (.var 0) 121 373) (.var 130) (.tup (.cons (.glb 47 6) (.cons (.var 84) .nil))))
 (.cons (.ret (.tup (.cons (.glb 43 2) (.cons (.var 130) .nil))))
 .nil))))
noncomputable def ir_Store_put_term : S := (.cons (.for 72 (.bif .list (.cons (.var 105) .nil)) (.cons (.iff (.cmp .Eq (.sub (.sub (.var 105) (.var 72)) (.int 0)) (.glb 42 1)) (.cons (.sit (.var 105) (.var 72) (.mth (.var 0) 56 373 257 (.cons (.sub (.var 105) (.var 72)) .nil)))
 .nil) .nil)
 .nil))
 (.cons (.asg 87 (.sub (.var 132) (.int 0)))
 (.cons (.iff (.cmp .Eq (.var 87) (.str (Str.ofString "v"))) (.cons (.iff (.cmp .NotIn (.sub (.var 132) (.int 1)) (.var 105)) (.cons (.sit (.var 105) (.sub (.var 132) (.int 1)) (.mth (.var 0) 49 373 208 .nil))
 .nil) .nil)
 (.cons (.ret (.sub (.var 105) (.sub (.var 132) (.int 1))))
 .nil)) .nil)
 (.cons (.iff (.cmp .Eq (.var 87) (.str (Str.ofString "a"))) (.cons (.ret (.tup (.cons (.glb 45 4) (.cons (.sub (.var 132) (.int 1)) .nil))))
 .nil) .nil)
 (.cons (.iff (.cmp .Eq (.var 87) (.str (Str.ofString "i"))) (.cons (.ret (.tup (.cons (.glb 46 5) (.cons (.sub (.var 132) (.int 1)) .nil))))
 .nil) .nil)
 (.cons (.asg 133 (.mth (.var 0) 65 373 320 (.cons (.sub (.var 132) (.int 1)) .nil)))
 (.cons (.asg 134 (.lst (.cons (.tup (.cons (.mth (.var 0) 63 373 306 (.cons (.var 133) .nil)) (.cons (.sub (.var 132) (.int 2)) .nil))) .nil)))
 (.cons (.asg 135 (.int 0))
 (.cons (.whl (.cmp .Lt (.var 135) (.bif .len (.cons (.var 134) .nil))) (.cons (.asg2 77 153 (.sub (.var 134) (.var 135)))
 (.cons (.aug 135 .Add (.int 1))
 (.cons (.for 152 (.var 153) (.cons (.asg 87 (.sub (.var 152) (.int 0)))
 (.cons (.iff (.cmp .Eq (.var 87) (.str (Str.ofString "v"))) (.cons (.iff (.cmp .In (.sub (.var 152) (.int 1)) (.var 105)) (.cons (.sit (.atr (.var 0) 121 373) (.var 77) (.sub (.var 105) (.sub (.var 152) (.int 1))))
 .nil) (.cons (.sit (.var 105) (.sub (.var 152) (.int 1)) (.tup (.cons (.glb 41 0) (.cons (.var 77) .nil))))
 .nil))
 .nil) (.cons (.iff (.cmp .Eq (.var 87) (.str (Str.ofString "a"))) (.cons (.sit (.atr (.var 0) 121 373) (.var 77) (.tup (.cons (.glb 45 4) (.cons (.sub (.var 152) (.int 1)) .nil))))
 .nil) (.cons (.iff (.cmp .Eq (.var 87) (.str (Str.ofString "i"))) (.cons (.sit (.atr (.var 0) 121 373) (.var 77) (.tup (.cons (.glb 46 5) (.cons (.sub (.var 152) (.int 1)) .nil))))
 .nil) (.cons (.asg 163 (.mth (.var 0) 65 373 320 (.cons (.sub (.var 152) (.int 1)) .nil)))
 (.cons (.sit (.atr (.var 0) 121 373) (.var 77) (.var 163))
 (.cons (.ex (.app (.var 134) (.tup (.cons (.mth (.var 0) 63 373 306 (.cons (.var 163) .nil)) (.cons (.sub (.var 152) (.int 2)) .nil)))))
 .nil))))
 .nil))
 .nil))
 (.cons (.aug 77 .Add (.int 1))
 .nil))))
 .nil))))
 (.cons (.ret (.var 133))
 .nil))))))))))
noncomputable def ir_PairSet_init : S := (.cons (.sat 0 136 399 (.bin .Add (.bif .len (.cons (.atr (.var 74) 121 373) .nil)) (.int 1)))
 (.cons (.sat 0 90 399 (.bif .set .nil))
 (.cons (.frz 0) .nil)))
noncomputable def ir_PairSet_add : S := (.cons (.asg 118 (.bin .Add (.bin .Mult (.sub (.var 79) (.int 1)) (.atr (.var 0) 136 399)) (.sub (.var 80) (.int 1))))
 (.cons (.iff (.cmp .In (.var 118) (.atr (.var 0) 90 399)) (.cons (.ret (.bol false))
 .nil) .nil)
 (.cons (.ex (.sad (.atr (.var 0) 90 399) (.var 118)))
 (.cons (.ret (.bol true))
 .nil))))
noncomputable def ir_push_arguments : S := (.cons (.asg 77 (.mth (.var 74) 63 373 306 (.cons (.var 75) .nil)))
 (.cons (.for 78 (.bif .range (.cons (.bin .Sub (.mth (.var 74) 62 373 299 (.cons (.var 75) .nil)) (.int 1)) (.cons (.neg (.int 1)) (.cons (.neg (.int 1)) .nil)))) (.cons (.ex (.app (.var 76) (.sub (.atr (.var 74) 121 373) (.bin .Add (.var 77) (.var 78)))))
 .nil))
 .nil))
noncomputable def ir_push_pairs : S := (.cons (.asg 81 (.mth (.var 74) 63 373 306 (.cons (.var 79) .nil)))
 (.cons (.asg 82 (.mth (.var 74) 63 373 306 (.cons (.var 80) .nil)))
 (.cons (.for 78 (.bif .range (.cons (.bin .Sub (.mth (.var 74) 62 373 299 (.cons (.var 79) .nil)) (.int 1)) (.cons (.neg (.int 1)) (.cons (.neg (.int 1)) .nil)))) (.cons (.ex (.app (.var 76) (.tup (.cons (.sub (.atr (.var 74) 121 373) (.bin .Add (.var 81) (.var 78))) (.cons (.sub (.atr (.var 74) 121 373) (.bin .Add (.var 82) (.var 78))) .nil)))))
 .nil))
 .nil)))
noncomputable def ir_same_shape : S := (.cons (.iff (.cmp .NotEq (.sub (.var 79) (.int 0)) (.sub (.var 80) (.int 0))) (.cons (.ret (.bol false))
 .nil) .nil)
 (.cons (.iff (.cmp .Eq (.sub (.var 79) (.int 0)) (.glb 44 3)) (.cons (.ret (.bol true))
 .nil) .nil)
 (.cons (.ret (.cmp .Eq (.sub (.atr (.var 74) 121 373) (.sub (.var 79) (.int 1))) (.sub (.atr (.var 74) 121 373) (.sub (.var 80) (.int 1)))))
 .nil)))
noncomputable def ir_is_variable : S := (.cons (.ret (.or (.cmp .Eq (.sub (.var 75) (.int 0)) (.glb 41 0)) (.cmp .Eq (.sub (.var 75) (.int 0)) (.glb 42 1))))
 .nil)
noncomputable def ir_rank : S := (.cons (.asg 83 (.sub (.var 75) (.int 0)))
 (.cons (.iff (.cmp .Eq (.var 83) (.glb 46 5)) (.cons (.ret (.int 1))
 .nil) .nil)
 (.cons (.iff (.cmp .Eq (.var 83) (.glb 45 4)) (.cons (.ret (.int 2))
 .nil) .nil)
 (.cons (.iff (.or (.cmp .Eq (.var 83) (.glb 43 2)) (.cmp .Eq (.var 83) (.glb 44 3))) (.cons (.ret (.int 3))
 .nil) .nil)
 (.cons (.ret (.int 0))
 .nil)))))
noncomputable def ir_order : S := (.cons (.iff (.cmp .Lt (.var 79) (.var 80)) (.cons (.ret (.neg (.int 1)))
 .nil) .nil)
 (.cons (.iff (.cmp .Gt (.var 79) (.var 80)) (.cons (.ret (.int 1))
 .nil) .nil)
 (.cons (.ret (.int 0))
 .nil)))
noncomputable def ir_compare_shapes : S := (.cons (.asg 73 (.atr (.var 74) 73 373))
 (.cons (.asg 84 (.mth (.var 74) 61 373 292 (.cons (.var 79) .nil)))
 (.cons (.asg 85 (.mth (.var 74) 61 373 292 (.cons (.var 80) .nil)))
 (.cons (.iff (.cmp .Eq (.var 84) (.var 85)) (.cons (.ret (.int 0))
 .nil) .nil)
 (.cons (.asg 86 (.call 12 445 (.cons (.mth (.var 73) 36 154 123 (.cons (.var 84) .nil)) (.cons (.mth (.var 73) 36 154 123 (.cons (.var 85) .nil)) .nil))))
 (.cons (.iff (.cmp .NotEq (.var 86) (.int 0)) (.cons (.ret (.var 86))
 .nil) .nil)
 (.cons (.ret (.call 12 445 (.cons (.mth (.var 73) 32 154 95 (.cons (.mth (.var 73) 35 154 116 (.cons (.var 84) .nil)) .nil)) (.cons (.mth (.var 73) 32 154 95 (.cons (.mth (.var 73) 35 154 116 (.cons (.var 85) .nil)) .nil)) .nil))))
 .nil)))))))
noncomputable def ir_compare_tops : S := (.cons (.asg 87 (.call 11 438 (.cons (.var 79) .nil)))
 (.cons (.asg 86 (.call 12 445 (.cons (.var 87) (.cons (.call 11 438 (.cons (.var 80) .nil)) .nil))))
 (.cons (.iff (.cmp .NotEq (.var 86) (.int 0)) (.cons (.ret (.var 86))
 .nil) .nil)
 (.cons (.iff (.cmp .Eq (.var 87) (.int 0)) (.cons (.ret (.call 12 445 (.cons (.var 79) (.cons (.var 80) .nil))))
 .nil) .nil)
 (.cons (.iff (.cmp .Eq (.var 87) (.int 1)) (.cons (.ret (.call 12 445 (.cons (.sub (.var 79) (.int 1)) (.cons (.sub (.var 80) (.int 1)) .nil))))
 .nil) .nil)
 (.cons (.iff (.cmp .Eq (.var 87) (.int 2)) (.cons (.ret (.call 12 445 (.cons (.mth (.atr (.var 74) 73 373) 32 154 95 (.cons (.sub (.var 79) (.int 1)) .nil)) (.cons (.mth (.atr (.var 74) 73 373) 32 154 95 (.cons (.sub (.var 80) (.int 1)) .nil)) .nil))))
 .nil) .nil)
 (.cons (.ret (.call 13 452 (.cons (.var 74) (.cons (.var 79) (.cons (.var 80) .nil)))))
 .nil)))))))
noncomputable def ir_compare : S := (.cons (.asg 90 (.new 6 399 389 (.cons (.var 74) .nil)))
 (.cons (.asg 76 (.lst (.cons (.tup (.cons (.var 88) (.cons (.var 89) .nil))) .nil)))
 (.cons (.whl (.cmp .Gt (.bif .len (.cons (.var 76) .nil)) (.int 0)) (.cons (.asg2 79 80 (.pop (.var 76)))
 (.cons (.asg 79 (.mth (.var 74) 52 373 229 (.cons (.var 79) .nil)))
 (.cons (.asg 80 (.mth (.var 74) 52 373 229 (.cons (.var 80) .nil)))
 (.cons (.iff (.cmp .Eq (.var 79) (.var 80)) (.cons .cnt
 .nil) .nil)
 (.cons (.asg 86 (.call 14 459 (.cons (.var 74) (.cons (.var 79) (.cons (.var 80) .nil)))))
 (.cons (.iff (.cmp .NotEq (.var 86) (.int 0)) (.cons (.ret (.var 86))
 .nil) .nil)
 (.cons (.iff (.and (.mth (.var 74) 60 373 285 (.cons (.var 79) .nil)) (.mth (.var 90) 71 399 396 (.cons (.var 79) (.cons (.var 80) .nil)))) (.cons (.ex (.call 8 417 (.cons (.var 74) (.cons (.var 79) (.cons (.var 80) (.cons (.var 76) .nil))))))
 .nil) .nil)
 .nil))))))))
 (.cons (.ret (.int 0))
 .nil))))
noncomputable def ir_identical : S := (.cons (.ret (.cmp .Eq (.call 15 466 (.cons (.var 74) (.cons (.var 88) (.cons (.var 89) .nil)))) (.int 0)))
 .nil)
noncomputable def ir_variables : S := (.cons (.asg 91 (.lst .nil))
 (.cons (.asg 92 (.bif .set .nil))
 (.cons (.asg 90 (.bif .set .nil))
 (.cons (.asg 76 (.lst (.cons (.mth (.var 74) 56 373 257 (.cons (.var 75) .nil)) .nil)))
 (.cons (.whl (.cmp .Gt (.bif .len (.cons (.var 76) .nil)) (.int 0)) (.cons (.asg 75 (.mth (.var 74) 52 373 229 (.cons (.pop (.var 76)) .nil)))
 (.cons (.iff (.cmp .Eq (.sub (.var 75) (.int 0)) (.glb 41 0)) (.cons (.iff (.cmp .NotIn (.sub (.var 75) (.int 1)) (.var 92)) (.cons (.ex (.sad (.var 92) (.sub (.var 75) (.int 1))))
 (.cons (.ex (.app (.var 91) (.var 75)))
 .nil)) .nil)
 .nil) (.cons (.iff (.and (.mth (.var 74) 60 373 285 (.cons (.var 75) .nil)) (.cmp .NotIn (.sub (.var 75) (.int 1)) (.var 90))) (.cons (.ex (.sad (.var 90) (.sub (.var 75) (.int 1))))
 (.cons (.ex (.call 7 410 (.cons (.var 74) (.cons (.var 75) (.cons (.var 76) .nil)))))
 .nil)) .nil)
 .nil))
 .nil)))
 (.cons (.ret (.var 91))
 .nil))))))
noncomputable def ir_ground : S := (.cons (.asg 90 (.bif .set .nil))
 (.cons (.asg 76 (.lst (.cons (.var 75) .nil)))
 (.cons (.whl (.cmp .Gt (.bif .len (.cons (.var 76) .nil)) (.int 0)) (.cons (.asg 75 (.mth (.var 74) 52 373 229 (.cons (.pop (.var 76)) .nil)))
 (.cons (.iff (.call 10 431 (.cons (.var 75) .nil)) (.cons (.ret (.bol false))
 .nil) .nil)
 (.cons (.iff (.and (.mth (.var 74) 60 373 285 (.cons (.var 75) .nil)) (.cmp .NotIn (.sub (.var 75) (.int 1)) (.var 90))) (.cons (.ex (.sad (.var 90) (.sub (.var 75) (.int 1))))
 (.cons (.ex (.call 7 410 (.cons (.var 74) (.cons (.var 75) (.cons (.var 76) .nil)))))
 .nil)) .nil)
 .nil))))
 (.cons (.ret (.bol true))
 .nil))))
noncomputable def ir_variable_number : S := (.cons (.iff (.cmp .Eq (.sub (.var 75) (.int 0)) (.glb 41 0)) (.cons (.ret (.sub (.var 75) (.int 1)))
 .nil) .nil)
 (.cons (.ret (.bin .Sub (.neg (.int 1)) (.sub (.var 75) (.int 1))))
 .nil))
noncomputable def ir_variant : S := (.cons (.asg 93 .dct)
 (.cons (.asg 94 .dct)
 (.cons (.asg 90 (.new 6 399 389 (.cons (.var 74) .nil)))
 (.cons (.asg 76 (.lst (.cons (.tup (.cons (.var 88) (.cons (.var 89) .nil))) .nil)))
 (.cons (.whl (.cmp .Gt (.bif .len (.cons (.var 76) .nil)) (.int 0)) (.cons (.asg2 79 80 (.pop (.var 76)))
 (.cons (.asg 79 (.mth (.var 74) 52 373 229 (.cons (.var 79) .nil)))
 (.cons (.asg 80 (.mth (.var 74) 52 373 229 (.cons (.var 80) .nil)))
 (.cons (.iff (.and (.call 10 431 (.cons (.var 79) .nil)) (.call 10 431 (.cons (.var 80) .nil))) (.cons (.asg 155 (.call 19 494 (.cons (.var 79) .nil)))
 (.cons (.asg 156 (.call 19 494 (.cons (.var 80) .nil)))
 (.cons (.iff (.and (.cmp .NotIn (.var 155) (.var 93)) (.cmp .NotIn (.var 156) (.var 94))) (.cons (.sit (.var 93) (.var 155) (.var 156))
 (.cons (.sit (.var 94) (.var 156) (.var 155))
 .nil)) (.cons (.iff (.or (.cmp .NotIn (.var 155) (.var 93)) (.cmp .NotEq (.sub (.var 93) (.var 155)) (.var 156))) (.cons (.ret (.bol false))
 .nil) .nil)
 .nil))
 .nil))) (.cons (.iff (.or (.call 10 431 (.cons (.var 79) .nil)) (.call 10 431 (.cons (.var 80) .nil))) (.cons (.ret (.bol false))
 .nil) (.cons (.iff (.mth (.var 74) 60 373 285 (.cons (.var 79) .nil)) (.cons (.iff (.or (.not (.mth (.var 74) 60 373 285 (.cons (.var 80) .nil))) (.not (.call 9 424 (.cons (.var 74) (.cons (.var 79) (.cons (.var 80) .nil)))))) (.cons (.ret (.bol false))
 .nil) .nil)
 (.cons (.iff (.mth (.var 90) 71 399 396 (.cons (.var 79) (.cons (.var 80) .nil))) (.cons (.ex (.call 8 417 (.cons (.var 74) (.cons (.var 79) (.cons (.var 80) (.cons (.var 76) .nil))))))
 .nil) .nil)
 .nil)) (.cons (.iff (.cmp .NotEq (.var 79) (.var 80)) (.cons (.ret (.bol false))
 .nil) .nil)
 .nil))
 .nil))
 .nil))
 .nil)))))
 (.cons (.ret (.bol true))
 .nil))))))
noncomputable def ir_subsumes : S := (.cons (.asg 97 (.bif .set .nil))
 (.cons (.for 75 (.call 17 480 (.cons (.var 74) (.cons (.var 96) .nil))) (.cons (.ex (.sad (.var 97) (.call 19 494 (.cons (.var 75) .nil))))
 .nil))
 (.cons (.asg 98 .dct)
 (.cons (.asg 90 (.new 6 399 389 (.cons (.var 74) .nil)))
 (.cons (.asg 76 (.lst (.cons (.tup (.cons (.var 95) (.cons (.var 96) .nil))) .nil)))
 (.cons (.whl (.cmp .Gt (.bif .len (.cons (.var 76) .nil)) (.int 0)) (.cons (.asg2 79 80 (.pop (.var 76)))
 (.cons (.asg 79 (.mth (.var 74) 52 373 229 (.cons (.var 79) .nil)))
 (.cons (.asg 80 (.mth (.var 74) 52 373 229 (.cons (.var 80) .nil)))
 (.cons (.iff (.call 10 431 (.cons (.var 79) .nil)) (.cons (.asg 118 (.call 19 494 (.cons (.var 79) .nil)))
 (.cons (.iff (.cmp .In (.var 118) (.var 97)) (.cons (.iff (.cmp .NotEq (.var 79) (.var 80)) (.cons (.ret (.bol false))
 .nil) .nil)
 .nil) (.cons (.iff (.cmp .NotIn (.var 118) (.var 98)) (.cons (.sit (.var 98) (.var 118) (.var 80))
 .nil) (.cons (.iff (.not (.call 16 473 (.cons (.var 74) (.cons (.sub (.var 98) (.var 118)) (.cons (.var 80) .nil))))) (.cons (.ret (.bol false))
 .nil) .nil)
 .nil))
 .nil))
 .nil)) (.cons (.iff (.mth (.var 74) 60 373 285 (.cons (.var 79) .nil)) (.cons (.iff (.or (.not (.mth (.var 74) 60 373 285 (.cons (.var 80) .nil))) (.not (.call 9 424 (.cons (.var 74) (.cons (.var 79) (.cons (.var 80) .nil)))))) (.cons (.ret (.bol false))
 .nil) .nil)
 (.cons (.iff (.mth (.var 90) 71 399 396 (.cons (.var 79) (.cons (.var 80) .nil))) (.cons (.ex (.call 8 417 (.cons (.var 74) (.cons (.var 79) (.cons (.var 80) (.cons (.var 76) .nil))))))
 .nil) .nil)
 .nil)) (.cons (.iff (.cmp .NotEq (.var 79) (.var 80)) (.cons (.ret (.bol false))
 .nil) .nil)
 .nil))
 .nil))
 .nil)))))
 (.cons (.ret (.bol true))
 .nil)))))))
noncomputable def ir_law_open : S := (.cons (.asg 100 (.lst .nil))
 (.cons (.for 75 (.slc 99 45) (.cons (.asg 139 (.bif .abs (.cons (.var 75) .nil)))
 (.cons (.ex (.app (.var 100) (.bin .Mod (.var 139) (.int 420))))
 (.cons (.iff (.cmp .GtE (.var 139) (.int 420)) (.cons (.ex (.app (.var 100) (.bin .Mod (.bin .FloorDiv (.var 139) (.int 420)) (.int 420))))
 .nil) .nil)
 .nil))))
 (.cons (.ex (.rev (.var 100)))
 (.cons (.ret (.var 100))
 .nil))))
noncomputable def ir_law_pull : S := (.cons (.ret (.ite (.cmp .NotEq (.var 100) (.lst .nil)) (.bin .Mod (.pop (.var 100)) (.var 101)) (.int 0)))
 .nil)
noncomputable def ir_law_tree : S := (.cons (.asg 87 (.call 23 522 (.cons (.var 100) (.cons (.ite (.cmp .Lt (.var 103) (.int 3)) (.int 5) (.int 3)) .nil))))
 (.cons (.iff (.cmp .Eq (.var 87) (.int 0)) (.cons (.ret (.tup (.cons (.str (Str.ofString "v")) (.cons (.call 23 522 (.cons (.var 100) (.cons (.int 4) .nil))) .nil))))
 .nil) .nil)
 (.cons (.iff (.cmp .Lt (.var 87) (.int 3)) (.cons (.ret (.tup (.cons (.sub (.lst (.cons (.str (Str.ofString "i")) (.cons (.str (Str.ofString "a")) .nil))) (.bin .Sub (.var 87) (.int 1))) (.cons (.call 23 522 (.cons (.var 100) (.cons (.int 2) .nil))) .nil))))
 .nil) .nil)
 (.cons (.ret (.tup (.cons (.str (Str.ofString "s")) (.cons (.mth (.var 102) 34 154 109 (.cons (.str (Str.ofString "f")) (.cons (.bin .Sub (.var 87) (.int 2)) .nil))) (.cons (.bif .tuple (.cons (.cpr (.call 24 527 (.cons (.var 100) (.cons (.var 102) (.cons (.bin .Add (.var 103) (.int 1)) .nil)))) 160 [100, 102, 103] (.bif .range (.cons (.bin .Sub (.var 87) (.int 2)) .nil))) .nil)) .nil)))))
 .nil))))
noncomputable def ir_law_pair : S := (.cons (.ret (.tup (.cons (.str (Str.ofString "s")) (.cons (.mth (.var 102) 34 154 109 (.cons (.str (Str.ofString "p")) (.cons (.int 2) .nil))) (.cons (.tup (.cons (.call 24 527 (.cons (.var 100) (.cons (.var 102) (.cons (.int 2) .nil)))) (.cons (.call 24 527 (.cons (.var 100) (.cons (.var 102) (.cons (.int 2) .nil)))) .nil))) .nil)))))
 .nil)
noncomputable def ir_law_filled : S := (.cons (.iff (.cmp .Eq (.sub (.var 104) (.int 0)) (.str (Str.ofString "v"))) (.cons (.ret (.sub (.var 105) (.sub (.var 104) (.int 1))))
 .nil) .nil)
 (.cons (.iff (.cmp .Eq (.sub (.var 104) (.int 0)) (.str (Str.ofString "s"))) (.cons (.ret (.tup (.cons (.str (Str.ofString "s")) (.cons (.sub (.var 104) (.int 1)) (.cons (.bif .tuple (.cons (.cpr (.call 26 539 (.cons (.var 161) (.cons (.var 105) .nil))) 161 [105] (.sub (.var 104) (.int 2))) .nil)) .nil)))))
 .nil) .nil)
 (.cons (.ret (.var 104))
 .nil)))
noncomputable def ir_law_next : S := (.cons (.asg 106 (.call 23 522 (.cons (.var 100) (.cons (.int 4) .nil))))
 (.cons (.iff (.cmp .Eq (.var 106) (.int 0)) (.cons (.ret (.tup (.cons (.call 26 539 (.cons (.var 104) (.cons (.cpr (.call 24 527 (.cons (.var 100) (.cons (.var 102) (.cons (.int 2) .nil)))) 35 [100, 102] (.bif .range (.cons (.int 4) .nil))) .nil))) (.cons (.bol true) .nil))))
 .nil) .nil)
 (.cons (.iff (.cmp .Eq (.var 106) (.int 1)) (.cons (.ret (.tup (.cons (.call 26 539 (.cons (.var 104) (.cons (.cpr (.tup (.cons (.str (Str.ofString "v")) (.cons (.bin .Mod (.bin .Add (.var 35) (.int 1)) (.int 4)) .nil))) 35 [] (.bif .range (.cons (.int 4) .nil))) .nil))) (.cons (.bol true) .nil))))
 .nil) .nil)
 (.cons (.iff (.cmp .Eq (.var 106) (.int 2)) (.cons (.ret (.tup (.cons (.call 25 534 (.cons (.var 100) (.cons (.var 102) .nil))) (.cons (.bol false) .nil))))
 .nil) .nil)
 (.cons (.ret (.tup (.cons (.call 26 539 (.cons (.var 104) (.cons (.cpr (.tup (.cons (.str (Str.ofString "v")) (.cons (.bif .min (.cons (.var 35) (.cons (.int 1) .nil))) .nil))) 35 [] (.bif .range (.cons (.int 4) .nil))) .nil))) (.cons (.bol true) .nil))))
 .nil)))))
noncomputable def ir_law : S := (.cons (.asg 100 (.call 22 515 (.cons (.var 99) .nil)))
 (.cons (.asg 102 (.new 3 154 81 .nil))
 (.cons (.asg 74 (.new 5 373 194 (.cons (.var 102) .nil)))
 (.cons (.asg 107 (.call 25 534 (.cons (.var 100) (.cons (.var 102) .nil))))
 (.cons (.asg2 141 142 (.call 27 544 (.cons (.var 100) (.cons (.var 102) (.cons (.var 107) .nil)))))
 (.cons (.asg2 143 144 (.call 27 544 (.cons (.var 100) (.cons (.var 102) (.cons (.var 141) .nil)))))
 (.cons (.asg 108 (.lst (.cons (.var 107) (.cons (.var 141) (.cons (.var 143) .nil)))))
 (.cons (.asc 109 (.mth (.var 74) 69 373 363 (.cons (.var 104) (.cons .dct .nil))) 104 [74] (.var 108))
 (.cons (.asg 110 (.cpr (.mth (.var 74) 69 373 363 (.cons (.var 104) (.cons .dct .nil))) 104 [74] (.var 108)))
 (.cons (.asg 111 (.bif .list (.cons (.atr (.var 74) 121 373) .nil)))
 (.cons (.asc 112 (.cpr (.call 21 508 (.cons (.var 74) (.cons (.var 113) (.cons (.var 146) .nil)))) 146 [74, 113] (.var 110)) 113 [110, 74] (.var 109))
 (.cons (.iff (.or (.and (.var 142) (.not (.sub (.sub (.var 112) (.int 0)) (.int 1)))) (.and (.var 144) (.not (.sub (.sub (.var 112) (.int 1)) (.int 2))))) (.cons (.ret (.bol false))
 .nil) .nil)
 (.cons (.for 113 (.bif .range (.cons (.int 3) .nil)) (.cons (.iff (.not (.sub (.sub (.var 112) (.var 113)) (.var 113))) (.cons (.ret (.bol false))
 .nil) .nil)
 (.cons (.for 146 (.bif .range (.cons (.int 3) .nil)) (.cons (.asg 158 (.call 20 501 (.cons (.var 74) (.cons (.sub (.var 109) (.var 113)) (.cons (.sub (.var 110) (.var 146)) .nil)))))
 (.cons (.iff (.or (.cmp .NotEq (.var 158) (.and (.sub (.sub (.var 112) (.var 113)) (.var 146)) (.sub (.sub (.var 112) (.var 146)) (.var 113)))) (.cmp .NotEq (.var 158) (.call 20 501 (.cons (.var 74) (.cons (.sub (.var 110) (.var 146)) (.cons (.sub (.var 109) (.var 113)) .nil)))))) (.cons (.ret (.bol false))
 .nil) .nil)
 (.cons (.iff (.and (.call 18 487 (.cons (.var 74) (.cons (.sub (.var 109) (.var 113)) .nil))) (.cmp .NotEq (.sub (.sub (.var 112) (.var 113)) (.var 146)) (.call 16 473 (.cons (.var 74) (.cons (.sub (.var 109) (.var 113)) (.cons (.sub (.var 110) (.var 146)) .nil)))))) (.cons (.ret (.bol false))
 .nil) .nil)
 (.cons (.for 159 (.bif .range (.cons (.int 3) .nil)) (.cons (.iff (.and3 (.sub (.sub (.var 112) (.var 113)) (.var 146)) (.sub (.sub (.var 112) (.var 146)) (.var 159)) (.not (.sub (.sub (.var 112) (.var 113)) (.var 159)))) (.cons (.ret (.bol false))
 .nil) .nil)
 .nil))
 .nil)))))
 .nil)))
 (.cons (.ret (.and (.cmp .Eq (.atr (.var 74) 121 373) (.var 111)) (.cmp .Eq (.atr (.var 74) 123 373) (.lst .nil))))
 .nil))))))))))))))

noncomputable def mkOK (K : Frag) (C fi : Addr) : Bool := makesIn K C && findIn K (.ref C) "__init__" == some (some (.ref fi)) && typeIn K (.ref fi) == some (.type "function")


structure Code (K : Frag) : Prop where
  fixed_atoms : fnOK K 60 [] ir_fixed_atoms = true
  b_fixed_atoms : BindsFn K 60 [] 0 []
  fixed_functors : fnOK K 67 [] ir_fixed_functors = true
  b_fixed_functors : BindsFn K 67 [] 0 []
  Symbols_init : fnOK K 81 [0] ir_Symbols_init = true
  b_Symbols_init : BindsFn K 81 [0] 1 []
  Symbols_atom : fnOK K 88 [0, 32] ir_Symbols_atom = true
  b_Symbols_atom : BindsFn K 88 [0, 32] 2 []
  Symbols_text : fnOK K 95 [0, 118] ir_Symbols_text = true
  b_Symbols_text : BindsFn K 95 [0, 118] 2 []
  Symbols_functor : fnOK K 102 [0, 31, 36] ir_Symbols_functor = true
  b_Symbols_functor : BindsFn K 102 [0, 31, 36] 3 []
  Symbols_func : fnOK K 109 [0, 32, 36] ir_Symbols_func = true
  b_Symbols_func : BindsFn K 109 [0, 32, 36] 3 []
  Symbols_name : fnOK K 116 [0, 33] ir_Symbols_name = true
  b_Symbols_name : BindsFn K 116 [0, 33] 2 []
  Symbols_arity : fnOK K 123 [0, 33] ir_Symbols_arity = true
  b_Symbols_arity : BindsFn K 123 [0, 33] 2 []
  Store_init : fnOK K 194 [0, 73, 120] ir_Store_init = true
  b_Store_init : ∃ t, BindsFn K 194 [0, 73, 120] 2 [.int 100000 t]
  Store_push : fnOK K 201 [0, 75] ir_Store_push = true
  b_Store_push : BindsFn K 201 [0, 75] 2 []
  Store_new_var : fnOK K 208 [0] ir_Store_new_var = true
  b_Store_new_var : BindsFn K 208 [0] 1 []
  Store_reserve : fnOK K 215 [0, 38] ir_Store_reserve = true
  b_Store_reserve : BindsFn K 215 [0, 38] 2 []
  Store_deref : fnOK K 229 [0, 75] ir_Store_deref = true
  b_Store_deref : BindsFn K 229 [0, 75] 2 []
  Store_bind : fnOK K 243 [0, 75, 128] ir_Store_bind = true
  b_Store_bind : BindsFn K 243 [0, 75, 128] 3 []
  Store_globalise : fnOK K 257 [0, 75] ir_Store_globalise = true
  b_Store_globalise : BindsFn K 257 [0, 75] 2 []
  Store_is_compound : fnOK K 285 [0, 75] ir_Store_is_compound = true
  b_Store_is_compound : BindsFn K 285 [0, 75] 2 []
  Store_functor_of : fnOK K 292 [0, 75] ir_Store_functor_of = true
  b_Store_functor_of : BindsFn K 292 [0, 75] 2 []
  Store_width : fnOK K 299 [0, 75] ir_Store_width = true
  b_Store_width : BindsFn K 299 [0, 75] 2 []
  Store_base : fnOK K 306 [0, 75] ir_Store_base = true
  b_Store_base : BindsFn K 306 [0, 75] 2 []
  Store_new_block : fnOK K 320 [0, 84] ir_Store_new_block = true
  b_Store_new_block : BindsFn K 320 [0, 84] 2 []
  Store_put_term : fnOK K 363 [0, 132, 105] ir_Store_put_term = true
  b_Store_put_term : BindsFn K 363 [0, 132, 105] 3 []
  PairSet_init : fnOK K 389 [0, 74] ir_PairSet_init = true
  b_PairSet_init : BindsFn K 389 [0, 74] 2 []
  PairSet_add : fnOK K 396 [0, 79, 80] ir_PairSet_add = true
  b_PairSet_add : BindsFn K 396 [0, 79, 80] 3 []
  push_arguments : fnOK K 410 [74, 75, 76] ir_push_arguments = true
  b_push_arguments : BindsFn K 410 [74, 75, 76] 3 []
  push_pairs : fnOK K 417 [74, 79, 80, 76] ir_push_pairs = true
  b_push_pairs : BindsFn K 417 [74, 79, 80, 76] 4 []
  same_shape : fnOK K 424 [74, 79, 80] ir_same_shape = true
  b_same_shape : BindsFn K 424 [74, 79, 80] 3 []
  is_variable : fnOK K 431 [75] ir_is_variable = true
  b_is_variable : BindsFn K 431 [75] 1 []
  rank : fnOK K 438 [75] ir_rank = true
  b_rank : BindsFn K 438 [75] 1 []
  order : fnOK K 445 [79, 80] ir_order = true
  b_order : BindsFn K 445 [79, 80] 2 []
  compare_shapes : fnOK K 452 [74, 79, 80] ir_compare_shapes = true
  b_compare_shapes : BindsFn K 452 [74, 79, 80] 3 []
  compare_tops : fnOK K 459 [74, 79, 80] ir_compare_tops = true
  b_compare_tops : BindsFn K 459 [74, 79, 80] 3 []
  compare : fnOK K 466 [74, 88, 89] ir_compare = true
  b_compare : BindsFn K 466 [74, 88, 89] 3 []
  identical : fnOK K 473 [74, 88, 89] ir_identical = true
  b_identical : BindsFn K 473 [74, 88, 89] 3 []
  variables : fnOK K 480 [74, 75] ir_variables = true
  b_variables : BindsFn K 480 [74, 75] 2 []
  ground : fnOK K 487 [74, 75] ir_ground = true
  b_ground : BindsFn K 487 [74, 75] 2 []
  variable_number : fnOK K 494 [75] ir_variable_number = true
  b_variable_number : BindsFn K 494 [75] 1 []
  variant : fnOK K 501 [74, 88, 89] ir_variant = true
  b_variant : BindsFn K 501 [74, 88, 89] 3 []
  subsumes : fnOK K 508 [74, 95, 96] ir_subsumes = true
  b_subsumes : BindsFn K 508 [74, 95, 96] 3 []
  law_open : fnOK K 515 [99] ir_law_open = true
  b_law_open : BindsFn K 515 [99] 1 []
  law_pull : fnOK K 522 [100, 101] ir_law_pull = true
  b_law_pull : BindsFn K 522 [100, 101] 2 []
  law_tree : fnOK K 527 [100, 102, 103] ir_law_tree = true
  b_law_tree : BindsFn K 527 [100, 102, 103] 3 []
  law_pair : fnOK K 534 [100, 102] ir_law_pair = true
  b_law_pair : BindsFn K 534 [100, 102] 2 []
  law_filled : fnOK K 539 [104, 105] ir_law_filled = true
  b_law_filled : BindsFn K 539 [104, 105] 2 []
  law_next : fnOK K 544 [100, 102, 104] ir_law_next = true
  b_law_next : BindsFn K 544 [100, 102, 104] 3 []
  law : fnOK K 549 [99] ir_law = true
  b_law : BindsFn K 549 [99] 1 []
  mk_Symbols : mkOK K 154 81 = true
  mk_Store : mkOK K 373 194 = true
  mk_PairSet : mkOK K 399 389 = true
end Mine

namespace Mine


theorem tc_w (C : Addr) (ws : List Value) (kw : List (Str × Value)) : Nat.ble (Code.builtin "type.__call__" ⟨.ref C :: ws, kw⟩).weight 2 = true := by kernel_rfl
theorem tc_u (C : Addr) (ws : List Value) (kw : List (Str × Value)) : Nat.ble (Code.builtin "type.__call__" ⟨.ref C :: ws, kw⟩).cUnits 8 = true := by kernel_rfl

theorem new_call {c : Cx} {n : Nat} {O : Objs} {C fi : Addr} {ps : List Nat} {b : S} {dvs : List Value} {dv : List AV} {vs : List AV} {Q : AV → Objs → Prop} {k : Nat}
    (ok : c.Ok) (mk : mkOK c.K C fi = true) (hf : fnOK c.K fi ps b = true) (hb : BindsFn c.K fi ps k dvs) (hk : vs.length + 1 = k) (hd : ∀ g, RVs g dvs dv)
    (wp : ∀ x dx, x ≠ dx → O x = none → O dx = none → wpS c n b ⟨up (up O dx (.att [])) x (.obj C dx), lk (ps.zip (.ref x :: (vs ++ dv)))⟩ fun F σ' => (match F with | .next => ∃ l, σ'.fr 0 = some (.inst x C l) ∧ Q (.inst x C l) σ'.O | _ => False)) : CallOK c (n + 2) C vs O Q := by
  intro A s H ws rm RO rv
  unfold mkOK at mk
  simp only [Bool.and_eq_true, beq_iff_eq] at mk
  obtain ⟨⟨m1, m2⟩, m3⟩ := mk
  obtain ⟨h, g, d, t, os⟩ := s
  have X : c.K.In h := ok.kin.keeps fun b o e => (RO.base b o e).1
  refine make_core (makes_of X m1) (looks_findIn X m2) (fun self => bind_fn X self m3) (.inl rfl) ?_
  have dead0 : h.get? h.objs.size = none := dead_size h
  have s1 : (h.push emptyDict).objs.size = h.objs.size + 1 := Heap.size_push ..
  have dead1 : (h.push emptyDict).get? (h.objs.size + 1) = none := by rw [← s1]; exact dead_size _
  have kp0 : ∀ b o, h.get? b = some o → (h.push emptyDict).get? b = some o := fun b o e => Heap.get?_push_of_some _ e
  have kp1 : ∀ b o, (h.push emptyDict).get? b = some o → ((h.push emptyDict).push (instObj C h.objs.size)).get? b = some o := fun b o e => Heap.get?_push_of_some _ e
  have Od := RO.dead (s := ⟨h, g, d, t, os⟩) dead0
  have RO1 : RelO c H (up O h.objs.size (.att [])) ⟨h.push emptyDict, g, d, t, os⟩ := RO.upd (s := ⟨h, g, d, t, os⟩) (.inr dead0) (fun b o _ e => kp0 b o e) t ⟨#[], _, Heap.get?_push_size _ rfl, .nil⟩
  have Ox := RO1.dead (s := ⟨h.push emptyDict, g, d, t, os⟩) dead1
  have at1 : ((h.push emptyDict).push (instObj C h.objs.size)).get? (h.objs.size + 1) = some (instObj C h.objs.size) := by rw [← s1]; exact Heap.get?_push_size _ rfl
  have RO2 : RelO c H (up (up O h.objs.size (.att [])) (h.objs.size + 1) (.obj C h.objs.size)) ⟨(h.push emptyDict).push (instObj C h.objs.size), g, d, t, os⟩ := RO1.upd (s := ⟨h.push emptyDict, g, d, t, os⟩) (.inr dead1) (fun b o _ e => kp1 b o e) t at1
  have st1 : StepO [] H O h (up O h.objs.size (.att [])) (h.push emptyDict) := StepO.upd RO (.inr dead0) fun b o _ e => kp0 b o e
  have st2 : StepO [] H (up O h.objs.size (.att [])) (h.push emptyDict) (up (up O h.objs.size (.att [])) (h.objs.size + 1) (.obj C h.objs.size)) ((h.push emptyDict).push (instObj C h.objs.size)) := StepO.upd RO1 (.inr dead1) fun b o _ e => kp1 b o e
  have st := st1.trans st2
  have ne : h.objs.size + 1 ≠ h.objs.size := by omega
  have Ox' : O (h.objs.size + 1) = none := by have := Ox.1; rwa [up_ne ne] at this
  have rm' : Room (n + 1) (A.under (.builtin "type.__call__" ⟨.ref C :: ws, []⟩)) := by
    have w1 := Nat.le_of_ble_eq_true (tc_w C ws [])
    have w2 := Nat.le_of_ble_eq_true (tc_u C ws [])
    have := rm.dp
    have := rm.un
    refine ⟨rm.hh, ?_, ?_⟩
    · show A.depth + Code.weight _ + 4 * (n + 1) + 8 ≤ 1000; omega
    · show A.units + Code.cUnits _ + 12 * (n + 1) + 100 ≤ 9900; omega
  refine fn_enter (ws := .ref (h.objs.size + 1) :: ws) (vs := .ref (h.objs.size + 1) :: (vs ++ dv)) ok hf hb rm' RO2 (.cons .ref ((rv.mono st.fz).append (hd _))) (by rw [List.length_cons, rv.length]; exact hk) (wp _ _ ne Ox' Od.1) fun F f s' fl Fl' σ' Fd z1 R' hH RO' st' q => ?_
  cases Fl' with
  | next =>
    cases fl with
    | next =>
      obtain ⟨l, e, q⟩ := q
      refine ⟨rfl, .inst (h.objs.size + 1) C l, σ'.O, ?_, RO', st.trans st', q⟩
      have rr : RV (frz σ'.O f.H s'.heap) (.ref (h.objs.size + 1)) (.inst (h.objs.size + 1) C l) := by
        rcases R'.vars 0 _ e with ⟨k1, mc, v, z1, z2, z3⟩ | ⟨k1, ca, v, z1, z2, z3, z4⟩
        · cases z3 with | inst a b r => exact .inst a b r
        · cases z4 with | inst a b r => exact .inst a b r
      rw [hH] at rr
      exact rr.mono frz_wide
    | _ => exact z1.elim
  | _ => exact q.elim
end Mine

namespace Mine

/-! a walk by rules: one rule a statement, and a value for each expression -/
section
variable {c : Cx} {n : Nat} {fr : Nat → Option AV} {O : Objs} {Q : Fl → St → Prop} {t : S}
/-- what stands after a block -/
noncomputable def nx (c : Cx) (n : Nat) (t : S) (Q : Fl → St → Prop) : Fl → St → Prop := fun f σ' => match f with | .next => wpS c n t σ' Q | f => Q f σ'
noncomputable def V (c : Cx) (n : Nat) (e : X) (fr : Nat → Option AV) (O : Objs) (v : AV) : Prop := ∀ P : AV → Objs → Prop, P v O → wpE c n e fr O P
noncomputable def TV (c : Cx) (n : Nat) (e : X) (fr : Nat → Option AV) (O : Objs) (b : Bool) : Prop := ∀ P : Bool → Objs → Prop, P b O → wpT c n e fr O P
theorem rAsg {i : Nat} {e : X} (v : AV) (hv : V c n e fr O v) (h : wpS c n t ⟨O, setf fr i v⟩ Q) : wpS c n (.cons (.asg i e) t) ⟨O, fr⟩ Q := hv _ h
theorem rAsgC {i : Nat} {e : X} (h : wpE c n e fr O fun v O' => wpS c n t ⟨O', setf fr i v⟩ Q) : wpS c n (.cons (.asg i e) t) ⟨O, fr⟩ Q := h
theorem rRet {e : X} (v : AV) (hv : V c n e fr O v) (h : Q (.ret v) ⟨O, fr⟩) : wpS c n (.cons (.ret e) t) ⟨O, fr⟩ Q := hv _ h
theorem rRetC {e : X} (h : wpE c n e fr O fun v O' => Q (.ret v) ⟨O', fr⟩) : wpS c n (.cons (.ret e) t) ⟨O, fr⟩ Q := h
theorem rIf {e : X} {A B : S} (b : Bool) (hv : TV c n e fr O b) (hT : b = true → wpS c n A ⟨O, fr⟩ (nx c n t Q)) (hF : b = false → wpS c n B ⟨O, fr⟩ (nx c n t Q)) : wpS c n (.cons (.iff e A B) t) ⟨O, fr⟩ Q :=
  hv _ (by cases b with
    | true => exact hT rfl
    | false => exact hF rfl)
theorem rIfT {e : X} {A B : S} (hv : TV c n e fr O true) (h : wpS c n A ⟨O, fr⟩ (nx c n t Q)) : wpS c n (.cons (.iff e A B) t) ⟨O, fr⟩ Q := hv _ h
theorem rIfF {e : X} {A B : S} (hv : TV c n e fr O false) (h : wpS c n B ⟨O, fr⟩ (nx c n t Q)) : wpS c n (.cons (.iff e A B) t) ⟨O, fr⟩ Q := hv _ h
theorem rIfC {e : X} {A B : S} (h : wpT c n e fr O fun z O' => if z then wpS c n A ⟨O', fr⟩ (nx c n t Q) else wpS c n B ⟨O', fr⟩ (nx c n t Q)) : wpS c n (.cons (.iff e A B) t) ⟨O, fr⟩ Q := h
theorem rNx {σ : St} (h : wpS c n t σ Q) : wpS c n .nil σ (nx c n t Q) := h
theorem rNil {σ : St} (h : Q .next σ) : wpS c n .nil σ Q := h
theorem rCnt {σ : St} (h : Q .cont σ) : wpS c n (.cons .cnt t) σ Q := h
/-- a loop that ends in its first round -/
noncomputable def lpK (σ : St) (K : Fl → St → Prop) : Fl → St → Prop := fun f σ' => match f with
      | .next => ∃ m, m < 0 ∧ (m = 0 ∧ σ' = σ)
      | .cont => ∃ m, m < 0 ∧ (m = 0 ∧ σ' = σ)
      | .brk => K .next σ'
      | .ret v => K (.ret v) σ'
theorem rWhl1 {σ : St} {b : S} (h : wpS c n b σ (lpK σ (nx c n t Q))) : wpS c n (.cons (.whl (.bol true) b) t) σ Q :=
  ⟨fun k τ => k = 0 ∧ τ = σ, 0, ⟨rfl, rfl⟩, fun _ _ e => by obtain ⟨rfl, rfl⟩ := e; exact h⟩
theorem vSub {a i : X} {x y z : AV} (e : subA O x y = some z) (ha : V c n a fr O x) (hi : V c n i fr O y) : V c n (.sub a i) fr O z := fun P h => ha _ (hi _ (by
  show (match subA O x y with | some z => P z O | none => False)
  rw [e]; exact h))
theorem vBin {o : Operator} {a b : X} {x y z : AV} (e : binA o x y = some z) (ha : V c n a fr O x) (hb : V c n b fr O y) : V c n (.bin o a b) fr O z := fun P h => ha _ (hb _ (by
  show (match binA o x y with | some z => P z O | none => False)
  rw [e]; exact h))
theorem vCmp {o : CmpOp} {a b : X} {x y : AV} {z : Bool} (e : cmpA O o x y = some z) (ha : V c n a fr O x) (hb : V c n b fr O y) : V c n (.cmp o a b) fr O (.bool z) := fun P h => ha _ (hb _ (by
  show (match cmpA O o x y with | some z => P (.bool z) O | none => False)
  rw [e]; exact h))
theorem tCmp {o : CmpOp} {a b : X} {x y : AV} {z : Bool} (e : cmpA O o x y = some z) (ha : V c n a fr O x) (hb : V c n b fr O y) : TV c n (.cmp o a b) fr O z := fun P h => ha _ (hb _ (by
  show (match cmpA O o x y with | some z => P z O | none => False)
  rw [e]; exact h))
theorem tEq {a b : X} {x y : AV} {z : Bool} (e : eqA O x y = some z) (ha : V c n a fr O x) (hb : V c n b fr O y) : TV c n (.cmp .Eq a b) fr O z := tCmp (o := .Eq) e ha hb
theorem vEq {a b : X} {x y : AV} {z : Bool} (e : eqA O x y = some z) (ha : V c n a fr O x) (hb : V c n b fr O y) : V c n (.cmp .Eq a b) fr O (.bool z) := vCmp (o := .Eq) e ha hb
theorem tNe {a b : X} {x y : AV} {z : Bool} (e : eqA O x y = some z) (ha : V c n a fr O x) (hb : V c n b fr O y) : TV c n (.cmp .NotEq a b) fr O (!z) := tCmp (o := .NotEq) (congrArg (Option.map (!·)) e) ha hb
theorem vAtr1 {i j : Nat} {C x : Addr} {l : List (Nat × AV)} {v : AV} (e : fr i = some (.inst x C l)) (e2 : lk l j = some v) : V c n (.atr (.var i) j C) fr O v := fun P h => by
  show (match fr i with | some v => (match v with | .inst _ C' l => C' = C ∧ ∃ v, lk l j = some v ∧ P v O | _ => False) | none => False)
  rw [e]; exact ⟨rfl, v, e2, h⟩
theorem tNot {a : X} {z : Bool} (ha : TV c n a fr O z) : TV c n (.not a) fr O (!z) := fun P h => ha _ h
theorem tAnd {a b : X} {x y : Bool} (ha : TV c n a fr O x) (hb : x = true → TV c n b fr O y) (hy : x = false → y = false) : TV c n (.and a b) fr O y := fun P h => ha _ (by
  cases x with
  | true => exact hb rfl _ h
  | false => rw [hy rfl] at h; exact h)
theorem vVar {i : Nat} {v : AV} (e : fr i = some v) : V c n (.var i) fr O v := fun P h => by
  show (match fr i with | some v => P v O | none => False)
  rw [e]; exact h
theorem vAtr {a : X} {i : Nat} {C x : Addr} {l : List (Nat × AV)} {v : AV} (ha : V c n a fr O (.inst x C l)) (e : lk l i = some v) : V c n (.atr a i C) fr O v := fun P h => ha _ ⟨rfl, v, e, h⟩
theorem rMth {a l : X} {i : Nat} {C f x : Addr} {as : List (Nat × AV)} {K : AV → Objs → Prop} (e : lk as i = none) (ha : V c n a fr O (.inst x C as)) (h : wpL c n l fr O fun vs O => CallOK c n f (.inst x C as :: vs) O K) : wpE c n (.mth a i C f l) fr O K := ha _ ⟨rfl, e, h⟩
theorem rCall {l : X} {i : Nat} {f : Addr} {K : AV → Objs → Prop} (h : wpL c n l fr O fun vs O => CallOK c n f vs O K) : wpE c n (.call i f l) fr O K := h
theorem tCall {l : X} {i : Nat} {f : Addr} {K : Bool → Objs → Prop} (h : wpL c n l fr O fun vs O => CallOK c n f vs O fun v O => truA v fun b => K b O) : wpT c n (.call i f l) fr O K := h
theorem tMth {a l : X} {i : Nat} {C f x : Addr} {as : List (Nat × AV)} {K : Bool → Objs → Prop} (e : lk as i = none) (ha : V c n a fr O (.inst x C as)) (h : wpL c n l fr O fun vs O => CallOK c n f (.inst x C as :: vs) O fun v O => truA v fun b => K b O) : wpT c n (.mth a i C f l) fr O K := ha _ ⟨rfl, e, h⟩
theorem a0 {K : List AV → Objs → Prop} (h : K [] O) : wpL c n .nil fr O K := h
theorem a1 {e1 : X} {v1 : AV} {K : List AV → Objs → Prop} (h1 : V c n e1 fr O v1) (h : K [v1] O) : wpL c n (.cons e1 .nil) fr O K := h1 _ h
theorem a2 {e1 e2 : X} {v1 v2 : AV} {K : List AV → Objs → Prop} (h1 : V c n e1 fr O v1) (h2 : V c n e2 fr O v2) (h : K [v1, v2] O) : wpL c n (.cons e1 (.cons e2 .nil)) fr O K := h1 _ (h2 _ h)
theorem a3 {e1 e2 e3 : X} {v1 v2 v3 : AV} {K : List AV → Objs → Prop} (h1 : V c n e1 fr O v1) (h2 : V c n e2 fr O v2) (h3 : V c n e3 fr O v3) (h : K [v1, v2, v3] O) : wpL c n (.cons e1 (.cons e2 (.cons e3 .nil))) fr O K := h1 _ (h2 _ (h3 _ h))
theorem a4 {e1 e2 e3 e4 : X} {v1 v2 v3 v4 : AV} {K : List AV → Objs → Prop} (h1 : V c n e1 fr O v1) (h2 : V c n e2 fr O v2) (h3 : V c n e3 fr O v3) (h4 : V c n e4 fr O v4) (h : K [v1, v2, v3, v4] O) : wpL c n (.cons e1 (.cons e2 (.cons e3 (.cons e4 .nil)))) fr O K := h1 _ (h2 _ (h3 _ (h4 _ h)))
/-- after a call for its effect -/
noncomputable def exK (c : Cx) (n : Nat) (t : S) (fr : Nat → Option AV) (Q : Fl → St → Prop) : AV → Objs → Prop := fun v O => (match v with | .none => nx c n t Q .next ⟨O, fr⟩ | .int _ => nx c n t Q .next ⟨O, fr⟩ | _ => False)
theorem rEx {e : X} (h : wpE c n e fr O (exK c n t fr Q)) : wpS c n (.cons (.ex e) t) ⟨O, fr⟩ Q := h
theorem rBif {b : Bf} {l : X} {K : AV → Objs → Prop} (h : wpL c n l fr O fun vs O => bifA O b vs K) : wpE c n (.bif b l) fr O K := h
theorem aC {e l : X} {K : List AV → Objs → Prop} (h : wpE c n e fr O fun v O => wpL c n l fr O fun vs O => K (v :: vs) O) : wpL c n (.cons e l) fr O K := h
theorem rBinC {o : Operator} {a b : X} {K : AV → Objs → Prop} (h : wpE c n a fr O fun x O => wpE c n b fr O fun y O => (match binA o x y with | some z => K z O | none => False)) : wpE c n (.bin o a b) fr O K := h
theorem rBinV {o : Operator} {a b : X} {x : AV} {K : AV → Objs → Prop} (ha : V c n a fr O x) (h : wpE c n b fr O fun y O => (match binA o x y with | some z => K z O | none => False)) : wpE c n (.bin o a b) fr O K := ha _ h
theorem bRng {x y z : Int} {K : AV → Objs → Prop} (hx : okR x = true) (hy : okR y = true) (hz : okR z = true ∧ z ≠ 0) (h : K (.rng x y z) O) : bifA O .range [.int x, .int y, .int z] K := ⟨⟨hx, hy, hz.1, hz.2⟩, h⟩
theorem bRng1 {x : Int} {K : AV → Objs → Prop} (hx : okR x = true) (h : K (.rng 0 x 1) O) : bifA O .range [.int x] K := ⟨hx, h⟩
noncomputable def forK (c : Cx) (n : Nat) (x : Nat) (b t : S) (fr : Nat → Option AV) (Q : Fl → St → Prop) : AV → Objs → Prop := fun v O => (match seqOf O v with
  | some full => full.length < lim ∧ forL x v full (fun σ K => wpS c n b σ K) full ⟨O, fr⟩ (nx c n t Q)
  | none => False)
theorem rFor {x : Nat} {it : X} {b : S} (h : wpE c n it fr O (forK c n x b t fr Q)) : wpS c n (.cons (.for x it b) t) ⟨O, fr⟩ Q := h
theorem forI {x : Nat} {b : S} {v : AV} {full : List AV} (e : seqOf O v = some full) (hl : full.length < lim) (h : forL x v full (fun σ K => wpS c n b σ K) full ⟨O, fr⟩ (nx c n t Q)) : forK c n x b t fr Q v O := by
  unfold forK; rw [e]; exact ⟨hl, h⟩
noncomputable def flK (c : Cx) (n : Nat) (x : Nat) (v : AV) (full : List AV) (b : S) (r : List AV) (Q : Fl → St → Prop) : Fl → St → Prop := fun f σ' => match f with
    | .next => seqOf σ'.O v = some full ∧ forL x v full (fun σ K => wpS c n b σ K) r σ' Q
    | .cont => seqOf σ'.O v = some full ∧ forL x v full (fun σ K => wpS c n b σ K) r σ' Q
    | .brk => Q .next σ'
    | .ret w => Q (.ret w) σ'
theorem flC {x : Nat} {v y : AV} {full r : List AV} {b : S} (h : wpS c n b ⟨O, setf fr x y⟩ (flK c n x v full b r Q)) : forL x v full (fun σ K => wpS c n b σ K) (y :: r) ⟨O, fr⟩ Q := h
theorem flE {x : Nat} {v : AV} {full : List AV} {b : S} {σ : St} (h : Q .next σ) : forL x v full (fun σ K => wpS c n b σ K) [] σ Q := h
theorem flX {x : Nat} {v : AV} {full : List AV} {b : S} {σ : St} (h : wpS c n t σ Q) : forL x v full (fun σ K => wpS c n b σ K) [] σ (nx c n t Q) := h
theorem flN {x : Nat} {v : AV} {full r : List AV} {b : S} {σ : St} (e : seqOf σ.O v = some full) (h : forL x v full (fun σ K => wpS c n b σ K) r σ Q) : wpS c n .nil σ (flK c n x v full b r Q) := ⟨e, h⟩
theorem rApp {a x : X} {w : Addr} {l : List AV} {y : AV} {K : AV → Objs → Prop} (e : O w = some (.list l)) (hl : l.length < lim) (ha : V c n a fr O (.ref w)) (hx : V c n x fr O y) (h : K .none (up O w (.list (l ++ [y])))) : wpE c n (.app a x) fr O K :=
  ha _ ⟨⟨l, e⟩, hx _ (by
    show oP (asLst (O w)) _
    rw [e]; exact ⟨hl, h⟩)⟩
theorem vTup2 {a b : X} {x y : AV} (ha : V c n a fr O x) (hb : V c n b fr O y) : V c n (.tup (.cons a (.cons b .nil))) fr O (.tup [x, y]) := fun P h => ha _ (hb _ h)
theorem aV {e l : X} {v : AV} {K : List AV → Objs → Prop} (hv : V c n e fr O v) (h : wpL c n l fr O fun vs O => K (v :: vs) O) : wpL c n (.cons e l) fr O K := hv _ h
theorem nb {z : Int} (e : (!decide (z = 0)) = true) : z ≠ 0 := fun q => by rw [decide_eq_true q] at e; cases e
theorem eb {z : Int} (e : (!decide (z = 0)) = false) : z = 0 := by
  by_cases q : z = 0
  · exact q
  · rw [decide_eq_false q] at e; cases e
theorem rSit {o k e : X} {v x y : AV} (hv : V c n e fr O v) (ho : V c n o fr O x) (hk : V c n k fr O y) (h : sitA O x y v fun O' => wpS c n t ⟨O', fr⟩ Q) : wpS c n (.cons (.sit o k e) t) ⟨O, fr⟩ Q := hv _ (ho _ (hk _ h))
theorem rAug {i : Nat} {e : X} {p q : Int} (f : fr i = some (.int p)) (hv : V c n e fr O (.int q)) (h : wpS c n t ⟨O, setf fr i (.int (p + q))⟩ Q) : wpS c n (.cons (.aug i .Add e) t) ⟨O, fr⟩ Q := by
  show (match fr i with
      | some (.int a) => wpE c n e fr O fun v O => (match Operator.Add, v with | .Add, .int b => wpS c n t ⟨O, setf fr i (.int (a + b))⟩ Q | _, _ => False)
      | _ => False)
  rw [f]; exact hv _ h
theorem vLen {a : X} {w : Addr} {l : List AV} {k : Nat} (e : O w = some (.list l)) (hk : l.length = k) (hl : k < lim) (ha : V c n a fr O (.ref w)) : V c n (.bif .len (.cons a .nil)) fr O (.int k) := fun P h => ha _ (by
  show oP (asLst (O w)) _
  rw [e]; subst hk; exact ⟨hl, h⟩)
theorem tSne {a b : X} {x y : Str} (e : (x = y) = False) (ha : V c n a fr O (.str x)) (hb : V c n b fr O (.str y)) : TV c n (.cmp .Eq a b) fr O false := tEq (x := .str x) (y := .str y) (congrArg some (decide_eq_false (of_eq_false e))) ha hb
theorem tSeq {a b : X} {x : Str} (ha : V c n a fr O (.str x)) (hb : V c n b fr O (.str x)) : TV c n (.cmp .Eq a b) fr O true := tEq (x := .str x) (y := .str x) (congrArg some (decide_eq_true rfl)) ha hb
theorem rTup {l : X} {K : AV → Objs → Prop} (h : wpL c n l fr O fun vs O => K (.tup vs) O) : wpE c n (.tup l) fr O K := h
theorem rAppC {a x : X} {w : Addr} {l : List AV} {K : AV → Objs → Prop} (e : O w = some (.list l)) (ha : V c n a fr O (.ref w)) (h : wpE c n x fr O fun y O' => appA O' (.ref w) y K) : wpE c n (.app a x) fr O K := ha _ ⟨⟨l, e⟩, h⟩
theorem appI {w : Addr} {l : List AV} {y : AV} {K : AV → Objs → Prop} (e : O w = some (.list l)) (hl : l.length < lim) (h : K .none (up O w (.list (l ++ [y])))) : appA O (.ref w) y K := by
  show oP (asLst (O w)) _
  rw [e]; exact ⟨hl, h⟩
theorem rLst {l : X} {K : AV → Objs → Prop} (h : wpL c n l fr O fun vs O => newM O (.list vs) K) : wpE c n (.lst l) fr O K := h
theorem rAsg2 {i j : Nat} {e : X} (x y : AV) (hv : V c n e fr O (.tup [x, y])) (h : wpS c n t ⟨O, setf (setf fr i x) j y⟩ Q) : wpS c n (.cons (.asg2 i j e) t) ⟨O, fr⟩ Q := hv _ h
theorem rForV {x : Nat} {it : X} {b : S} {v : AV} {full : List AV} (e : seqOf O v = some full) (hl : full.length < lim) (hv : V c n it fr O v) (h : forL x v full (fun σ K => wpS c n b σ K) full ⟨O, fr⟩ (nx c n t Q)) : wpS c n (.cons (.for x it b) t) ⟨O, fr⟩ Q := hv _ (forI e hl h)
noncomputable def whK (I : Nat → St → Prop) (k : Nat) (K : Fl → St → Prop) : Fl → St → Prop := fun f σ' => match f with
      | .next => ∃ m, m < k ∧ I m σ'
      | .cont => ∃ m, m < k ∧ I m σ'
      | .brk => K .next σ'
      | .ret v => K (.ret v) σ'
theorem rWhl {e : X} {b : S} {σ : St} (I : Nat → St → Prop) (k : Nat) (h0 : I k σ) (hI : ∀ k σ, I k σ → ∃ z, TV c n e σ.fr σ.O z ∧ (z = true → wpS c n b σ (whK I k (nx c n t Q))) ∧ (z = false → wpS c n t σ Q)) : wpS c n (.cons (.whl e b) t) σ Q :=
  ⟨I, k, h0, fun k σ i => by
    obtain ⟨z, hz, h1, h2⟩ := hI k σ i
    refine hz _ ?_
    cases z with
    | true => exact h1 rfl
    | false => exact h2 rfl⟩
theorem vRng1 {a : X} {x : Int} (hx : okR x = true) (ha : V c n a fr O (.int x)) : V c n (.bif .range (.cons a .nil)) fr O (.rng 0 x 1) := fun P h => ha _ ⟨hx, h⟩
/-- the body of a comprehension, and what stands after one round -/
noncomputable def cpB (c : Cx) (n : Nat) (e : X) (fr : Nat → Option AV) (fs : List Nat) (x : Nat) : AV → Objs → (AV → Objs → Prop) → Prop := fun y O K => wpE c n e (setf (restr fr fs) x y) O K
noncomputable def cpK (c : Cx) (n : Nat) (e : X) (fr : Nat → Option AV) (fs : List Nat) (x : Nat) (v : AV) (full r acc : List AV) (K : List AV → Objs → Prop) : AV → Objs → Prop := fun w O' => seqOf O' v = some full ∧ compL (cpB c n e fr fs x) v full r O' (acc ++ [w]) K
theorem rCpr {e it : X} {x : Nat} {fs : List Nat} {v : AV} {full : List AV} {K : AV → Objs → Prop} (hs : fs.all (fun i => (fr i).isSome) = true) (es : seqOf O v = some full) (hl : full.length < lim) (hv : V c n it fr O v) (h : compL (cpB c n e fr fs x) v full full O [] fun out O => newM O (.list out) K) : wpE c n (.cpr e x fs it) fr O K := ⟨hs, hv _ (by
  show (match seqOf O v with
      | some full => full.length < lim ∧ compL (fun y O K => wpE c n e (setf (restr fr fs) x y) O K) v full full O [] fun out O => newM O (.list out) K
      | none => False)
  rw [es]; exact ⟨hl, h⟩)⟩
theorem cpC {e : X} {x : Nat} {fs : List Nat} {v y : AV} {full r acc : List AV} {K : List AV → Objs → Prop} (h : wpE c n e (setf (restr fr fs) x y) O (cpK c n e fr fs x v full r acc K)) : compL (cpB c n e fr fs x) v full (y :: r) O acc K := h
theorem cpV {e : X} {x : Nat} {fs : List Nat} {v y : AV} {full r acc : List AV} {K : List AV → Objs → Prop} (w : AV) (es : seqOf O v = some full) (hv : V c n e (setf (restr fr fs) x y) O w) (h : compL (cpB c n e fr fs x) v full r O (acc ++ [w]) K) : compL (cpB c n e fr fs x) v full (y :: r) O acc K := hv _ ⟨es, h⟩
theorem cpE {e : X} {x : Nat} {fs : List Nat} {v : AV} {full acc : List AV} {K : List AV → Objs → Prop} (h : K acc O) : compL (cpB c n e fr fs x) v full [] O acc K := h
theorem bTup {w : Addr} {l : List AV} {K : AV → Objs → Prop} (e : O w = some (.list l)) (hl : l.length < lim) (h : K (.tup l) O) : bifA O .tuple [.ref w] K := by
  show oP (asLst (O w)) _
  rw [e]; exact ⟨hl, h⟩
theorem rSubC {a i : X} {K : AV → Objs → Prop} (h : wpE c n a fr O fun x O => wpE c n i fr O fun y O => (match subA O x y with | some z => K z O | none => False)) : wpE c n (.sub a i) fr O K := h
theorem subI {i : X} {x y z : AV} {K : AV → Objs → Prop} (e : subA O x y = some z) (hi : V c n i fr O y) (h : K z O) : wpE c n i fr O fun y O => (match subA O x y with | some z => K z O | none => False) := hi _ (by
  show (match subA O x y with | some z => K z O | none => False)
  rw [e]; exact h)
theorem tOr {a b : X} {x y : Bool} (ha : TV c n a fr O x) (hb : TV c n b fr O y) : TV c n (.or a b) fr O (x || y) := fun P h => ha _ (by
  cases x with
  | true => exact h
  | false => exact hb _ h)
theorem tAnd2 {a b : X} {x y : Bool} (ha : TV c n a fr O x) (hb : TV c n b fr O y) : TV c n (.and a b) fr O (x && y) := fun P h => ha _ (by
  cases x with
  | true => exact hb _ h
  | false => exact h)
theorem tAnd3 {a b d : X} {x y z : Bool} (ha : TV c n a fr O x) (hb : TV c n b fr O y) (hd : TV c n d fr O z) : TV c n (.and3 a b d) fr O (x && (y && z)) := fun P h => ha _ (by
  cases x with
  | false => exact h
  | true => exact hb _ (by
    cases y with
    | false => exact h
    | true => exact hd _ h))
theorem tVar {i : Nat} {b : Bool} (e : fr i = some (.bool b)) : TV c n (.var i) fr O b := fun P h => by
  show (match fr i with | some v => truA v fun b => P b O | none => False)
  rw [e]; exact h
theorem tSub {a i : X} {x y : AV} {b : Bool} (e : subA O x y = some (.bool b)) (ha : V c n a fr O x) (hi : V c n i fr O y) : TV c n (.sub a i) fr O b := fun P h => ha _ (hi _ (by
  show (match subA O x y with | some z => truA z fun b => P b O | none => False)
  rw [e]; exact h))
theorem vAnd {a b : X} {x y : Bool} (ha : V c n a fr O (.bool x)) (hb : V c n b fr O (.bool y)) : V c n (.and a b) fr O (.bool (x && y)) := fun P h => ha _ (by
  cases x with
  | true => exact hb _ h
  | false => exact h)
theorem rAsc {i : Nat} {e : X} {x : Nat} {fs : List Nat} {it : X} (h : wpE c n (.cpr e x fs it) fr O fun v O' => wpS c n t ⟨O', setf fr i v⟩ Q) : wpS c n (.cons (.asc i e x fs it) t) ⟨O, fr⟩ Q := h
theorem tAndC {a b : X} {K : Bool → Objs → Prop} (h : wpT c n a fr O fun t O => if t then wpT c n b fr O K else K false O) : wpT c n (.and a b) fr O K := h
theorem tOrF {a b : X} {K : Bool → Objs → Prop} (ha : TV c n a fr O false) (h : wpT c n b fr O K) : wpT c n (.or a b) fr O K := ha _ h
theorem tCmpV {o : CmpOp} {a b : X} {x : AV} {K : Bool → Objs → Prop} (ha : V c n a fr O x) (h : wpE c n b fr O fun y O => (match cmpA O o x y with | some z => K z O | none => False)) : wpT c n (.cmp o a b) fr O K := ha _ h
theorem cmpI {o : CmpOp} {x y : AV} {z : Bool} {K : Bool → Objs → Prop} (e : cmpA O o x y = some z) (h : K z O) : (match cmpA O o x y with | some z => K z O | none => False) := by rw [e]; exact h
theorem rCmpV {o : CmpOp} {a b : X} {x : AV} {K : AV → Objs → Prop} (ha : V c n a fr O x) (h : wpE c n b fr O fun y O => (match cmpA O o x y with | some z => K (.bool z) O | none => False)) : wpE c n (.cmp o a b) fr O K := ha _ h
theorem cmpE {o : CmpOp} {x y : AV} {z : Bool} {K : AV → Objs → Prop} (e : cmpA O o x y = some z) (h : K (.bool z) O) : (match cmpA O o x y with | some z => K (.bool z) O | none => False) := by rw [e]; exact h
theorem rAndT {a b : X} {K : AV → Objs → Prop} (ha : V c n a fr O (.bool true)) (h : wpE c n b fr O K) : wpE c n (.and a b) fr O K := ha _ h
theorem rNew {l : X} {i : Nat} {C f : Addr} {K : AV → Objs → Prop} (h : wpL c n l fr O fun vs O => CallOK c n C vs O K) : wpE c n (.new i C f l) fr O K := h
theorem rAsg2C {i j : Nat} {e : X} (h : wpE c n e fr O fun v O' => (match v with | .tup [a, b] => wpS c n t ⟨O', setf (setf fr i a) j b⟩ Q | _ => False)) : wpS c n (.cons (.asg2 i j e) t) ⟨O, fr⟩ Q := h
theorem vGet {a k d : X} {x y z w : AV} (e : dctA O x) (g : ∀ P : AV → Objs → Prop, P w O → getA O x y z P) (ha : V c n a fr O x) (hk : V c n k fr O y) (hd : V c n d fr O z) : V c n (.get a k d) fr O w := fun P h => ha _ ⟨e, hk _ (hd _ (g P h))⟩
theorem rSad {a x : X} {w : Addr} {l : List Int} {k : Int} {K : AV → Objs → Prop} (e : O w = some (.set l)) (hl : l.length < 4000) (nc : l.contains k = false) (ha : V c n a fr O (.ref w)) (hx : V c n x fr O (.int k)) (h : K .none (up O w (.set (l ++ [k])))) : wpE c n (.sad a x) fr O K := ha _ ⟨⟨l, e⟩, hx _ (by
  show oP (asSet (O w)) _
  rw [e]
  refine ⟨hl, ?_⟩
  rw [nc]; exact h)⟩
theorem sSad {a x : X} {w : Addr} {l : List Int} {k : Int} (e : O w = some (.set l)) (hl : l.length < 4000) (nc : l.contains k = false) (ha : V c n a fr O (.ref w)) (hx : V c n x fr O (.int k)) (h : wpS c n t ⟨up O w (.set (l ++ [k])), fr⟩ Q) : wpS c n (.cons (.ex (.sad a x)) t) ⟨O, fr⟩ Q := rEx (rSad e hl nc ha hx h)
theorem sApp {a x : X} {w : Addr} {l : List AV} {y : AV} (e : O w = some (.list l)) (hl : l.length < lim) (ha : V c n a fr O (.ref w)) (hx : V c n x fr O y) (h : wpS c n t ⟨up O w (.list (l ++ [y])), fr⟩ Q) : wpS c n (.cons (.ex (.app a x)) t) ⟨O, fr⟩ Q := rEx (rApp e hl ha hx h)
theorem tOrC {a b : X} {K : Bool → Objs → Prop} (h : wpT c n a fr O fun t O => if t then K true O else wpT c n b fr O K) : wpT c n (.or a b) fr O K := h
theorem tNotC {a : X} {K : Bool → Objs → Prop} (h : wpT c n a fr O fun t O => K (!t) O) : wpT c n (.not a) fr O K := h
theorem tNi {a b : X} {x y : AV} {z : Bool} (e : inA O x y = some z) (ha : V c n a fr O x) (hb : V c n b fr O y) : TV c n (.cmp .NotIn a b) fr O (!z) := tCmp (o := .NotIn) (x := x) (y := y) (z := !z) (by rw [cmp_ni, e]; rfl) ha hb
theorem rPop {a : X} {w : Addr} {l : List AV} {x : AV} {K : AV → Objs → Prop} (e : O w = some (.list (l ++ [x]))) (hl : (l ++ [x]).length < lim) (ha : V c n a fr O (.ref w)) (h : K x (up O w (.list l))) : wpE c n (.pop a) fr O K := ha _ (by
  show oP (asLst (O w)) _
  rw [e]
  refine ⟨hl, x, by simp, ?_⟩
  · rw [List.dropLast_concat]; exact h)
theorem ttN {A B : Prop} (h : B) : truA (.bool true) fun b => if (!b) = true then A else B := h
theorem rSlc {i k : Nat} {l : List AV} {K : AV → Objs → Prop} (e : fr i = some (.lst l)) (hk : k < 1000) (hl : l.length < lim) (h : newM O (.list (l.take k)) K) : wpE c n (.slc i k) fr O K := by
  show (match fr i with | some (.lst l) => k < 1000 ∧ l.length < lim ∧ newM O (.list (l.take k)) K | _ => False)
  rw [e]; exact ⟨hk, hl, h⟩
theorem rRev {a : X} {w : Addr} {l : List AV} {K : AV → Objs → Prop} (e : O w = some (.list l)) (hl : l.length < lim) (ha : V c n a fr O (.ref w)) (h : K .none (up O w (.list l.reverse))) : wpE c n (.rev a) fr O K := ha _ (by
  show oP (asLst (O w)) _
  rw [e]; exact ⟨hl, h⟩)
theorem sRev {a : X} {w : Addr} {l : List AV} (e : O w = some (.list l)) (hl : l.length < lim) (ha : V c n a fr O (.ref w)) (h : wpS c n t ⟨up O w (.list l.reverse), fr⟩ Q) : wpS c n (.cons (.ex (.rev a)) t) ⟨O, fr⟩ Q := rEx (rRev e hl ha h)
theorem iteC {x a b : X} {K : AV → Objs → Prop} (h : wpT c n x fr O fun z O => if z then wpE c n a fr O K else wpE c n b fr O K) : wpE c n (.ite x a b) fr O K := h
theorem binI {o : Operator} {x y z : AV} {b : X} {K : AV → Objs → Prop} (e : binA o x y = some z) (hb : V c n b fr O y) (h : K z O) : wpE c n b fr O fun y O => (match binA o x y with | some z => K z O | none => False) := hb _ (by
  show (match binA o x y with | some z => K z O | none => False)
  rw [e]; exact h)
theorem toT {e : X} {b : Bool} (hT : ∀ fr O (P : Bool → Objs → Prop), (wpE c n e fr O fun v O => truA v fun b => P b O) → wpT c n e fr O P) (h : V c n e fr O (.bool b)) : TV c n e fr O b := fun P q => hT _ _ _ (h _ q)
end
end Mine

namespace Mine

theorem lt1_int (a b : Int) : lt1 (.int a) (.int b) = some (decide (a < b)) := rfl
theorem lt1_str (a b : Str) : lt1 (.str a) (.str b) = some (decide (a.cps.toList < b.cps.toList)) := rfl
theorem lt1_cl (a b x y : Int) : lt1 (.tup [.int a, .int b]) (.tup [.int x, .int y]) = some (decide (a < x ∨ (a = x ∧ b < y))) := rfl
/-! the store as abstract values -/
structure SA where
  x : Addr
  hp : Addr
  stk : Addr
  trl : Addr
  y : Addr
  tx : Addr
  an : Addr
  fu : Addr
  fn : Addr
noncomputable def symV (a : SA) : AV := .inst a.y 154 [(114, .ref a.tx), (115, .ref a.an), (116, .ref a.fu), (117, .ref a.fn)]
noncomputable def stoV (a : SA) : AV := .inst a.x 373 [(73, symV a), (120, .int 100000), (121, .ref a.hp), (122, .ref a.stk), (123, .ref a.trl), (124, .int 0), (125, .int 0)]
noncomputable abbrev Hp := List (Nat × Nat)
noncomputable def cl (p : Nat × Nat) : AV := .tup [.int p.1, .int p.2]
noncomputable def hpV (h : Hp) : List AV := h.map cl

structure World (a : SA) (ts : List Str) (fs : List (Nat × Nat)) (h : Hp) (O : Objs) : Prop where
  hp : O a.hp = some (.list (hpV h))
  tx : O a.tx = some (.list (ts.map .str))
  fu : O a.fu = some (.list (fs.map cl))
  lh : h.length < 1000
  lt : ts.length < 1000
  lf : fs.length < 1000

theorem hpV_get {h : Hp} {i : Nat} {p : Nat × Nat} (e : h[i]? = some p) : (hpV h)[i]? = some (cl p) := by
  unfold hpV; rw [List.getElem?_map, e]; rfl
theorem idx_nat {l : List AV} {i : Nat} (h : i < 2 ^ 40) : idx l (i : Int) = l[i]? := by
  unfold idx
  rw [if_pos ⟨by omega, by omega⟩, Int.toNat_natCast]
theorem idx_0 (x : AV) (l : List AV) : idx (x :: l) 0 = some x := rfl
theorem idx_1 (x y : AV) (l : List AV) : idx (x :: y :: l) 1 = some y := rfl
theorem idx_2 (x y z : AV) (l : List AV) : idx (x :: y :: z :: l) 2 = some z := rfl

theorem sub0 (O : Objs) (x : AV) (l : List AV) : subA O (.tup (x :: l)) (.int 0) = some x := rfl
theorem sub1 (O : Objs) (x y : AV) (l : List AV) : subA O (.tup (x :: y :: l)) (.int 1) = some y := rfl
theorem sub2 (O : Objs) (x y z : AV) (l : List AV) : subA O (.tup (x :: y :: z :: l)) (.int 2) = some z := rfl
theorem sub_at {O : Objs} {w : Addr} {l : List AV} (e : O w = some (.list l)) (k : Int) : subA O (.ref w) (.int k) = idx l k := by
  show subM (O w) k = _
  rw [e]; rfl
theorem sub_hp {a : SA} {ts : List Str} {fs : List (Nat × Nat)} {h : Hp} {O : Objs} (W : World a ts fs h O) {i : Nat} {p : Nat × Nat} (e : h[i]? = some p) : subA O (.ref a.hp) (.int i) = some (cl p) := by
  have : i < h.length := (List.getElem?_eq_some_iff.mp e).1
  have := W.lh
  rw [sub_at W.hp, idx_nat (by omega), hpV_get e]
theorem lk_hit {α : Type} (i : Nat) (v : α) (l : List (Nat × α)) : lk ((i, v) :: l) i = some v := if_pos rfl
theorem lk_miss {α : Type} (i j : Nat) (v : α) (l : List (Nat × α)) (h : (i = j) = False) : lk ((i, v) :: l) j = lk l j := if_neg (by rw [h]; exact id)
theorem sto_sym (a : SA) : lk [(73, symV a), (120, AV.int 100000), (121, .ref a.hp), (122, .ref a.stk), (123, .ref a.trl), (124, .int 0), (125, .int 0)] 73 = some (symV a) := rfl

theorem eqA_cl (O : Objs) (p q : Nat × Nat) : eqA O (cl p) (cl q) = some (decide (p = q)) := by
  obtain ⟨a, b⟩ := p
  obtain ⟨x, y⟩ := q
  refine congrArg some (decide_eq_decide.mpr ⟨fun h => ?_, fun h => by cases h; rfl⟩)
  exact Prod.ext (Int.ofNat.inj (List.cons.inj h).1) (Int.ofNat.inj (List.cons.inj (List.cons.inj h).2).1)
theorem sub_cl0 (O : Objs) (p : Nat × Nat) : subA O (cl p) (.int 0) = some (.int p.1) := rfl
theorem sub_cl1 (O : Objs) (p : Nat × Nat) : subA O (cl p) (.int 1) = some (.int p.2) := rfl
theorem eqA_int (O : Objs) (a b : Int) : eqA O (.int a) (.int b) = some (decide (a = b)) := rfl
theorem eqA_bool (O : Objs) (a b : Bool) : eqA O (.bool a) (.bool b) = some (a == b) := rfl
theorem eqA_str (O : Objs) (a b : Str) : eqA O (.str a) (.str b) = some (decide (a = b)) := rfl
theorem lk_sym (a : SA) : lk [(114, AV.ref a.tx), (115, .ref a.an), (116, .ref a.fu), (117, .ref a.fn)] 114 = some (AV.ref a.tx) := rfl

/-- a cell as the law builds them -/
noncomputable def CK (h : Hp) (p : Nat × Nat) : Prop := (p.1 = 0 ∧ h[p.2]? = some p) ∨ p.1 = 2 ∨ p.1 = 4 ∨ p.1 = 5

theorem CK.zero {h : Hp} {p : Nat × Nat} (hp : CK h p) (h0 : p.1 = 0) : h[p.2]? = some p := by
  rcases hp with ⟨_, h1⟩ | h1 | h1 | h1
  · exact h1
  all_goals rw [h0] at h1; cases h1
theorem CK.ne1 {h : Hp} {p : Nat × Nat} (hp : CK h p) : ¬ ((p.1 : Int) = 1) := fun e => by
  have e1 : p.1 = 1 := Int.ofNat.inj e
  rcases hp with ⟨h1, _⟩ | h1 | h1 | h1 <;> (rw [e1] at h1; cases h1)
section
variable {c : Cx} {n : Nat} {a : SA} {ts : List Str} {fs : List (Nat × Nat)} {h : Hp} {O : Objs} {Q : AV → Objs → Prop}

theorem k_deref (ok : c.Ok) (C : Code c.K) (W : World a ts fs h O) {p : Nat × Nat} (hp : CK h p) (q : Q (cl p) O) : CallOK c (n + 1) 229 [stoV a, cl p] O Q := by
  refine fn_call ok C.Store_deref C.b_Store_deref rfl (fun _ => .nil) (rWhl1 (rAsg (.int p.1) (fun _ h => h) (rIf (decide ((p.1 : Int) = 0)) (fun _ h => h) (fun e => ?_) fun e => ?_)))
  · have h0 : p.1 = 0 := Int.ofNat.inj (of_decide_eq_true e)
    refine rAsg (cl p) (vSub (sub_hp W (CK.zero hp h0)) (vAtr1 rfl rfl) fun _ h => h) (rNx (rIfT (tEq ((eqA_cl O p p).trans (congrArg some (decide_eq_true rfl))) (fun _ h => h) fun _ h => h) (rRet (cl p) (fun _ h => h) q)))
  · exact rIfF (tEq ((eqA_int O p.1 1).trans (congrArg some (decide_eq_false (CK.ne1 hp)))) (fun _ h => h) fun _ h => h) (rRet (cl p) (fun _ h => h) q)

theorem k_is_compound (ok : c.Ok) (C : Code c.K) {p : Nat × Nat} (hp : CK h p) (q : Q (.bool (decide (p.1 = 2))) O) : CallOK c (n + 1) 285 [stoV a, cl p] O Q := by
  obtain ⟨p1, p2⟩ := p
  refine fn_call ok C.Store_is_compound C.b_Store_is_compound rfl (fun _ => .nil) ?_
  rcases hp with ⟨h0, h1⟩ | h0 | h0 | h0 <;> (cases h0; first | exact rRet (.bool true) (fun _ h => h) q | exact rRet (.bool false) (fun _ h => h) q)
theorem k_base (ok : c.Ok) (C : Code c.K) {p : Nat × Nat} (hp : p.1 = 2) (q : Q (.int ((p.2 + 1 : Nat) : Int)) O) : CallOK c (n + 1) 306 [stoV a, cl p] O Q := by
  obtain ⟨p1, p2⟩ := p
  cases hp
  refine fn_call ok C.Store_base C.b_Store_base rfl (fun _ => .nil) ?_
  exact rIfF (fun _ h => h) (rNx (rRet (.int (p2 + 1 : Nat)) (fun _ h => h) q))
theorem sub_fu (W : World a ts fs h O) {i : Nat} {p : Nat × Nat} (e : fs[i]? = some p) : subA O (.ref a.fu) (.int i) = some (cl p) := by
  have : i < fs.length := (List.getElem?_eq_some_iff.mp e).1
  have := W.lf
  rw [sub_at W.fu, idx_nat (by omega), List.getElem?_map, e]; rfl
theorem sub_tx (W : World a ts fs h O) {i : Nat} {p : Str} (e : ts[i]? = some p) : subA O (.ref a.tx) (.int i) = some (.str p) := by
  have : i < ts.length := (List.getElem?_eq_some_iff.mp e).1
  have := W.lt
  rw [sub_at W.tx, idx_nat (by omega), List.getElem?_map, e]; rfl

theorem k_arity (ok : c.Ok) (C : Code c.K) (W : World a ts fs h O) {f : Nat} {p : Nat × Nat} (e : fs[f]? = some p) (q : Q (.int p.2) O) : CallOK c (n + 1) 123 [symV a, .int f] O Q := by
  refine fn_call ok C.Symbols_arity C.b_Symbols_arity rfl (fun _ => .nil) ?_
  exact rRet (.int p.2) (vSub (x := cl p) rfl (vSub (sub_fu W e) (vAtr1 rfl rfl) fun _ h => h) fun _ h => h) q
theorem k_name (ok : c.Ok) (C : Code c.K) (W : World a ts fs h O) {f : Nat} {p : Nat × Nat} (e : fs[f]? = some p) (q : Q (.int p.1) O) : CallOK c (n + 1) 116 [symV a, .int f] O Q := by
  refine fn_call ok C.Symbols_name C.b_Symbols_name rfl (fun _ => .nil) ?_
  exact rRet (.int p.1) (vSub (x := cl p) rfl (vSub (sub_fu W e) (vAtr1 rfl rfl) fun _ h => h) fun _ h => h) q
theorem k_text (ok : c.Ok) (C : Code c.K) (W : World a ts fs h O) {f : Nat} {p : Str} (e : ts[f]? = some p) (q : Q (.str p) O) : CallOK c (n + 1) 95 [symV a, .int f] O Q := by
  refine fn_call ok C.Symbols_text C.b_Symbols_text rfl (fun _ => .nil) ?_
  exact rRet (.str p) (vSub (sub_tx W e) (vAtr1 rfl rfl) fun _ h => h) q
theorem k_width (ok : c.Ok) (C : Code c.K) (W : World a ts fs h O) {p : Nat × Nat} {f : Nat} {r : Nat × Nat} (hp : p.1 = 2) (e1 : h[p.2]? = some (6, f)) (e2 : fs[f]? = some r) (q : Q (.int r.2) O) : CallOK c (n + 2) 299 [stoV a, cl p] O Q := by
  obtain ⟨p1, p2⟩ := p
  cases hp
  refine fn_call ok C.Store_width C.b_Store_width rfl (fun _ => .nil) ?_
  exact rAsg (.int (2 : Nat)) (fun _ h => h) (rIfF (fun _ h => h) (rNx (rIfT (fun _ h => h) (rRetC (rMth rfl (vAtr1 rfl rfl) (a1 (vSub (x := cl (6, f)) rfl (vSub (sub_hp W e1) (vAtr1 rfl rfl) fun _ h => h) fun _ h => h) (k_arity ok C W e2 q)))))))
theorem k_functor_of (ok : c.Ok) (C : Code c.K) (W : World a ts fs h O) {p : Nat × Nat} {f : Nat} (hp : p.1 = 2) (e1 : h[p.2]? = some (6, f)) (q : Q (.int f) O) : CallOK c (n + 1) 292 [stoV a, cl p] O Q := by
  obtain ⟨p1, p2⟩ := p
  cases hp
  refine fn_call ok C.Store_functor_of C.b_Store_functor_of rfl (fun _ => .nil) ?_
  exact rAsg (.int (2 : Nat)) (fun _ h => h) (rIfT (fun _ h => h) (rRet (.int f) (vSub (x := cl (6, f)) rfl (vSub (sub_hp W e1) (vAtr1 rfl rfl) fun _ h => h) fun _ h => h) q))
theorem k_globalise (ok : c.Ok) (C : Code c.K) (W : World a ts fs h O) {p : Nat × Nat} (hp : CK h p) (q : Q (cl p) O) : CallOK c (n + 2) 257 [stoV a, cl p] O Q := by
  refine fn_call ok C.Store_globalise C.b_Store_globalise rfl (fun _ => .nil) (rAsgC (rMth (as := _) rfl (fun _ h => h) (a1 (fun _ h => h) (k_deref ok C W hp ?_))))
  exact rIfF (tEq ((eqA_int O p.1 1).trans (congrArg some (decide_eq_false (CK.ne1 hp)))) (fun _ h => h) fun _ h => h) (rNx (rRet (cl p) (fun _ h => h) q))
theorem k_is_variable (ok : c.Ok) (C : Code c.K) {p : Nat × Nat} (hp : CK h p) (q : Q (.bool (decide (p.1 = 0))) O) : CallOK c (n + 1) 431 [cl p] O Q := by
  obtain ⟨p1, p2⟩ := p
  refine fn_call ok C.is_variable C.b_is_variable rfl (fun _ => .nil) ?_
  rcases hp with ⟨h0, h1⟩ | h0 | h0 | h0 <;> (cases h0; first | exact rRet (.bool true) (fun _ h => h) q | exact rRet (.bool false) (fun _ h => h) q)
theorem k_variable_number (ok : c.Ok) (C : Code c.K) {p : Nat × Nat} (hp : p.1 = 0) (q : Q (.int p.2) O) : CallOK c (n + 1) 494 [cl p] O Q := by
  obtain ⟨p1, p2⟩ := p
  cases hp
  refine fn_call ok C.variable_number C.b_variable_number rfl (fun _ => .nil) ?_
  exact rIfT (fun _ h => h) (rRet (.int p2) (fun _ h => h) q)
noncomputable def rk (t : Nat) : Int := if t = 5 then 1 else if t = 4 then 2 else if t = 2 then 3 else 0
theorem k_rank (ok : c.Ok) (C : Code c.K) {p : Nat × Nat} (hp : CK h p) (q : Q (.int (rk p.1)) O) : CallOK c (n + 1) 438 [cl p] O Q := by
  obtain ⟨p1, p2⟩ := p
  refine fn_call ok C.rank C.b_rank rfl (fun _ => .nil) (rAsg (.int p1) (fun _ h => h) ?_)
  rcases hp with ⟨h0, h1⟩ | h0 | h0 | h0 <;> cases h0
  · exact rIfF (fun _ h => h) (rNx (rIfF (fun _ h => h) (rNx (rIfF (fun _ h => h) (rNx (rRet (.int 0) (fun _ h => h) q))))))
  · exact rIfF (fun _ h => h) (rNx (rIfF (fun _ h => h) (rNx (rIfT (fun _ h => h) (rRet (.int 3) (fun _ h => h) q)))))
  · exact rIfF (fun _ h => h) (rNx (rIfT (fun _ h => h) (rRet (.int 2) (fun _ h => h) q)))
  · exact rIfT (fun _ h => h) (rRet (.int 1) (fun _ h => h) q)
theorem k_order_int (ok : c.Ok) (C : Code c.K) {x y : Int} (q : ∀ r : Int, (r = 0 ↔ x = y) → Q (.int r) O) : CallOK c (n + 1) 445 [.int x, .int y] O Q := by
  refine fn_call ok C.order C.b_order rfl (fun _ => .nil) ?_
  unfold ir_order
  simp [wS_nil, wS_cons, wS_asg, wS_asc, wS_asg2, wS_sat, wS_sit, wS_aug, wS_ex, wS_iff, wS_whl, wS_for, wS_ret, wS_cnt, wS_wild, wS_frz, wT_not, wT_cmp, wT_and, wT_and3, wT_or, wT_ite, wT_var, wT_bol, wT_sub, wT_call, wT_mth, wE_var, wE_glb, wE_int, wE_str, wE_bol, wE_neg, wE_not, wE_bin, wE_cmp, wE_and, wE_or, wE_ite, wE_sub, wE_slc, wE_atr, wE_tup, wE_lst, wE_dct, wE_call, wE_new, wE_mth, wE_bif, wE_app, wE_pop, wE_rev, wE_get, wE_sad, wE_cpr, setf, lk, cmp_eq, cmp_ne, cmp_lt, cmp_gt, cmp_le, cmp_ge, cmp_in, cmp_ni, lt1_int, lt1_str, lt1_cl]
  split
  · exact q _ (by omega)
  · split
    · exact q _ (by omega)
    · exact q _ (by omega)
theorem str_lt_irrefl (x : List Nat) : ¬ x < x := List.lt_irrefl x
theorem k_order_str (ok : c.Ok) (C : Code c.K) {x y : Str} (q : ∀ r : Int, (r = 0 ↔ x = y) → Q (.int r) O) : CallOK c (n + 1) 445 [.str x, .str y] O Q := by
  refine fn_call ok C.order C.b_order rfl (fun _ => .nil) ?_
  unfold ir_order
  simp [wS_nil, wS_cons, wS_asg, wS_asc, wS_asg2, wS_sat, wS_sit, wS_aug, wS_ex, wS_iff, wS_whl, wS_for, wS_ret, wS_cnt, wS_wild, wS_frz, wT_not, wT_cmp, wT_and, wT_and3, wT_or, wT_ite, wT_var, wT_bol, wT_sub, wT_call, wT_mth, wE_var, wE_glb, wE_int, wE_str, wE_bol, wE_neg, wE_not, wE_bin, wE_cmp, wE_and, wE_or, wE_ite, wE_sub, wE_slc, wE_atr, wE_tup, wE_lst, wE_dct, wE_call, wE_new, wE_mth, wE_bif, wE_app, wE_pop, wE_rev, wE_get, wE_sad, wE_cpr, setf, lk, cmp_eq, cmp_ne, cmp_lt, cmp_gt, cmp_le, cmp_ge, cmp_in, cmp_ni, lt1_int, lt1_str, lt1_cl]
  have e : x = y ↔ x.cps.toList = y.cps.toList := ⟨fun z => by rw [z], fun z => by cases x; cases y; simp only [Str.mk.injEq]; exact Array.toList_inj.mp z⟩
  split
  · rename_i z
    have z : x.cps.toList < y.cps.toList := z
    exact q _ ⟨fun w => by omega, fun w => by rw [e] at w; rw [w] at z; exact absurd z (List.lt_irrefl _)⟩
  · rename_i z
    have z : ¬ x.cps.toList < y.cps.toList := z
    split
    · rename_i z2
      have z2 : y.cps.toList < x.cps.toList := z2
      exact q _ ⟨fun w => by omega, fun w => by rw [e] at w; rw [w] at z2; exact absurd z2 (List.lt_irrefl _)⟩
    · rename_i z2
      have z2 : ¬ y.cps.toList < x.cps.toList := z2
      exact q _ ⟨fun _ => e.mpr (List.le_antisymm (List.not_lt.mp z2) (List.not_lt.mp z)), fun _ => rfl⟩
theorem k_order_cl (ok : c.Ok) (C : Code c.K) {x y : Nat × Nat} (q : ∀ r : Int, (r = 0 ↔ x = y) → Q (.int r) O) : CallOK c (n + 1) 445 [cl x, cl y] O Q := by
  refine fn_call ok C.order C.b_order rfl (fun _ => .nil) ?_
  unfold ir_order
  obtain ⟨x1, x2⟩ := x
  obtain ⟨y1, y2⟩ := y
  simp [wS_nil, wS_cons, wS_asg, wS_asc, wS_asg2, wS_sat, wS_sit, wS_aug, wS_ex, wS_iff, wS_whl, wS_for, wS_ret, wS_cnt, wS_wild, wS_frz, wT_not, wT_cmp, wT_and, wT_and3, wT_or, wT_ite, wT_var, wT_bol, wT_sub, wT_call, wT_mth, wE_var, wE_glb, wE_int, wE_str, wE_bol, wE_neg, wE_not, wE_bin, wE_cmp, wE_and, wE_or, wE_ite, wE_sub, wE_slc, wE_atr, wE_tup, wE_lst, wE_dct, wE_call, wE_new, wE_mth, wE_bif, wE_app, wE_pop, wE_rev, wE_get, wE_sad, wE_cpr, setf, lk, cmp_eq, cmp_ne, cmp_lt, cmp_gt, cmp_le, cmp_ge, cmp_in, cmp_ni, lt1_int, lt1_str, lt1_cl, cl]
  split
  · exact q _ (by rw [Prod.mk.injEq]; omega)
  · split
    · exact q _ (by rw [Prod.mk.injEq]; omega)
    · exact q _ (by rw [Prod.mk.injEq]; omega)
theorem k_same_shape (ok : c.Ok) (C : Code c.K) (W : World a ts fs h O) {p r : Nat × Nat} {f g : Nat} (hp : p.1 = 2) (hr : r.1 = 2) (e1 : h[p.2]? = some (6, f)) (e2 : h[r.2]? = some (6, g)) (q : Q (.bool (decide (f = g))) O) :
    CallOK c (n + 1) 424 [stoV a, cl p, cl r] O Q := by
  obtain ⟨p1, p2⟩ := p
  obtain ⟨r1, r2⟩ := r
  cases hp; cases hr
  have e : decide (((6, f) : Nat × Nat) = (6, g)) = decide (f = g) := decide_eq_decide.mpr ⟨fun h => (Prod.mk.inj h).2, fun h => by rw [h]⟩
  refine fn_call ok C.same_shape C.b_same_shape rfl (fun _ => .nil) ?_
  exact rIfF (fun _ h => h) (rNx (rIfF (fun _ h => h) (rNx (rRet (.bool (decide (f = g))) (vEq ((eqA_cl O (6, f) (6, g)).trans (congrArg some e)) (vSub (sub_hp W e1) (vAtr1 rfl rfl) fun _ h => h) (vSub (sub_hp W e2) (vAtr1 rfl rfl) fun _ h => h)) q))))
end
end Mine

namespace Mine

noncomputable def Ext (O O' : Objs) : Prop := ∀ b, (O b).isSome = true → O' b = O b
theorem Ext.refl (O : Objs) : Ext O O := fun _ _ => rfl
theorem Ext.trans {O O' O'' : Objs} (x : Ext O O') (y : Ext O' O'') : Ext O O'' := fun b e => (y b (by rw [x b e]; exact e)).trans (x b e)
theorem Ext.new {O : Objs} {y : Addr} {m : MO} (d : O y = none) : Ext O (up O y m) := fun b e => up_ne fun q => by rw [q, d] at e; cases e
theorem Ext.get {O O' : Objs} (x : Ext O O') {b : Addr} {m : MO} (e : O b = some m) : O' b = some m := (x b (by rw [e]; rfl)).trans e
/-- what is new in between may change -/
theorem Ext.upd {O O' : Objs} (x : Ext O O') {y : Addr} {m : MO} (d : O y = none) : Ext O (up O' y m) := fun b e => (up_ne fun q => by rw [q, d] at e; cases e).trans (x b e)

noncomputable def Apart (a : SA) (w : Addr) : Prop := w ≠ a.hp ∧ w ≠ a.tx ∧ w ≠ a.fu
section
variable {c : Cx} {n : Nat} {a : SA} {ts : List Str} {fs : List (Nat × Nat)} {h : Hp} {O O' : Objs} {Q : AV → Objs → Prop}
theorem World.ext (W : World a ts fs h O) (x : Ext O O') : World a ts fs h O' := ⟨x.get W.hp, x.get W.tx, x.get W.fu, W.lh, W.lt, W.lf⟩
theorem World.apart (W : World a ts fs h O) {w : Addr} (d : O w = none) : Apart a w :=
  ⟨fun e => (by rw [e, W.hp] at d; cases d), fun e => (by rw [e, W.tx] at d; cases d), fun e => (by rw [e, W.fu] at d; cases d)⟩
theorem World.upd (W : World a ts fs h O) {w : Addr} (d : Apart a w) {m : MO} : World a ts fs h (up O w m) :=
  ⟨(up_ne (Ne.symm d.1)).trans W.hp, (up_ne (Ne.symm d.2.1)).trans W.tx, (up_ne (Ne.symm d.2.2)).trans W.fu, W.lh, W.lt, W.lf⟩

noncomputable def pr (p : (Nat × Nat) × (Nat × Nat)) : AV := .tup [cl p.1, cl p.2]

theorem rng0 (O : Objs) : seqOf O (.rng 0 (-1) (-1)) = some [.int 0] := rfl
theorem rng1 (O : Objs) : seqOf O (.rng 1 (-1) (-1)) = some [.int 1, .int 0] := rfl
theorem bif_rng (O : Objs) (x y z : Int) (Q : AV → Objs → Prop) : bifA O .range [.int x, .int y, .int z] Q = ((okR x = true ∧ okR y = true ∧ okR z = true ∧ z ≠ 0) ∧ Q (.rng x y z) O) := rfl
theorem appA_ref {O : Objs} {w : Addr} {l : List AV} (e : O w = some (.list l)) (x : AV) (Q : AV → Objs → Prop) : appA O (.ref w) x Q = (l.length < lim ∧ Q .none (up O w (.list (l ++ [x])))) := by
  show oP (asLst (O w)) _ = _
  rw [e]; rfl
theorem lim_of {k : Nat} (h : k < 100000) : k < lim := by unfold lim; omega

theorem lstA_ref {O : Objs} {w : Addr} {l : List AV} (e : O w = some (.list l)) : lstA O (.ref w) = True := eq_true ⟨l, e⟩
theorem len_lim {l : List AV} (h : l.length < 90000) : (l.length < lim) = True := eq_true (by unfold lim; omega)
theorem up_at (O : Objs) (w : Addr) (m : MO) : up O w m w = some m := if_pos rfl
theorem up_up (O : Objs) (w : Addr) (m m' : MO) : up (up O w m) w m' = up O w m' := by
  funext b; unfold up; split <;> rfl

theorem lim_of' {k : Nat} (h : k < 80000) : k < lim := Nat.lt_trans h (by decide)
theorem lim_snoc {l : List AV} {x : AV} (h : l.length < 80000) : (l ++ [x]).length < lim := by
  rw [List.length_append]
  exact Nat.lt_of_le_of_lt (Nat.succ_le_of_lt h) (by decide)
theorem two_up {w : Addr} {L : List AV} {x y : AV} (k : Q .none (up O w (.list (L ++ [x, y])))) : Q .none (up (up O w (.list (L ++ [x]))) w (.list (L ++ [x] ++ [y]))) := by
  rw [up_up, List.append_assoc]; exact k
theorem k_push_pairs1 (ok : c.Ok) (C : Code c.K) (W : World a ts fs h O) {p p' : Nat × Nat} {f at' : Nat} {q q' : Nat × Nat} {w : Addr} {L : List AV} (hp : p.1 = 2) (hp' : p'.1 = 2) (e1 : h[p.2]? = some (6, f)) (ef : fs[f]? = some (at', 1))
    (g1 : h[p.2 + 1]? = some q) (g2 : h[p'.2 + 1]? = some q') (hw : O w = some (.list L)) (hL : L.length < 80000) (k : Q .none (up O w (.list (L ++ [pr (q, q')])))) :
    CallOK c (n + 3) 417 [stoV a, cl p, cl p', .ref w] O Q := by
  refine fn_call ok C.push_pairs C.b_push_pairs rfl (fun _ => .nil) ?_
  refine rAsgC (rMth rfl (fun _ h => h) (a1 (fun _ h => h) (k_base ok C hp ?_)))
  refine rAsgC (rMth rfl (fun _ h => h) (a1 (fun _ h => h) (k_base ok C hp' ?_)))
  refine rFor (rBif (aC (rBinC (rMth rfl (fun _ h => h) (a1 (fun _ h => h) (k_width ok C W hp e1 ef ?_))))))
  refine (bRng (x := 0) (y := -1) (z := -1) rfl rfl ⟨rfl, by decide⟩ (forI (rng0 O) (by decide) (flC (rEx ?_))) : bifA O .range [.int 0, .int (-1), .int (-1)] _)
  exact rApp hw (lim_of' hL) (fun _ h => h) (vTup2 (vSub (sub_hp W g1) (vAtr1 rfl rfl) fun _ h => h) (vSub (sub_hp W g2) (vAtr1 rfl rfl) fun _ h => h)) (flN (rng0 _) (flE k))
theorem k_push_pairs2 (ok : c.Ok) (C : Code c.K) (W : World a ts fs h O) {p p' : Nat × Nat} {f at' : Nat} {q q' r r' : Nat × Nat} {w : Addr} {L : List AV} (hp : p.1 = 2) (hp' : p'.1 = 2) (e1 : h[p.2]? = some (6, f)) (ef : fs[f]? = some (at', 2))
    (g1 : h[p.2 + 1]? = some q) (g2 : h[p'.2 + 1]? = some q') (g3 : h[p.2 + 2]? = some r) (g4 : h[p'.2 + 2]? = some r') (hw : O w = some (.list L)) (ap : Apart a w) (hL : L.length < 80000) (k : Q .none (up O w (.list (L ++ [pr (r, r'), pr (q, q')])))) :
    CallOK c (n + 3) 417 [stoV a, cl p, cl p', .ref w] O Q := by
  refine fn_call ok C.push_pairs C.b_push_pairs rfl (fun _ => .nil) ?_
  refine rAsgC (rMth rfl (fun _ h => h) (a1 (fun _ h => h) (k_base ok C hp ?_)))
  refine rAsgC (rMth rfl (fun _ h => h) (a1 (fun _ h => h) (k_base ok C hp' ?_)))
  refine rFor (rBif (aC (rBinC (rMth rfl (fun _ h => h) (a1 (fun _ h => h) (k_width ok C W hp e1 ef ?_))))))
  refine (bRng (x := 1) (y := -1) (z := -1) rfl rfl ⟨rfl, by decide⟩ (forI (rng1 O) (by decide) (flC (rEx ?_))) : bifA O .range [.int 1, .int (-1), .int (-1)] _)
  refine rApp hw (lim_of' hL) (fun _ h => h) (vTup2 (vSub (sub_hp W g3) (vAtr1 rfl rfl) fun _ h => h) (vSub (sub_hp W g4) (vAtr1 rfl rfl) fun _ h => h)) (flN (rng1 _) (flC (rEx ?_)))
  have W1 : World a ts fs h (up O w (.list (L ++ [pr (r, r')]))) := W.upd ap
  refine rApp (up_at O w _) (lim_snoc hL) (fun _ h => h) (vTup2 (vSub (sub_hp W1 g1) (vAtr1 rfl rfl) fun _ h => h) (vSub (sub_hp W1 g2) (vAtr1 rfl rfl) fun _ h => h)) (flN (rng1 _) (flE ?_))
  exact two_up k
theorem k_push_args1 (ok : c.Ok) (C : Code c.K) (W : World a ts fs h O) {p : Nat × Nat} {f at' : Nat} {q : Nat × Nat} {w : Addr} {L : List AV} (hp : p.1 = 2) (e1 : h[p.2]? = some (6, f)) (ef : fs[f]? = some (at', 1))
    (g1 : h[p.2 + 1]? = some q) (hw : O w = some (.list L)) (hL : L.length < 80000) (k : Q .none (up O w (.list (L ++ [cl q])))) :
    CallOK c (n + 3) 410 [stoV a, cl p, .ref w] O Q := by
  refine fn_call ok C.push_arguments C.b_push_arguments rfl (fun _ => .nil) ?_
  refine rAsgC (rMth rfl (fun _ h => h) (a1 (fun _ h => h) (k_base ok C hp ?_)))
  refine rFor (rBif (aC (rBinC (rMth rfl (fun _ h => h) (a1 (fun _ h => h) (k_width ok C W hp e1 ef ?_))))))
  refine (bRng (x := 0) (y := -1) (z := -1) rfl rfl ⟨rfl, by decide⟩ (forI (rng0 O) (by decide) (flC (rEx ?_))) : bifA O .range [.int 0, .int (-1), .int (-1)] _)
  exact rApp hw (lim_of' hL) (fun _ h => h) (vSub (sub_hp W g1) (vAtr1 rfl rfl) fun _ h => h) (flN (rng0 _) (flE k))
theorem k_push_args2 (ok : c.Ok) (C : Code c.K) (W : World a ts fs h O) {p : Nat × Nat} {f at' : Nat} {q r : Nat × Nat} {w : Addr} {L : List AV} (hp : p.1 = 2) (e1 : h[p.2]? = some (6, f)) (ef : fs[f]? = some (at', 2))
    (g1 : h[p.2 + 1]? = some q) (g3 : h[p.2 + 2]? = some r) (hw : O w = some (.list L)) (ap : Apart a w) (hL : L.length < 80000) (k : Q .none (up O w (.list (L ++ [cl r, cl q])))) :
    CallOK c (n + 3) 410 [stoV a, cl p, .ref w] O Q := by
  refine fn_call ok C.push_arguments C.b_push_arguments rfl (fun _ => .nil) ?_
  refine rAsgC (rMth rfl (fun _ h => h) (a1 (fun _ h => h) (k_base ok C hp ?_)))
  refine rFor (rBif (aC (rBinC (rMth rfl (fun _ h => h) (a1 (fun _ h => h) (k_width ok C W hp e1 ef ?_))))))
  refine (bRng (x := 1) (y := -1) (z := -1) rfl rfl ⟨rfl, by decide⟩ (forI (rng1 O) (by decide) (flC (rEx ?_))) : bifA O .range [.int 1, .int (-1), .int (-1)] _)
  refine rApp hw (lim_of' hL) (fun _ h => h) (vSub (sub_hp W g3) (vAtr1 rfl rfl) fun _ h => h) (flN (rng1 _) (flC (rEx ?_)))
  have W1 : World a ts fs h (up O w (.list (L ++ [cl r]))) := W.upd ap
  refine rApp (up_at O w _) (lim_snoc hL) (fun _ h => h) (vSub (sub_hp W1 g1) (vAtr1 rfl rfl) fun _ h => h) (flN (rng1 _) (flE ?_))
  exact two_up k
end
end Mine

namespace Mine

/-! terms -/
set_option genInjectivity true in
inductive T where
  | v (n : Nat)
  | a (k : Nat)
  | i (k : Nat)
  | s1 (f : Nat) (x : T)
  | s2 (f : Nat) (x y : T)
  deriving DecidableEq
noncomputable def T.size : T → Nat
  | .v _ => 1
  | .a _ => 1
  | .i _ => 1
  | .s1 _ x => x.size + 1
  | .s2 _ x y => x.size + y.size + 1
theorem T.size_pos (t : T) : 0 < t.size := by cases t <;> simp [T.size]
noncomputable def den (h : Hp) : Nat × Nat → T → Prop
  | p, .v n => p = (0, n) ∧ h[n]? = some (0, n)
  | p, .a k => p = (4, k)
  | p, .i k => p = (5, k)
  | p, .s1 f x => ∃ b q, p = (2, b) ∧ h[b]? = some (6, f) ∧ h[b + 1]? = some q ∧ den h q x
  | p, .s2 f x y => ∃ b q r, p = (2, b) ∧ h[b]? = some (6, f) ∧ h[b + 1]? = some q ∧ h[b + 2]? = some r ∧ den h q x ∧ den h r y
noncomputable def wf (ts : List Str) (fs : List (Nat × Nat)) : T → Prop
  | .v _ => True
  | .a k => k < ts.length
  | .i _ => True
  | .s1 f x => (∃ at', fs[f]? = some (at', 1) ∧ at' < ts.length) ∧ wf ts fs x
  | .s2 f x y => (∃ at', fs[f]? = some (at', 2) ∧ at' < ts.length) ∧ wf ts fs x ∧ wf ts fs y
structure Sy (ts : List Str) (fs : List (Nat × Nat)) : Prop where
  nt : ts.Nodup
  nf : fs.Nodup

noncomputable def tag : T → Nat
  | .v _ => 0
  | .a _ => 4
  | .i _ => 5
  | .s1 _ _ => 2
  | .s2 _ _ _ => 2
theorem den_tag {h : Hp} {p : Nat × Nat} {t : T} (d : den h p t) : p.1 = tag t := by
  cases t with
  | v m => exact congrArg Prod.fst d.1
  | a k => exact congrArg Prod.fst (show p = (4, k) from d)
  | i k => exact congrArg Prod.fst (show p = (5, k) from d)
  | s1 f x => obtain ⟨b, q, rfl, _⟩ := d; rfl
  | s2 f x y => obtain ⟨b, q, r, rfl, _⟩ := d; rfl
theorem tg {x y : Nat} {P : Prop} (e : x = y) (h : Nat.beq x y = false) : P := absurd e (Nat.ne_of_beq_eq_false h)
theorem den_CK {h : Hp} {p : Nat × Nat} {t : T} (d : den h p t) : CK h p := by
  cases t with
  | v n => obtain ⟨rfl, g⟩ := d; exact .inl ⟨rfl, g⟩
  | a k => exact .inr (.inr (.inl (den_tag d)))
  | i k => exact .inr (.inr (.inr (den_tag d)))
  | _ => exact .inr (.inl (den_tag d))
theorem den_fun {h : Hp} {ts : List Str} {fs : List (Nat × Nat)} {t u : T} {p : Nat × Nat} (d : den h p t) (d' : den h p u) (w : wf ts fs t) (w' : wf ts fs u) : t = u := by
  have ht := (den_tag d).symm.trans (den_tag d')
  induction t generalizing u p with
  | v n =>
    cases u with
    | v m => exact congrArg T.v (Prod.mk.inj (d.1.symm.trans d'.1)).2
    | _ => exact tg ht rfl
  | a k =>
    cases u with
    | a m => exact congrArg T.a (Prod.mk.inj ((show p = (4, k) from d).symm.trans (show p = (4, m) from d'))).2
    | _ => exact tg ht rfl
  | i k =>
    cases u with
    | i m => exact congrArg T.i (Prod.mk.inj ((show p = (5, k) from d).symm.trans (show p = (5, m) from d'))).2
    | _ => exact tg ht rfl
  | s1 f x ih =>
    obtain ⟨b, q, e, g1, g2, d1⟩ := d
    cases u with
    | s1 g y =>
      obtain ⟨b', q', e', g3, g4, d2⟩ := d'
      cases (Prod.mk.inj (e.symm.trans e')).2
      cases g1.symm.trans g3; cases g2.symm.trans g4
      rw [ih d1 d2 w.2 w'.2 ((den_tag d1).symm.trans (den_tag d2))]
    | s2 g y z =>
      obtain ⟨b', q', r', e', g3, _⟩ := d'
      cases (Prod.mk.inj (e.symm.trans e')).2
      cases g1.symm.trans g3
      obtain ⟨⟨a1, e1, _⟩, _⟩ := w
      obtain ⟨⟨a2, e2, _⟩, _⟩ := w'
      cases e1.symm.trans e2
    | _ => exact tg ht rfl
  | s2 f x x2 ih ih2 =>
    obtain ⟨b, q, q2, e, g1, g2, g5, d1, d5⟩ := d
    cases u with
    | s1 g y =>
      obtain ⟨b', q', e', g3, _⟩ := d'
      cases (Prod.mk.inj (e.symm.trans e')).2
      cases g1.symm.trans g3
      obtain ⟨⟨a1, e1, _⟩, _⟩ := w
      obtain ⟨⟨a2, e2, _⟩, _⟩ := w'
      cases e1.symm.trans e2
    | s2 g y y2 =>
      obtain ⟨b', q', r', e', g3, g4, g6, d2, d6⟩ := d'
      cases (Prod.mk.inj (e.symm.trans e')).2
      cases g1.symm.trans g3; cases g2.symm.trans g4; cases g5.symm.trans g6
      rw [ih d1 d2 w.2.1 w'.2.1 ((den_tag d1).symm.trans (den_tag d2)), ih2 d5 d6 w.2.2 w'.2.2 ((den_tag d5).symm.trans (den_tag d6))]
    | _ => exact tg ht rfl

noncomputable def topEq : T → T → Prop
  | .v m, .v n => m = n
  | .a m, .a n => m = n
  | .i m, .i n => m = n
  | .s1 f _, .s1 g _ => f = g
  | .s2 f _ _, .s2 g _ _ => f = g
  | _, _ => False
theorem topEq.refl (t : T) : topEq t t := by cases t <;> rfl

section
variable {c : Cx} {n : Nat} {a : SA} {ts : List Str} {fs : List (Nat × Nat)} {h : Hp} {O O' : Objs} {Q : AV → Objs → Prop}

theorem nodup_get {α : Type} {l : List α} (nd : l.Nodup) {i j : Nat} {x : α} (e1 : l[i]? = some x) (e2 : l[j]? = some x) : i = j := by
  obtain ⟨h1, g1⟩ := List.getElem?_eq_some_iff.mp e1
  obtain ⟨h2, g2⟩ := List.getElem?_eq_some_iff.mp e2
  have P := List.pairwise_iff_getElem.mp nd
  rcases Nat.lt_trichotomy i j with q | q | q
  · exact absurd (g1.trans g2.symm) (P i j h1 h2 q)
  · exact q
  · exact absurd (g2.trans g1.symm) (P j i h2 h1 q)

theorem k_compare_shapes (ok : c.Ok) (C : Code c.K) (W : World a ts fs h O) (S : Sy ts fs) {p p' : Nat × Nat} {f g : Nat} {r r' : Nat × Nat} (hp : p.1 = 2) (hp' : p'.1 = 2) (e1 : h[p.2]? = some (6, f)) (e2 : h[p'.2]? = some (6, g))
    (ef : fs[f]? = some r) (eg : fs[g]? = some r') (lr : r.1 < ts.length) (lr' : r'.1 < ts.length) (q : ∀ z : Int, (z = 0 ↔ f = g) → Q (.int z) O) : CallOK c (n + 2) 452 [stoV a, cl p, cl p'] O Q := by
  refine fn_call ok C.compare_shapes C.b_compare_shapes rfl (fun _ => .nil) ?_
  refine rAsg (symV a) (vAtr1 rfl rfl) ?_
  refine rAsgC (rMth rfl (fun _ h => h) (a1 (fun _ h => h) (k_functor_of ok C W hp e1 ?_)))
  refine rAsgC (rMth rfl (fun _ h => h) (a1 (fun _ h => h) (k_functor_of ok C W hp' e2 ?_)))
  refine rIf (decide ((f : Int) = g)) (fun _ h => h) (fun e => rRet (.int 0) (fun _ h => h) (q 0 ⟨fun _ => Int.ofNat.inj (of_decide_eq_true e), fun _ => rfl⟩)) (fun e => rNx ?_)
  have fg : ¬ f = g := fun h => of_decide_eq_false e (by rw [h])
  refine rAsgC (rCall (aC (rMth rfl (fun _ h => h) (a1 (fun _ h => h) (k_arity ok C W ef ?_)))))
  refine aC (rMth rfl (fun _ h => h) (a1 (fun _ h => h) (k_arity ok C W eg (a0 (k_order_int ok C fun z hz => ?_)))))
  refine rIf (!decide (z = 0)) (fun _ h => h) (fun e => rRet (.int z) (fun _ h => h) (q z ⟨fun e' => absurd e' (nb e), fun e' => absurd e' fg⟩)) (fun e => rNx ?_)
  have er : r.2 = r'.2 := Int.ofNat.inj (hz.mp (eb e))
  obtain ⟨x1, y1⟩ : ∃ x, ts[r.1]? = some x := ⟨_, List.getElem?_eq_getElem lr⟩
  obtain ⟨x2, y2⟩ : ∃ x, ts[r'.1]? = some x := ⟨_, List.getElem?_eq_getElem lr'⟩
  refine rRetC (rCall (aC (rMth rfl (fun _ h => h) (aC (rMth rfl (fun _ h => h) (a1 (fun _ h => h) (k_name ok C W ef (a0 (k_text ok C W y1 ?_)))))))))
  refine aC (rMth rfl (fun _ h => h) (aC (rMth rfl (fun _ h => h) (a1 (fun _ h => h) (k_name ok C W eg (a0 (k_text ok C W y2 (a0 (k_order_str ok C fun z' hz' => ?_)))))))))
  refine q z' ⟨fun e => ?_, fun e => absurd e fg⟩
  cases hz'.mp e
  exact nodup_get S.nf ef (by rw [eg, Prod.ext (nodup_get S.nt y1 y2) er])
theorem topEq.tag {t u : T} (e : topEq t u) : tag t = tag u := by
  cases t <;> cases u <;> first | rfl | exact False.elim e
theorem rk_tag {t u : T} (e : rk (tag t) = rk (tag u)) : tag t = tag u := by
  cases t <;> cases u <;> first | rfl | exact absurd e (by decide : (1 : Int) ≠ 2) | exact absurd e (by decide : (1 : Int) ≠ 3) | exact absurd e (by decide : (1 : Int) ≠ 0) | exact absurd e (by decide : (2 : Int) ≠ 1) | exact absurd e (by decide : (2 : Int) ≠ 3) | exact absurd e (by decide : (2 : Int) ≠ 0) | exact absurd e (by decide : (3 : Int) ≠ 1) | exact absurd e (by decide : (3 : Int) ≠ 2) | exact absurd e (by decide : (3 : Int) ≠ 0) | exact absurd e (by decide : (0 : Int) ≠ 1) | exact absurd e (by decide : (0 : Int) ≠ 2) | exact absurd e (by decide : (0 : Int) ≠ 3)
theorem k_compare_tops (ok : c.Ok) (C : Code c.K) (W : World a ts fs h O) (S : Sy ts fs) {p p' : Nat × Nat} {t u : T} (d : den h p t) (d' : den h p' u) (w : wf ts fs t) (w' : wf ts fs u) (q : ∀ z : Int, (z = 0 ↔ topEq t u) → Q (.int z) O) :
    CallOK c (n + 3) 459 [stoV a, cl p, cl p'] O Q := by
  refine fn_call ok C.compare_tops C.b_compare_tops rfl (fun _ => .nil) ?_
  refine rAsgC (rCall (a1 (fun _ h => h) (k_rank ok C (den_CK d) ?_)))
  refine rAsgC (rCall (aV (fun _ h => h) (aC (rCall (a1 (fun _ h => h) (k_rank ok C (den_CK d') (a0 (k_order_int ok C fun z hz => ?_))))))))
  refine rIf (!decide (z = 0)) (fun _ h => h) (fun e => rRet (.int z) (fun _ h => h) (q z ⟨fun e' => absurd e' (nb e), fun e' => absurd (hz.mpr (by rw [den_tag d, den_tag d', topEq.tag e'])) (nb e)⟩)) (fun e => rNx ?_)
  have ht : tag t = tag u := rk_tag (by rw [← den_tag d, ← den_tag d']; exact hz.mp (eb e))
  cases t with
  | v m =>
    cases u with
    | v m' =>
      obtain ⟨rfl, _⟩ := d
      obtain ⟨rfl, _⟩ := d'
      exact rIfT (fun _ h => h) (rRetC (rCall (a2 (fun _ h => h) (fun _ h => h) (k_order_cl ok C fun z2 hz2 => q z2 (hz2.trans ⟨fun e => (Prod.mk.inj e).2, fun e => congrArg (Prod.mk 0) e⟩)))))
    | _ => exact tg ht rfl
  | i k =>
    cases u with
    | i k' =>
      cases (d : p = (5, k))
      cases (d' : p' = (5, k'))
      exact rIfF (fun _ h => h) (rNx (rIfT (fun _ h => h) (rRetC (rCall (a2 (fun _ h => h) (fun _ h => h) (k_order_int (x := k) (y := k') ok C fun z2 hz2 => q z2 (hz2.trans ⟨fun e => Int.ofNat.inj e, fun e => congrArg Int.ofNat e⟩)))))))
    | _ => exact tg ht rfl
  | a k =>
    cases u with
    | a k' =>
      cases (d : p = (4, k))
      cases (d' : p' = (4, k'))
      obtain ⟨x1, y1⟩ : ∃ x, ts[k]? = some x := ⟨_, List.getElem?_eq_getElem w⟩
      obtain ⟨x2, y2⟩ : ∃ x, ts[k']? = some x := ⟨_, List.getElem?_eq_getElem w'⟩
      refine rIfF (fun _ h => h) (rNx (rIfF (fun _ h => h) (rNx (rIfT (fun _ h => h) (rRetC (rCall (aC (rMth rfl (vAtr1 rfl rfl) (a1 (fun _ h => h) (k_text ok C W y1 ?_)))))))))) 
      refine aC (rMth rfl (vAtr1 rfl rfl) (a1 (fun _ h => h) (k_text ok C W y2 (a0 (k_order_str ok C fun z2 hz2 => q z2 (hz2.trans ⟨fun e => ?_, fun e => ?_⟩))))))
      · subst e; exact nodup_get S.nt y1 y2
      · cases (e : k = k'); exact Option.some.inj (y1.symm.trans y2)
    | _ => exact tg ht rfl
  | s1 f x =>
    obtain ⟨b, q1, rfl, g1, _⟩ := d
    obtain ⟨⟨at1, w1, w2⟩, _⟩ := w
    refine rIfF (fun _ h => h) (rNx (rIfF (fun _ h => h) (rNx (rIfF (fun _ h => h) (rNx (rRetC (rCall (a3 (fun _ h => h) (fun _ h => h) (fun _ h => h) ?_))))))))
    cases u with
    | s1 g y =>
      obtain ⟨b', q2, rfl, g4, _⟩ := d'
      obtain ⟨⟨at2, w4, w5⟩, _⟩ := w'
      exact k_compare_shapes ok C W S rfl rfl g1 g4 w1 w4 w2 w5 fun z2 hz2 => q z2 hz2
    | s2 g y y2 =>
      obtain ⟨b', q2, r2, rfl, g4, _⟩ := d'
      obtain ⟨⟨at2, w4, w5⟩, _⟩ := w'
      refine k_compare_shapes ok C W S rfl rfl g1 g4 w1 w4 w2 w5 fun z2 hz2 => q z2 (hz2.trans ⟨fun e => ?_, fun e => e.elim⟩)
      subst e; cases w1.symm.trans w4
    | _ => exact tg ht rfl
  | s2 f x x2 =>
    obtain ⟨b, q1, r1, rfl, g1, _⟩ := d
    obtain ⟨⟨at1, w1, w2⟩, _⟩ := w
    refine rIfF (fun _ h => h) (rNx (rIfF (fun _ h => h) (rNx (rIfF (fun _ h => h) (rNx (rRetC (rCall (a3 (fun _ h => h) (fun _ h => h) (fun _ h => h) ?_))))))))
    cases u with
    | s1 g y =>
      obtain ⟨b', q2, rfl, g4, _⟩ := d'
      obtain ⟨⟨at2, w4, w5⟩, _⟩ := w'
      refine k_compare_shapes ok C W S rfl rfl g1 g4 w1 w4 w2 w5 fun z2 hz2 => q z2 (hz2.trans ⟨fun e => ?_, fun e => e.elim⟩)
      subst e; cases w1.symm.trans w4
    | s2 g y y2 =>
      obtain ⟨b', q2, r2, rfl, g4, _⟩ := d'
      obtain ⟨⟨at2, w4, w5⟩, _⟩ := w'
      exact k_compare_shapes ok C W S rfl rfl g1 g4 w1 w4 w2 w5 fun z2 hz2 => q z2 hz2
    | _ => exact tg ht rfl
end
end Mine

namespace Mine

noncomputable def psV (x m : Addr) (span : Nat) : AV := .inst x 399 [(136, .int span), (90, .ref m)]

section
variable {c : Cx} {n : Nat} {a : SA} {ts : List Str} {fs : List (Nat × Nat)} {h : Hp} {O O' : Objs} {Q : AV → Objs → Prop}

theorem bif_len {O : Objs} {w : Addr} {l : List AV} (e : O w = some (.list l)) (Q : AV → Objs → Prop) : bifA O .len [.ref w] Q = (l.length < lim ∧ Q (.int l.length) O) := by
  show oP (asLst (O w)) _ = _
  rw [e]; rfl
theorem bif_set (O : Objs) (Q : AV → Objs → Prop) : bifA O .set [] Q = newM O (.set []) Q := propext ⟨fun h => h.2, fun h => ⟨rfl, h⟩⟩
theorem hpV_len (h : Hp) : (hpV h).length = h.length := by unfold hpV; simp

section
variable {c : Cx} {n : Nat} {O O0 : Objs} {x dx C : Addr} {l : List (Nat × AV)} {fr : Nat → Option AV} {K : Fl → St → Prop}
/-- an object under construction -/
structure Under (O0 : Objs) (x dx C : Addr) (l : List (Nat × AV)) (O : Objs) : Prop where
  ne : x ≠ dx
  ox : O0 x = none
  od : O0 dx = none
  ex : O x = some (.obj C dx)
  ed : O dx = some (.att l)
theorem Under.start {O : Objs} (ne : x ≠ dx) (ox : O x = none) (od : O dx = none) : Under O x dx C [] (up (up O dx (.att [])) x (.obj C dx)) :=
  ⟨ne, ox, od, up_at _ _ _, (up_ne (Ne.symm ne)).trans (up_at _ _ _)⟩
theorem satI {i : Nat} {v : AV} (U : Under O0 x dx C l O) (f0 : fr 0 = some (.ref x)) (hl : l.length < 100) (h : K .next ⟨up O dx (.att (put l i v)), fr⟩) : (match fr 0 with
      | some (.ref x) => (match O x with
        | some (.obj C' dx) => C' = C ∧ (match O dx with | some (.att l) => l.length < 100 ∧ K .next ⟨up O dx (.att (put l i v)), fr⟩ | _ => False)
        | _ => False)
      | _ => False) := by
  rw [f0]
  show (match O x with
        | some (.obj C' dx) => C' = C ∧ (match O dx with | some (.att l) => l.length < 100 ∧ K .next ⟨up O dx (.att (put l i v)), fr⟩ | _ => False)
        | _ => False)
  rw [U.ex]
  refine ⟨rfl, ?_⟩
  rw [U.ed]
  exact ⟨hl, h⟩
/-- a new thing is made and stored -/
theorem sat_new (U : Under O0 x dx C l O) {i : Nat} {e : X} {m : MO} (he : ∀ Q : AV → Objs → Prop, newM O m Q → wpE c n e fr O Q) (f0 : fr 0 = some (.ref x)) (hl : l.length < 100)
    (q : ∀ w, O w = none → w ≠ x → w ≠ dx → Under O0 x dx C (put l i (.ref w)) (up (up O w m) dx (.att (put l i (.ref w)))) → (∀ b, b ≠ dx → b ≠ w → up (up O w m) dx (.att (put l i (.ref w))) b = O b) → up (up O w m) dx (.att (put l i (.ref w))) w = some m → K .next ⟨up (up O w m) dx (.att (put l i (.ref w))), fr⟩) : wpS c n (.sat 0 i C e) ⟨O, fr⟩ K :=
  he _ fun w hw => by
    have w1 : w ≠ x := fun e => by rw [e, U.ex] at hw; cases hw
    have w2 : w ≠ dx := fun e => by rw [e, U.ed] at hw; cases hw
    have U' : Under O0 x dx C l (up O w m) := ⟨U.ne, U.ox, U.od, (up_ne (Ne.symm w1)).trans U.ex, (up_ne (Ne.symm w2)).trans U.ed⟩
    exact satI U' f0 hl (q w hw w1 w2 ⟨U.ne, U.ox, U.od, (up_ne U.ne).trans U'.ex, up_at _ _ _⟩ (fun b b1 b2 => (up_ne b1).trans (up_ne b2)) ((up_ne w2).trans (up_at _ _ _)))
/-- a value is stored -/
theorem sat_val (U : Under O0 x dx C l O) {i : Nat} {e : X} {v : AV} (hv : V c n e fr O v) (f0 : fr 0 = some (.ref x)) (hl : l.length < 100)
    (q : Under O0 x dx C (put l i v) (up O dx (.att (put l i v))) → (∀ b, b ≠ dx → up O dx (.att (put l i v)) b = O b) → K .next ⟨up O dx (.att (put l i v)), fr⟩) : wpS c n (.sat 0 i C e) ⟨O, fr⟩ K :=
  hv _ (satI U f0 hl (q ⟨U.ne, U.ox, U.od, (up_ne U.ne).trans U.ex, up_at _ _ _⟩ fun b b1 => up_ne b1))
/-- the object is finished -/
theorem frz_fin (U : Under O0 x dx C l O) (f0 : fr 0 = some (.ref x)) (q : (∀ b, b ≠ x → b ≠ dx → dl (dl O x) dx b = O b) → K .next ⟨dl (dl O x) dx, setf fr 0 (.inst x C l)⟩) : wpS c n (.frz 0) ⟨O, fr⟩ K := by
  show (match fr 0 with
      | some (.ref x) => (match O x with
        | some (.obj C dx) => (match O dx with | some (.att l) => K .next ⟨dl (dl O x) dx, setf fr 0 (.inst x C l)⟩ | _ => False)
        | _ => False)
      | _ => False)
  rw [f0]
  show (match O x with
        | some (.obj C dx) => (match O dx with | some (.att l) => K .next ⟨dl (dl O x) dx, setf fr 0 (.inst x C l)⟩ | _ => False)
        | _ => False)
  rw [U.ex]
  show (match O dx with | some (.att l) => K .next ⟨dl (dl O x) dx, setf fr 0 (.inst x C l)⟩ | _ => False)
  rw [U.ed]
  exact q fun b b1 b2 => (if_neg b2).trans (if_neg b1)
theorem cons_step {s t : S} {σ : St} {K : Fl → St → Prop} (h : wpS c n s σ fun f σ' => (match f with | .next => wpS c n t σ' K | f => K f σ')) : wpS c n (.cons s t) σ K := h
end
theorem k_new_pairset (ok : c.Ok) (C : Code c.K) (W : World a ts fs h O) (q : ∀ x m O', Ext O O' → O m = none → O' m = some (.set []) → Q (psV x m (h.length + 1)) O') : CallOK c (n + 2) 399 [stoV a] O Q := by
  refine new_call ok C.mk_PairSet C.PairSet_init C.b_PairSet_init rfl (fun _ => .nil) fun x dx ne ox od => ?_
  have lh := W.lh
  have U := Under.start (C := 399) ne ox od
  have K0 : ∀ b, b ≠ x → b ≠ dx → up (up O dx (.att [])) x (.obj 399 dx) b = O b := fun b b1 b2 => (up_ne b1).trans (up_ne b2)
  have e1 := (K0 a.hp (fun e => by rw [← e, W.hp] at ox; cases ox) (fun e => by rw [← e, W.hp] at od; cases od)).trans W.hp
  refine cons_step (sat_val (v := .int (h.length + 1 : Nat)) U (vBin (o := .Add) (x := .int h.length) (y := .int 1) rfl (vLen e1 (hpV_len h) (Nat.lt_trans lh (by decide)) (vAtr1 rfl rfl)) fun _ h => h) rfl (by decide) fun U K1 => ?_)
  refine cons_step (sat_new U (m := .set []) (fun _ h => ⟨rfl, h⟩) rfl (by decide : 1 < 100) fun m h1 a1 b1 U K2 e2 => ?_)
  refine cons_step (frz_fin U rfl fun K3 => ?_)
  have d1 : O m = none := (K0 m a1 b1).symm.trans ((K1 m b1).symm.trans h1)
  refine ⟨_, rfl, q x m _ (fun b hb => ?_) d1 ((K3 m a1 b1).trans e2)⟩
  have z1 : b ≠ x := fun e => by rw [e, ox] at hb; cases hb
  have z2 : b ≠ dx := fun e => by rw [e, od] at hb; cases hb
  have z3 : b ≠ m := fun e => by rw [e, d1] at hb; cases hb
  exact (K3 b z1 z2).trans ((K2 b z2 z3).trans ((K1 b z2).trans (K0 b z1 z2)))
theorem sadA_ref {O : Objs} {m : Addr} {l : List Int} (e : O m = some (.set l)) (k : Int) (Q : AV → Objs → Prop) : sadA O (.ref m) (.int k) Q = (l.length < 4000 ∧ Q .none (up O m (.set (if l.contains k then l else l ++ [k])))) := by
  show oP (asSet (O m)) _ = _
  rw [e]; rfl
theorem inA_set {O : Objs} {m : Addr} {l : List Int} (e : O m = some (.set l)) (k : Int) : inA O (.int k) (.ref m) = some (l.contains k) := by
  show inM (O m) k = _
  rw [e]; rfl
theorem setA_ref {O : Objs} {m : Addr} {l : List Int} (e : O m = some (.set l)) : setA O (.ref m) = True := eq_true ⟨l, e⟩

theorem k_ps_add (ok : c.Ok) (C : Code c.K) {x m : Addr} {span : Nat} {l : List Int} {p p' : Nat × Nat} (hm : O m = some (.set l)) (hs : span < 2000) (hp : p.2 < 2000) (hl : l.length < 4000)
    (q1 : l.contains ((p.2 * span + p'.2 : Nat) : Int) = true → Q (.bool false) O) (q2 : l.contains ((p.2 * span + p'.2 : Nat) : Int) = false → Q (.bool true) (up O m (.set (l ++ [((p.2 * span + p'.2 : Nat) : Int)])))) : CallOK c (n + 1) 396 [psV x m span, cl p, cl p'] O Q := by
  refine fn_call ok C.PairSet_add C.b_PairSet_add rfl (fun _ => .nil) ?_
  refine rAsg (.int (p.2 * span + p'.2 : Nat)) (vBin (o := .Add) (x := .int (p.2 * span : Nat)) (y := .int p'.2) rfl (vBin (o := .Mult) (x := .int p.2) (y := .int span) (if_pos ⟨Nat.lt_trans hp (by decide), Nat.lt_trans hs (by decide)⟩) (fun _ h => h) (vAtr1 rfl rfl)) fun _ h => h) ?_
  refine rIf (l.contains ((p.2 * span + p'.2 : Nat) : Int)) (tCmp (o := .In) (inA_set hm _) (fun _ h => h) (vAtr1 rfl rfl)) (fun e => rRet (.bool false) (fun _ h => h) (q1 e)) (fun e => rNx (sSad hm hl e (vAtr1 rfl rfl) (fun _ h => h) (rRet (.bool true) (fun _ h => h) (q2 e))))
end
end Mine

namespace Mine

structure Ent where
  p : Nat × Nat
  q : Nat × Nat
  t : T
  u : T
structure Ent.Ok (h : Hp) (ts : List Str) (fs : List (Nat × Nat)) (e : Ent) : Prop where
  dp : den h e.p e.t
  dq : den h e.q e.u
  wp : wf ts fs e.t
  wq : wf ts fs e.u
noncomputable def esum : List Ent → Nat
  | [] => 0
  | e :: r => e.t.size + esum r
noncomputable def num (span : Nat) (e : Ent) : Int := ((e.p.2 * span + e.q.2 : Nat) : Int)
noncomputable def wkV (E : List Ent) : List AV := E.reverse.map fun e => pr (e.p, e.q)
noncomputable def setV (span : Nat) (M : List Ent) : List Int := (M.map (num span)).reverse
theorem setV_cons (span : Nat) (e : Ent) (M : List Ent) : setV span (e :: M) = setV span M ++ [num span e] := by unfold setV; simp
theorem setV_len (span : Nat) (M : List Ent) : (setV span M).length = M.length := by unfold setV; simp
theorem wkV_cons (e : Ent) (E : List Ent) : wkV (e :: E) = wkV E ++ [pr (e.p, e.q)] := by unfold wkV; simp
theorem esum_len : ∀ E : List Ent, E.length ≤ esum E
  | [] => Nat.le_refl _
  | e :: r => by have := esum_len r; have := e.t.size_pos; simp [esum]; omega
theorem wkV_len (E : List Ent) : (wkV E).length = E.length := by unfold wkV; simp

noncomputable def Pt (R : T → T → Prop) (E M : List Ent) (x y : T) : Prop := R x y ∨ (∃ m ∈ M, m.t = x ∧ m.u = y) ∨ (∃ e ∈ E, e.t = x ∧ e.u = y)
noncomputable def kidsP (R : T → T → Prop) : T → T → Prop
  | .s1 f x, .s1 g y => f = g ∧ R x y
  | .s2 f x x2, .s2 g y y2 => f = g ∧ R x y ∧ R x2 y2
  | _, _ => False
theorem kidsP.mono {R R' : T → T → Prop} (k : ∀ x y, R x y → R' x y) : ∀ {t u : T}, kidsP R t u → kidsP R' t u
  | .s1 f x, .s1 g y, h => ⟨h.1, k _ _ h.2⟩
  | .s2 f x x2, .s2 g y y2, h => ⟨h.1, k _ _ h.2.1, k _ _ h.2.2⟩
theorem Pt.mono {R R' : T → T → Prop} {E E' M M' : List Ent} {x y : T} (kr : ∀ x y, R x y → R' x y) (ke : ∀ e ∈ E, Pt R' E' M' e.t e.u) (km : ∀ m ∈ M, m ∈ M') : Pt R E M x y → Pt R' E' M' x y
  | .inl e => .inl (kr _ _ e)
  | .inr (.inl ⟨m, a, b⟩) => .inr (.inl ⟨m, km m a, b⟩)
  | .inr (.inr ⟨e, a, b, c⟩) => b ▸ c ▸ ke e a
/-- what is closed under its children holds -/
theorem closed_all {R : T → T → Prop} (kR : ∀ t u, kidsP R t u → R t u) {M : List Ent} (clo : ∀ m ∈ M, kidsP (Pt R [] M) m.t m.u) : ∀ t u, Pt R [] M t u → R t u := by
  intro t
  induction t with
  | v n =>
    intro u h
    rcases h with h | ⟨m, a, b, c⟩ | ⟨e, a, _⟩
    · exact h
    · have := clo m a; rw [b] at this; cases u <;> simp [kidsP] at this
    · cases a
  | a n =>
    intro u h
    rcases h with h | ⟨m, a, b, c⟩ | ⟨e, a, _⟩
    · exact h
    · have := clo m a; rw [b] at this; cases u <;> simp [kidsP] at this
    · cases a
  | i n =>
    intro u h
    rcases h with h | ⟨m, a, b, c⟩ | ⟨e, a, _⟩
    · exact h
    · have := clo m a; rw [b] at this; cases u <;> simp [kidsP] at this
    · cases a
  | s1 f x ih =>
    intro u h
    rcases h with h | ⟨m, a, b, c⟩ | ⟨e, a, _⟩
    · exact h
    · have := clo m a
      rw [b, c] at this
      cases u with
      | s1 g y => exact kR _ _ ⟨this.1, ih _ this.2⟩
      | _ => exact this.elim
    · cases a
  | s2 f x y ih1 ih2 =>
    intro u h
    rcases h with h | ⟨m, a, b, c⟩ | ⟨e, a, _⟩
    · exact h
    · have := clo m a
      rw [b, c] at this
      cases u with
      | s2 g x' y' => exact kR _ _ ⟨this.1, ih1 _ this.2.1, ih2 _ this.2.2⟩
      | _ => exact this.elim
    · cases a

theorem num_inj {span : Nat} {e m : Ent} (h1 : e.q.2 < span) (h2 : m.q.2 < span) (h : num span e = num span m) : e.p.2 = m.p.2 ∧ e.q.2 = m.q.2 := by
  unfold num at h
  have h : e.p.2 * span + e.q.2 = m.p.2 * span + m.q.2 := by omega
  have a : (e.p.2 * span + e.q.2) % span = (m.p.2 * span + m.q.2) % span := by rw [h]
  rw [Nat.mul_comm, Nat.mul_add_mod, Nat.mul_comm m.p.2, Nat.mul_add_mod, Nat.mod_eq_of_lt h1, Nat.mod_eq_of_lt h2] at a
  refine ⟨?_, a⟩
  rw [a] at h
  have : e.p.2 * span = m.p.2 * span := by omega
  exact Nat.eq_of_mul_eq_mul_right (by omega) this

structure CInv (h : Hp) (ts : List Str) (fs : List (Nat × Nat)) (R : T → T → Prop) (E M : List Ent) (t u : T) : Prop where
  eok : ∀ e ∈ E, e.Ok h ts fs
  mok : ∀ m ∈ M, m.Ok h ts fs ∧ m.p.1 = 2 ∧ m.q.1 = 2
  clo : ∀ m ∈ M, kidsP (Pt R E M) m.t m.u
  org : Pt R E M t u

section
variable {c : Cx} {n : Nat} {a : SA} {ts : List Str} {fs : List (Nat × Nat)} {h : Hp} {O O' : Objs} {Q : AV → Objs → Prop} {R R' : T → T → Prop} {E M : List Ent} {t u : T} {e : Ent}

/-- the top is dropped: it holds -/
theorem CInv.drop (I : CInv h ts fs R (e :: E) M t u) (kr : ∀ x y, R x y → R' x y) (k : Pt R' E M e.t e.u) : CInv h ts fs R' E M t u := by
  have up : ∀ x y, Pt R (e :: E) M x y → Pt R' E M x y := fun x y z => z.mono kr (fun e' m => by
    rcases List.mem_cons.mp m with q | q
    · subst q; exact k
    · exact .inr (.inr ⟨e', q, rfl, rfl⟩)) fun _ m => m
  exact ⟨fun e' m => I.eok e' (List.mem_cons_of_mem _ m), I.mok, fun m mm => (I.clo m mm).mono up, up _ _ I.org⟩
/-- the top is compound, and newly met -/
theorem CInv.open1 {f : Nat} {x y : T} {p q : Nat × Nat} (I : CInv h ts fs R (e :: E) M t u) (et : e.t = .s1 f x) (eu : e.u = .s1 f y) (ep : e.p.1 = 2) (eq : e.q.1 = 2) (d1 : den h p x) (d2 : den h q y) : CInv h ts fs R (⟨p, q, x, y⟩ :: E) (e :: M) t u := by
  have eo := I.eok e List.mem_cons_self
  have w1 := eo.wp; rw [et] at w1
  have w2 := eo.wq; rw [eu] at w2
  have up : ∀ x' y', Pt R (e :: E) M x' y' → Pt R (⟨p, q, x, y⟩ :: E) (e :: M) x' y' := fun x' y' z => z.mono (fun _ _ z => z) (fun e' m => by
    rcases List.mem_cons.mp m with q | q
    · subst q; exact .inr (.inl ⟨_, List.mem_cons_self, rfl, rfl⟩)
    · exact .inr (.inr ⟨e', List.mem_cons_of_mem _ q, rfl, rfl⟩)) fun _ m => List.mem_cons_of_mem _ m
  refine ⟨fun e' m => ?_, fun m mm => ?_, fun m mm => ?_, up _ _ I.org⟩
  · rcases List.mem_cons.mp m with q | q
    · subst q; exact ⟨d1, d2, w1.2, w2.2⟩
    · exact I.eok e' (List.mem_cons_of_mem _ q)
  · rcases List.mem_cons.mp mm with q | q
    · subst q; exact ⟨eo, ep, eq⟩
    · exact I.mok m q
  · rcases List.mem_cons.mp mm with q | q
    · subst q
      rw [et, eu]
      exact ⟨rfl, .inr (.inr ⟨_, List.mem_cons_self, rfl, rfl⟩)⟩
    · exact (I.clo m q).mono up
theorem CInv.open2 {f : Nat} {x y x2 y2 : T} {p q p2 q2 : Nat × Nat} (I : CInv h ts fs R (e :: E) M t u) (et : e.t = .s2 f x x2) (eu : e.u = .s2 f y y2) (ep : e.p.1 = 2) (eq : e.q.1 = 2) (d1 : den h p x) (d2 : den h q y) (d3 : den h p2 x2) (d4 : den h q2 y2) :
    CInv h ts fs R (⟨p, q, x, y⟩ :: ⟨p2, q2, x2, y2⟩ :: E) (e :: M) t u := by
  have eo := I.eok e List.mem_cons_self
  have w1 := eo.wp; rw [et] at w1
  have w2 := eo.wq; rw [eu] at w2
  have up : ∀ x' y', Pt R (e :: E) M x' y' → Pt R (⟨p, q, x, y⟩ :: ⟨p2, q2, x2, y2⟩ :: E) (e :: M) x' y' := fun x' y' z => z.mono (fun _ _ z => z) (fun e' m => by
    rcases List.mem_cons.mp m with q | q
    · subst q; exact .inr (.inl ⟨_, List.mem_cons_self, rfl, rfl⟩)
    · exact .inr (.inr ⟨e', List.mem_cons_of_mem _ (List.mem_cons_of_mem _ q), rfl, rfl⟩)) fun _ m => List.mem_cons_of_mem _ m
  refine ⟨fun e' m => ?_, fun m mm => ?_, fun m mm => ?_, up _ _ I.org⟩
  · rcases List.mem_cons.mp m with q | q
    · subst q; exact ⟨d1, d2, w1.2.1, w2.2.1⟩
    · rcases List.mem_cons.mp q with q | q
      · subst q; exact ⟨d3, d4, w1.2.2, w2.2.2⟩
      · exact I.eok e' (List.mem_cons_of_mem _ q)
  · rcases List.mem_cons.mp mm with q | q
    · subst q; exact ⟨eo, ep, eq⟩
    · exact I.mok m q
  · rcases List.mem_cons.mp mm with q | q
    · subst q
      rw [et, eu]
      exact ⟨rfl, .inr (.inr ⟨_, List.mem_cons_self, rfl, rfl⟩), .inr (.inr ⟨_, List.mem_cons_of_mem _ List.mem_cons_self, rfl, rfl⟩)⟩
    · exact (I.clo m q).mono up
/-- the top was met before -/
theorem CInv.again (I : CInv h ts fs R (e :: E) M t u) (ep : e.p.1 = 2) (eq : e.q.1 = 2) (b : e.q.2 < h.length + 1) (bm : ∀ m ∈ M, m.q.2 < h.length + 1) (hc : (setV (h.length + 1) M).contains (num (h.length + 1) e) = true) : CInv h ts fs R E M t u := by
  refine I.drop (fun _ _ z => z) ?_
  obtain ⟨m, mm, e1⟩ := List.mem_map.mp (by simpa [setV] using hc)
  obtain ⟨z1, z2⟩ := num_inj (bm m mm) b e1
  obtain ⟨mo, mp, mq⟩ := I.mok m mm
  have eo := I.eok e List.mem_cons_self
  have p1 : m.p = e.p := Prod.ext (mp.trans ep.symm) z1
  have p2 : m.q = e.q := Prod.ext (mq.trans eq.symm) z2
  have dp := mo.dp; rw [p1] at dp
  have dq := mo.dq; rw [p2] at dq
  exact .inr (.inl ⟨m, mm, den_fun dp eo.dp mo.wp eo.wp, den_fun dq eo.dq mo.wq eo.wq⟩)
theorem den_lt {p : Nat × Nat} {t : T} (d : den h p t) (q : p.1 = 2) : p.2 < h.length := by
  have ht := (den_tag d).symm.trans q
  cases t with
  | s1 f x => obtain ⟨b, q, rfl, g, _⟩ := d; exact (List.getElem?_eq_some_iff.mp g).1
  | s2 f x y => obtain ⟨b, q, r, rfl, g, _⟩ := d; exact (List.getElem?_eq_some_iff.mp g).1
  | _ => exact tg ht rfl

theorem popA_snoc {O : Objs} {w : Addr} {l : List AV} {x : AV} (e : O w = some (.list (l ++ [x]))) (Q : AV → Objs → Prop) : popA O (.ref w) Q = ((l ++ [x]).length < lim ∧ Q x (up O w (.list l))) := by
  show oP (asLst (O w)) _ = _
  rw [e]
  show (_ ∧ _) = _
  apply propext
  have : (l ++ [x])[(l ++ [x]).length - 1]? = some x := by simp
  rw [this]
  simp [List.dropLast_concat]
end
end Mine

namespace Mine
noncomputable def ExtD (D : List Addr) (O O' : Objs) : Prop := ∀ b, b ∉ D → (O b).isSome = true → O' b = O b
theorem ExtD.refl (D : List Addr) (O : Objs) : ExtD D O O := fun _ _ _ => rfl
theorem ExtD.trans {D : List Addr} {O O' O'' : Objs} (x : ExtD D O O') (y : ExtD D O' O'') : ExtD D O O'' := fun b n e => (y b n (by rw [x b n e]; exact e)).trans (x b n e)
theorem ExtD.wide {D D' : List Addr} {O O' : Objs} (x : ExtD D O O') (k : ∀ b ∈ D, b ∈ D') : ExtD D' O O' := fun b n e => x b (fun m => n (k b m)) e
theorem ExtD.up {D : List Addr} {O : Objs} {w : Addr} (m : w ∈ D) {mo : MO} : ExtD D O (up O w mo) := fun b n e => up_ne fun q => n (q ▸ m)
theorem ExtD.new {D : List Addr} {O : Objs} {w : Addr} (d : O w = none) {mo : MO} : ExtD D O (Mine.up O w mo) := fun b n e => up_ne fun q => by rw [q, d] at e; cases e
theorem ExtD.get {D : List Addr} {O O' : Objs} (x : ExtD D O O') {b : Addr} (n : b ∉ D) {m : MO} (e : O b = some m) : O' b = some m := (x b n (by rw [e]; rfl)).trans e
noncomputable def isC : T → Bool
  | .s1 _ _ => true
  | .s2 _ _ _ => true
  | _ => false
theorem den_isC {h : Hp} {p : Nat × Nat} {t : T} (d : den h p t) : decide (p.1 = 2) = isC t := by
  cases t with
  | v n => obtain ⟨rfl, _⟩ := d; rfl
  | a k => have d : p = (4, k) := d; subst d; rfl
  | i k => have d : p = (5, k) := d; subst d; rfl
  | s1 f x => obtain ⟨b, q, rfl, _⟩ := d; rfl
  | s2 f x y => obtain ⟨b, q, r, rfl, _⟩ := d; rfl

section
variable {c : Cx} {n : Nat} {a : SA} {ts : List Str} {fs : List (Nat × Nat)} {h : Hp} {O O' : Objs}
/-! a loop's own continuation, kept small -/
noncomputable def LK (I : Nat → St → Prop) (k : Nat) (Q : Fl → St → Prop) (f : Fl) (σ : St) : Prop := match f with
  | .next => ∃ m, m < k ∧ I m σ
  | .cont => ∃ m, m < k ∧ I m σ
  | .brk => Q .next σ
  | .ret v => Q (.ret v) σ
theorem whl_rule {t : X} {b : S} {σ : St} {P : Fl → St → Prop} (I : Nat → St → Prop) (k : Nat) (h0 : I k σ) (step : ∀ k σ, I k σ → wpT c n t σ.fr σ.O fun z O => if z then wpS c n b ⟨O, σ.fr⟩ (LK I k P) else P .next ⟨O, σ.fr⟩) : wpS c n (.whl t b) σ P :=
  ⟨I, k, h0, step⟩

theorem whl_k {t : X} {b : S} {σ : St} {P : Fl → St → Prop} (I : Nat → St → Prop) (k : Nat) (h0 : I k σ) (step : ∀ k σ, I k σ → ∀ K : Fl → St → Prop, (∀ m σ', m < k → I m σ' → K .next σ') → (∀ v σ', P (.ret v) σ' → K (.ret v) σ') → wpT c n t σ.fr σ.O fun z O => if z then wpS c n b ⟨O, σ.fr⟩ K else P .next ⟨O, σ.fr⟩) : wpS c n (.whl t b) σ P :=
  whl_rule I k h0 fun k σ i => step k σ i (LK I k P) (fun m σ' l v => ⟨m, l, v⟩) fun v σ' h => h
theorem nil_tail {s : S} {σ : St} {K : Fl → St → Prop} : wpS c n (.cons s .nil) σ K = wpS c n s σ K := by
  show wpS c n s σ _ = _
  congr 1
  funext f σ'
  cases f <;> rfl
noncomputable def gr3 : S := (.cons (.iff (.and (.mth (.var 74) 60 373 285 (.cons (.var 75) .nil)) (.cmp .NotIn (.sub (.var 75) (.int 1)) (.var 90))) (.cons (.ex (.sad (.var 90) (.sub (.var 75) (.int 1))))
 (.cons (.ex (.call 7 410 (.cons (.var 74) (.cons (.var 75) (.cons (.var 76) .nil)))))
 .nil)) .nil)
 .nil)
noncomputable def gr2 : S := (.cons (.iff (.call 10 431 (.cons (.var 75) .nil)) (.cons (.ret (.bol false))
 .nil) .nil)
 gr3)
noncomputable def gr1 : S := (.cons (.asg 75 (.mth (.var 74) 52 373 229 (.cons (.pop (.var 76)) .nil)))
 gr2)


/-- a cell that is no variable: its block is opened once -/
theorem gr3_ok (ok : c.Ok) (C : Code c.K) (W : World a ts fs h O) {wk mt : Addr} {L : List AV} {M : List Int} {e : T} {p : Nat × Nat} {fr : Nat → Option AV} {K : Fl → St → Prop} (wk_mt : wk ≠ mt) (owk : Apart a wk) (omt : Apart a mt) (hw : O wk = some (.list L)) (hm : O mt = some (.set M)) (hL : L.length < 80000) (hM : M.length < 4000)
    (f1 : fr 74 = some (stoV a)) (f2 : fr 76 = some (.ref wk)) (f3 : fr 90 = some (.ref mt)) (f4 : fr 75 = some (cl p)) (dp : den h p e) (wp : wf ts fs e)
    (leaf : isC e = false → K .next ⟨O, fr⟩) (met : isC e = true → p.1 = 2 → (p.2 : Int) ∈ M → K .next ⟨O, fr⟩)
    (new1 : ∀ f x q, e = .s1 f x → p.1 = 2 → den h q x → wf ts fs x → K .next ⟨up (up O mt (.set (M ++ [(p.2 : Int)]))) wk (.list (L ++ [cl q])), fr⟩)
    (new2 : ∀ f x y q r, e = .s2 f x y → p.1 = 2 → den h q x → den h r y → wf ts fs x → wf ts fs y → K .next ⟨up (up O mt (.set (M ++ [(p.2 : Int)]))) wk (.list (L ++ [cl r, cl q])), fr⟩) : wpS c (n + 4) gr3 ⟨O, fr⟩ K := by
  have W3 := W.upd (m := .set (M ++ [(p.2 : Int)])) omt
  have hw3 := (up_ne (O := O) (m := .set (M ++ [(p.2 : Int)])) wk_mt).trans hw
  have hc1 := inA_set hm (p.2 : Int)
  have v1 : V c (n + 4) (.sub (.var 75) (.int 1)) fr O (.int p.2) := vSub (x := cl p) (y := .int 1) rfl (vVar f4) fun _ h => h
  refine rIfC (tAndC (tMth rfl (vVar f1) (a1 (vVar f4) (k_is_compound (n := n + 3) ok C (den_CK dp) ?_))))
  rw [den_isC dp]
  cases ce : isC e with
  | false => exact rNx (rNil (leaf ce))
  | true =>
    have p1 : p.1 = 2 := of_decide_eq_true ((den_isC dp).trans ce)
    cases hc : M.contains (p.2 : Int) with
    | true => exact tNi (z := true) (hc1.trans (congrArg some hc)) v1 (vVar f3) _ (rNx (rNil (met ce p1 (List.contains_iff_mem.mp hc))))
    | false =>
      refine tNi (z := false) (hc1.trans (congrArg some hc)) v1 (vVar f3) _ (sSad hm hM hc (vVar f3) v1 (rEx (rCall (a3 (vVar f1) (vVar f4) (vVar f2) ?_))))
      cases e with
      | s1 f x =>
        obtain ⟨b1, q, rfl, g1, g2, g3⟩ := dp
        obtain ⟨⟨at1, w1, w2⟩, w3⟩ := wp
        exact k_push_args1 (n := n + 1) (p := (2, b1)) ok C W3 rfl g1 w1 g2 hw3 hL (new1 f x q rfl rfl g3 w3)
      | s2 f x y =>
        obtain ⟨b1, q, r, rfl, g1, g2, g4, g3, g5⟩ := dp
        obtain ⟨⟨at1, w1, w2⟩, w3, w4⟩ := wp
        exact k_push_args2 (n := n + 1) (p := (2, b1)) ok C W3 rfl g1 w1 g2 g4 hw3 owk hL (new2 f x y q r rfl rfl g3 g5 w3 w4)
      | _ => cases ce
end
end Mine

namespace Mine

/-- a relation that goes down into compounds and fixes leaves -/
structure FwOk (Fw : T → T → Prop) : Prop where
  a : ∀ k u, Fw (.a k) u → u = .a k
  i : ∀ k u, Fw (.i k) u → u = .i k
  s1 : ∀ f x u, Fw (.s1 f x) u → ∃ y, u = .s1 f y ∧ Fw x y
  s2 : ∀ f x x' u, Fw (.s2 f x x') u → ∃ y y', u = .s2 f y y' ∧ Fw x y ∧ Fw x' y'
structure FwS (Fw : T → T → Prop) : Prop where
  s1 : ∀ f x y, Fw (.s1 f x) (.s1 f y) → Fw x y
  s2 : ∀ f x x' y y', Fw (.s2 f x x') (.s2 f y y') → Fw x y ∧ Fw x' y'
theorem FwOk.toS {Fw : T → T → Prop} (o : FwOk Fw) : FwS Fw :=
  ⟨fun f x y z => by obtain ⟨w, q1, q2⟩ := o.s1 _ _ _ z; cases q1; exact q2, fun f x x' y y' z => by obtain ⟨w, w', q1, q2⟩ := o.s2 _ _ _ _ z; cases q1; exact q2⟩
noncomputable def fno : T → Nat
  | .s1 f _ => f
  | .s2 f _ _ => f
  | _ => 0
theorem den_fno {h : Hp} {p : Nat × Nat} {t : T} (d : den h p t) (c : isC t = true) : p.1 = 2 ∧ h[p.2]? = some (6, fno t) := by
  cases t with
  | s1 f x => obtain ⟨b, q, rfl, e, _⟩ := d; exact ⟨rfl, e⟩
  | s2 f x y => obtain ⟨b, q, r, rfl, e, _⟩ := d; exact ⟨rfl, e⟩
  | _ => cases c
theorem Fw_isC {Fw : T → T → Prop} (ok : FwOk Fw) {t u : T} (c : isC t = true) (z : Fw t u) : isC u = true ∧ fno t = fno u := by
  cases t with
  | s1 f x => obtain ⟨y, rfl, _⟩ := ok.s1 _ _ _ z; exact ⟨rfl, rfl⟩
  | s2 f x y => obtain ⟨y, y', rfl, _⟩ := ok.s2 _ _ _ _ z; exact ⟨rfl, rfl⟩
  | _ => cases c

noncomputable def pt3 : S := (.cons (.iff (.cmp .NotEq (.var 79) (.var 80)) (.cons (.ret (.bol false))
 .nil) .nil)
 .nil)
noncomputable def pt2 : S := (.cons (.iff (.mth (.var 90) 71 399 396 (.cons (.var 79) (.cons (.var 80) .nil))) (.cons (.ex (.call 8 417 (.cons (.var 74) (.cons (.var 79) (.cons (.var 80) (.cons (.var 76) .nil))))))
 .nil) .nil)
 .nil)
noncomputable def pt1 : S := (.cons (.iff (.or (.not (.mth (.var 74) 60 373 285 (.cons (.var 80) .nil))) (.not (.call 9 424 (.cons (.var 74) (.cons (.var 79) (.cons (.var 80) .nil)))))) (.cons (.ret (.bol false))
 .nil) .nil)
 pt2)
noncomputable def pt0 : S := (.cons (.iff (.mth (.var 74) 60 373 285 (.cons (.var 79) .nil)) pt1 pt3)
 .nil)

section
variable {c : Cx} {n : Nat} {a : SA} {ts : List Str} {fs : List (Nat × Nat)} {h : Hp} {O : Objs} {R : T → T → Prop} {E M : List Ent} {t0 u0 t u : T} {p p' : Nat × Nat} {x wk m : Addr} {fr : Nat → Option AV} {K : Fl → St → Prop}

/-- the frame and the objects that the fragment reads -/
structure PT (a : SA) (ts : List Str) (fs : List (Nat × Nat)) (h : Hp) (O : Objs) (E M : List Ent) (p p' : Nat × Nat) (x wk m : Addr) (fr : Nat → Option AV) : Prop where
  W : World a ts fs h O
  awk : Apart a wk
  am : Apart a m
  wm : wk ≠ m
  hw : O wk = some (.list (wkV E))
  hm : O m = some (.set (setV (h.length + 1) M))
  f74 : fr 74 = some (stoV a)
  f76 : fr 76 = some (.ref wk)
  f79 : fr 79 = some (cl p)
  f80 : fr 80 = some (cl p')
  f90 : fr 90 = some (psV x m (h.length + 1))

theorem mth_sto {i f : Nat} {l : X} {Q : AV → Objs → Prop} (e : fr 74 = some (stoV a)) (hi : lk [(73, symV a), (120, AV.int 100000), (121, .ref a.hp), (122, .ref a.stk), (123, .ref a.trl), (124, .int 0), (125, .int 0)] i = none) : wpE c n (.mth (.var 74) i 373 f l) fr O Q = wpL c n l fr O fun vs O => CallOK c n f (stoV a :: vs) O Q := by
  simp only [wE_var, wE_glb, wE_int, wE_str, wE_bol, wE_neg, wE_not, wE_bin, wE_cmp, wE_and, wE_or, wE_ite, wE_sub, wE_slc, wE_atr, wE_tup, wE_lst, wE_dct, wE_call, wE_new, wE_mth, wE_bif, wE_app, wE_pop, wE_rev, wE_get, wE_sad, wE_cpr, e, stoV]
  simp [hi]
theorem mth_ps {i f : Nat} {l : X} {Q : AV → Objs → Prop} {s : Nat} (e : fr 90 = some (psV x m s)) (hi : lk [(136, AV.int s), (90, .ref m)] i = none) : wpE c n (.mth (.var 90) i 399 f l) fr O Q = wpL c n l fr O fun vs O => CallOK c n f (psV x m s :: vs) O Q := by
  simp only [wE_var, wE_glb, wE_int, wE_str, wE_bol, wE_neg, wE_not, wE_bin, wE_cmp, wE_and, wE_or, wE_ite, wE_sub, wE_slc, wE_atr, wE_tup, wE_lst, wE_dct, wE_call, wE_new, wE_mth, wE_bif, wE_app, wE_pop, wE_rev, wE_get, wE_sad, wE_cpr, e, psV]
  simp [hi]
theorem tmth_sto {i f : Nat} {l : X} {Q : Bool → Objs → Prop} (e : fr 74 = some (stoV a)) (hi : lk [(73, symV a), (120, AV.int 100000), (121, .ref a.hp), (122, .ref a.stk), (123, .ref a.trl), (124, .int 0), (125, .int 0)] i = none) : wpT c n (.mth (.var 74) i 373 f l) fr O Q = wpL c n l fr O fun vs O => CallOK c n f (stoV a :: vs) O fun v O => truA v fun b => Q b O := by
  simp only [wT_not, wT_cmp, wT_and, wT_and3, wT_or, wT_ite, wT_var, wT_bol, wT_sub, wT_call, wT_mth, wE_var, wE_glb, wE_int, wE_str, wE_bol, wE_neg, wE_not, wE_bin, wE_cmp, wE_and, wE_or, wE_ite, wE_sub, wE_slc, wE_atr, wE_tup, wE_lst, wE_dct, wE_call, wE_new, wE_mth, wE_bif, wE_app, wE_pop, wE_rev, wE_get, wE_sad, wE_cpr, e, stoV]
  simp [hi]
theorem tmth_ps {i f : Nat} {l : X} {Q : Bool → Objs → Prop} {s : Nat} (e : fr 90 = some (psV x m s)) (hi : lk [(136, AV.int s), (90, .ref m)] i = none) : wpT c n (.mth (.var 90) i 399 f l) fr O Q = wpL c n l fr O fun vs O => CallOK c n f (psV x m s :: vs) O fun v O => truA v fun b => Q b O := by
  simp only [wT_not, wT_cmp, wT_and, wT_and3, wT_or, wT_ite, wT_var, wT_bol, wT_sub, wT_call, wT_mth, wE_var, wE_glb, wE_int, wE_str, wE_bol, wE_neg, wE_not, wE_bin, wE_cmp, wE_and, wE_or, wE_ite, wE_sub, wE_slc, wE_atr, wE_tup, wE_lst, wE_dct, wE_call, wE_new, wE_mth, wE_bif, wE_app, wE_pop, wE_rev, wE_get, wE_sad, wE_cpr, e, psV]
  simp [hi]

theorem pt2_ok (ok : c.Ok) (C : Code c.K) (P : PT a ts fs h O E M p p' x wk m fr) (d : den h p t) (d' : den h p' u) (w : wf ts fs t) (ct : isC t = true) (cu : isC u = true) (fe : fno t = fno u) (w' : wf ts fs u)
    (I : CInv h ts fs R (⟨p, p', t, u⟩ :: E) M t0 u0) (hl : M.length + E.length < 1000)
    (good : ∀ O3 E3 M3, ExtD [wk, m] O O3 → O3 wk = some (.list (wkV E3)) → O3 m = some (.set (setV (h.length + 1) M3)) → CInv h ts fs R E3 M3 t0 u0 → (∀ Fw, FwS Fw → (∀ e ∈ E, Fw e.t e.u) → Fw t u → ∀ e ∈ E3, Fw e.t e.u) → esum E3 < t.size + esum E → M3.length + esum E3 ≤ M.length + (t.size + esum E) → K .next ⟨O3, fr⟩) : wpS c (n + 4) pt2 ⟨O, fr⟩ K := by
  obtain ⟨W, awk, am, wm, hw, hm, f74, f76, f79, f80, f90⟩ := P
  obtain ⟨p1, z1⟩ := den_fno d ct
  obtain ⟨p1', z1'⟩ := den_fno d' cu
  have lh := W.lh
  have l1 : p.2 < h.length := (List.getElem?_eq_some_iff.mp z1).1
  have l2 : p'.2 < h.length := (List.getElem?_eq_some_iff.mp z1').1
  have wl := wkV_len E
  have tp := t.size_pos
  refine rIfC (tMth rfl (vVar f90) (a2 (vVar f79) (vVar f80) (k_ps_add (n := n + 3) (span := h.length + 1) ok C hm (by omega) (by omega) (by rw [setV_len]; omega) (fun hc => ?_) (fun hc => ?_))))
  · have I2 := I.again p1 p1' (by simp only []; omega) (fun m' mm => by have := den_lt (I.mok m' mm).1.dq (I.mok m' mm).2.2; omega) hc
    exact rNx (rNil (good O E M (.refl _ _) hw hm I2 (fun Fw _ e _ => e) (by omega) (by omega)))
  · have W3 := W.upd (m := .set (setV (h.length + 1) M ++ [((p.2 * (h.length + 1) + p'.2 : Nat) : Int)])) am
    have X : ∀ (l : List AV), ExtD [wk, m] O (up (up O m (.set (setV (h.length + 1) M ++ [((p.2 * (h.length + 1) + p'.2 : Nat) : Int)]))) wk (.list l)) := fun l => (ExtD.up (List.mem_cons_of_mem _ List.mem_cons_self)).trans (ExtD.up List.mem_cons_self)
    have hm3 : ∀ (l : List AV), up (up O m (.set (setV (h.length + 1) M ++ [((p.2 * (h.length + 1) + p'.2 : Nat) : Int)]))) wk (.list l) m = some (.set (setV (h.length + 1) (⟨p, p', t, u⟩ :: M))) := fun l => by rw [up_ne (Ne.symm wm), up_at, setV_cons]; rfl
    have hw3 := (up_ne (O := O) (m := .set (setV (h.length + 1) M ++ [((p.2 * (h.length + 1) + p'.2 : Nat) : Int)])) wm).trans hw
    refine rEx (rCall (a4 (vVar f74) (vVar f79) (vVar f80) (vVar f76) ?_))
    generalize up O m (.set (setV (h.length + 1) M ++ [((p.2 * (h.length + 1) + p'.2 : Nat) : Int)])) = O2 at *
    cases t with
    | s1 f x' =>
      cases u with
      | s1 g y' =>
        have fe : f = g := fe
        subst fe
        obtain ⟨b1, c1, rfl, g1, g2, g3⟩ := d
        obtain ⟨b2, c2, rfl, g4, g5, g6⟩ := d'
        obtain ⟨⟨at1, w1, w2⟩, w3⟩ := w
        refine k_push_pairs1 (n := n + 1) (p := (2, b1)) (p' := (2, b2)) ok C W3 rfl rfl g1 w1 g2 g5 hw3 (by omega) ?_
        exact good _ (⟨c1, c2, x', y'⟩ :: E) _ (X _) (by rw [up_at, wkV_cons]) (hm3 _) (I.open1 rfl rfl rfl rfl g3 g6) (fun Fw o e z => List.forall_mem_cons.mpr ⟨o.s1 _ _ _ z, e⟩) (by simp only [esum, T.size]; omega) (by simp only [esum, T.size, List.length_cons]; omega)
      | s2 g y' z' =>
        have fe : f = g := fe
        subst fe
        obtain ⟨⟨at1, w1, _⟩, _⟩ := w
        obtain ⟨⟨at2, w5, _⟩, _⟩ := w'
        cases w1.symm.trans w5
      | _ => cases cu
    | s2 f x' x2' =>
      cases u with
      | s2 g y' y2' =>
        have fe : f = g := fe
        subst fe
        obtain ⟨b1, c1, r1, rfl, g1, g2, g7, g3, g8⟩ := d
        obtain ⟨b2, c2, r2, rfl, g4, g5, g9, g6, g10⟩ := d'
        obtain ⟨⟨at1, w1, w2⟩, w3⟩ := w
        refine k_push_pairs2 (n := n + 1) (p := (2, b1)) (p' := (2, b2)) ok C W3 rfl rfl g1 w1 g2 g5 g7 g9 hw3 awk (by omega) ?_
        exact good _ (⟨c1, c2, x', y'⟩ :: ⟨r1, r2, x2', y2'⟩ :: E) _ (X _) (by rw [up_at, wkV_cons, wkV_cons, List.append_assoc]; rfl) (hm3 _) (I.open2 rfl rfl rfl rfl g3 g6 g8 g10) (fun Fw o e z => List.forall_mem_cons.mpr ⟨(o.s2 _ _ _ _ _ z).1, List.forall_mem_cons.mpr ⟨(o.s2 _ _ _ _ _ z).2, e⟩⟩) (by simp only [esum, T.size]; omega) (by simp only [esum, T.size, List.length_cons]; omega)
      | s1 g y' =>
        have fe : f = g := fe
        subst fe
        obtain ⟨⟨at1, w1, _⟩, _⟩ := w
        obtain ⟨⟨at2, w5, _⟩, _⟩ := w'
        cases w1.symm.trans w5
      | _ => cases cu
    | _ => cases ct

theorem pt0_ok (ok : c.Ok) (C : Code c.K) (P : PT a ts fs h O E M p p' x wk m fr) (d : den h p t) (d' : den h p' u) (w : wf ts fs t) (w' : wf ts fs u) (nv : ∀ k, t ≠ .v k) (hR : isC t = false → R t t)
    (I : CInv h ts fs R (⟨p, p', t, u⟩ :: E) M t0 u0) (hl : M.length + E.length < 1000)
    (bad : (∀ Fw, FwOk Fw → ¬ Fw t u) → K (.ret (.bool false)) ⟨O, fr⟩)
    (good : ∀ O3 E3 M3, ExtD [wk, m] O O3 → O3 wk = some (.list (wkV E3)) → O3 m = some (.set (setV (h.length + 1) M3)) → CInv h ts fs R E3 M3 t0 u0 → (∀ Fw, FwS Fw → (∀ e ∈ E, Fw e.t e.u) → Fw t u → ∀ e ∈ E3, Fw e.t e.u) → esum E3 < t.size + esum E → M3.length + esum E3 ≤ M.length + (t.size + esum E) → K .next ⟨O3, fr⟩) : wpS c (n + 4) pt0 ⟨O, fr⟩ K := by
  have tp := t.size_pos
  refine rIfC (tMth rfl (vVar P.f74) (a1 (vVar P.f79) (k_is_compound (n := n + 3) (h := h) ok C (den_CK d) ?_)))
  rw [den_isC d]
  cases ct : isC t with
  | true =>
    refine rIfC (tOrC (tNotC (tMth rfl (vVar P.f74) (a1 (vVar P.f80) (k_is_compound (n := n + 3) (h := h) ok C (den_CK d') ?_)))))
    rw [den_isC d']
    cases cu : isC u with
    | false =>
      exact bad fun Fw o z => by have := (Fw_isC o ct z).1; rw [cu] at this; cases this
    | true =>
      obtain ⟨p1, z1⟩ := den_fno d ct
      obtain ⟨p1', z1'⟩ := den_fno d' cu
      refine ttN (tNotC (tCall (a3 (vVar P.f74) (vVar P.f79) (vVar P.f80) (k_same_shape (n := n + 3) ok C P.W p1 p1' z1 z1' ?_))))
      by_cases fg : fno t = fno u
      · rw [decide_eq_true fg]
        exact pt2_ok (n := n) (K := nx c (n + 4) .nil (nx c (n + 4) .nil K)) ok C P d d' w ct cu fg w' I hl good
      · rw [decide_eq_false fg]
        exact bad fun Fw o z => fg (Fw_isC o ct z).2
  | false =>
    have e1 := eqA_cl O p p'
    by_cases epq : p = p'
    · subst epq
      have tu := den_fun d d' w w'
      subst tu
      rw [decide_eq_true rfl] at e1
      exact rIfF (tNe (z := true) e1 (vVar P.f79) (vVar P.f80)) (rNx (rNx (rNil (good O E M (.refl _ _) P.hw P.hm (I.drop (fun _ _ z => z) (.inl (hR ct))) (fun Fw _ e _ => e) (by omega) (by omega)))))
    · rw [decide_eq_false epq] at e1
      refine rIfT (tNe (z := false) e1 (vVar P.f79) (vVar P.f80)) (rRet (.bool false) (fun _ h => h) (bad fun Fw o z => epq ?_))
      cases t with
      | v k => exact absurd rfl (nv k)
      | a k => rw [o.a _ _ z] at d'; exact (show p = (4, k) from d).trans (show p' = (4, k) from d').symm
      | i k => rw [o.i _ _ z] at d'; exact (show p = (5, k) from d).trans (show p' = (5, k) from d').symm
      | _ => cases ct
/-- a pair is taken from the list, and both sides are followed -/
theorem pair_head (ok : c.Ok) (C : Code c.K) {T : S} {σ : St} {K : Fl → St → Prop} {E : List Ent} {e : Ent} (W : World a ts fs h σ.O) (awk : Apart a wk) (hw : σ.O wk = some (.list (wkV (e :: E)))) (hl : E.length < 80000) (f74 : σ.fr 74 = some (stoV a)) (f76 : σ.fr 76 = some (.ref wk)) (eo : e.Ok h ts fs)
    (q : ∀ fr2, (∀ j, j ≠ 79 → j ≠ 80 → fr2 j = σ.fr j) → fr2 79 = some (cl e.p) → fr2 80 = some (cl e.q) → wpS c (n + 4) T ⟨up σ.O wk (.list (wkV E)), fr2⟩ K) :
    wpS c (n + 4) (.cons (.asg2 79 80 (.pop (.var 76))) (.cons (.asg 79 (.mth (.var 74) 52 373 229 (.cons (.var 79) .nil))) (.cons (.asg 80 (.mth (.var 74) 52 373 229 (.cons (.var 80) .nil))) T))) σ K := by
  have W2 : World a ts fs h (up σ.O wk (.list (wkV E))) := W.upd awk
  rw [wkV_cons] at hw
  have wl := wkV_len E
  refine rAsg2C (rPop hw (by rw [List.length_append, wl]; unfold lim; exact Nat.lt_trans (Nat.succ_lt_succ hl) (by decide)) (vVar f76) ?_)
  refine rAsgC (rMth rfl (vVar f74) (a1 (fun _ h => h) (k_deref (n := n + 3) ok C W2 (den_CK eo.dp) ?_)))
  refine rAsgC (rMth rfl (vVar f74) (a1 (fun _ h => h) (k_deref (n := n + 3) ok C W2 (den_CK eo.dq) ?_)))
  exact q _ (fun j a1 a2 => (if_neg a2).trans ((if_neg a1).trans ((if_neg a2).trans (if_neg a1)))) rfl rfl

end
end Mine

namespace Mine

section
variable {c : Cx} {n : Nat} {a : SA} {ts : List Str} {fs : List (Nat × Nat)} {h : Hp} {O O' : Objs} {Q : AV → Objs → Prop}

theorem kidsP_eq {t u : T} (k : kidsP (· = ·) t u) : t = u := by
  cases t <;> cases u <;> simp [kidsP] at k
  · rw [k.1, k.2]
  · rw [k.1, k.2.1, k.2.2]

theorem eq_FwOk : FwOk fun t u : T => t = u :=
  ⟨fun k u z => z.symm, fun k u z => z.symm, fun f x u z => ⟨x, z.symm, rfl⟩, fun f x x' u z => ⟨x, x', z.symm, rfl, rfl⟩⟩
theorem top_same {h : Hp} {p p' : Nat × Nat} {t u : T} (te : topEq t u) (d : den h p t) (d' : den h p' u) (ne : p ≠ p') : isC t = true ∧ isC u = true ∧ fno t = fno u := by
  cases t with
  | v k1 => cases u <;> simp [topEq] at te; subst te; exact absurd (d.1.trans d'.1.symm) ne
  | a k1 => cases u <;> simp [topEq] at te; subst te; exact absurd (Eq.trans (show p = (4, k1) from d) (Eq.symm (show p' = (4, k1) from d'))) ne
  | i k1 => cases u <;> simp [topEq] at te; subst te; exact absurd (Eq.trans (show p = (5, k1) from d) (Eq.symm (show p' = (5, k1) from d'))) ne
  | s1 f x => cases u <;> simp [topEq] at te; subst te; exact ⟨rfl, rfl, rfl⟩
  | s2 f x y => cases u <;> simp [topEq] at te; subst te; exact ⟨rfl, rfl, rfl⟩

theorem whl_k2 {t : X} {b : S} {σ : St} {P : Fl → St → Prop} (I : Nat → St → Prop) (k : Nat) (h0 : I k σ) (step : ∀ k σ, I k σ → ∀ K : Fl → St → Prop, (∀ m σ', m < k → I m σ' → K .next σ') → (∀ m σ', m < k → I m σ' → K .cont σ') → (∀ v σ', P (.ret v) σ' → K (.ret v) σ') → wpT c n t σ.fr σ.O fun z O => if z then wpS c n b ⟨O, σ.fr⟩ K else P .next ⟨O, σ.fr⟩) : wpS c n (.whl t b) σ P :=
  whl_rule I k h0 fun k σ i => step k σ i (LK I k P) (fun m σ' l v => ⟨m, l, v⟩) (fun m σ' l v => ⟨m, l, v⟩) fun v σ' h => h
structure QI (a : SA) (ts : List Str) (fs : List (Nat × Nat)) (h : Hp) (O : Objs) (t u : T) (x wk m : Addr) (k : Nat) (σ : St) : Prop where
  ex : ∃ E M, σ.O wk = some (.list (wkV E)) ∧ σ.O m = some (.set (setV (h.length + 1) M)) ∧
    CInv h ts fs (· = ·) E M t u ∧ (t = u → ∀ e ∈ E, e.t = e.u) ∧ k = esum E ∧ M.length + esum E ≤ t.size
  ext : Ext O σ.O
  f74 : σ.fr 74 = some (stoV a)
  f76 : σ.fr 76 = some (.ref wk)
  f90 : σ.fr 90 = some (psV x m (h.length + 1))
noncomputable def cp2 : S := (.cons (.iff (.and (.mth (.var 74) 60 373 285 (.cons (.var 79) .nil)) (.mth (.var 90) 71 399 396 (.cons (.var 79) (.cons (.var 80) .nil)))) (.cons (.ex (.call 8 417 (.cons (.var 74) (.cons (.var 79) (.cons (.var 80) (.cons (.var 76) .nil))))))
 .nil) .nil)
 .nil)
theorem cp2_ok (ok : c.Ok) (C : Code c.K) {p : Nat × Nat} {t : T} {fr : Nat → Option AV} {K : Fl → St → Prop} (d : den h p t) (ct : isC t = true) (f74 : fr 74 = some (stoV a)) (f79 : fr 79 = some (cl p)) (q : wpS c (n + 4) pt2 ⟨O, fr⟩ K) : wpS c (n + 4) cp2 ⟨O, fr⟩ K := by
  unfold pt2 at q
  rw [nil_tail] at q
  unfold cp2
  rw [nil_tail]
  show wpT c (n + 4) (.and _ _) fr O _
  have : ∀ (b : X) (Q : Bool → Objs → Prop), wpT c (n + 4) b fr O Q → wpT c (n + 4) (.and (.mth (.var 74) 60 373 285 (.cons (.var 79) .nil)) b) fr O Q := fun b Q hb => by
    show wpT c (n + 4) (.mth (.var 74) 60 373 285 (.cons (.var 79) .nil)) fr O _
    rw [tmth_sto (i := 60) f74 rfl]
    simp only [wL_nil, wL_cons, wE_var, wE_glb, wE_int, wE_str, wE_bol, wE_neg, wE_not, wE_bin, wE_cmp, wE_and, wE_or, wE_ite, wE_sub, wE_slc, wE_atr, wE_tup, wE_lst, wE_dct, wE_call, wE_new, wE_mth, wE_bif, wE_app, wE_pop, wE_rev, wE_get, wE_sad, wE_cpr, f79]
    refine k_is_compound (n := n + 3) (h := h) ok C (den_CK d) ?_
    rw [den_isC d, ct]
    exact hb
  exact this _ _ q

theorem k_compare (ok : c.Ok) (C : Code c.K) (W : World a ts fs h O) (Y : Sy ts fs) {p p' : Nat × Nat} {t u : T} (d : den h p t) (d' : den h p' u) (w : wf ts fs t) (w' : wf ts fs u) (sz : t.size < 1000)
    (q : ∀ (z : Int) O', Ext O O' → (z = 0 ↔ t = u) → Q (.int z) O') : CallOK c (n + 5) 466 [stoV a, cl p, cl p'] O Q := by
  refine fn_call ok C.compare C.b_compare rfl (fun _ => .nil) ?_
  obtain ⟨C2, hC2⟩ : ∃ Z, Z = cp2 := ⟨_, rfl⟩
  obtain ⟨Z, hZ⟩ : ∃ Z, Z = (S.cons (.iff (.cmp .Eq (.var 79) (.var 80)) (.cons .cnt .nil) .nil) (.cons (.asg 86 (.call 14 459 (.cons (.var 74) (.cons (.var 79) (.cons (.var 80) .nil))))) (.cons (.iff (.cmp .NotEq (.var 86) (.int 0)) (.cons (.ret (.var 86)) .nil) .nil) C2))) := ⟨_, rfl⟩
  obtain ⟨L, hL⟩ : ∃ L, L = (S.cons (.whl (.cmp .Gt (.bif .len (.cons (.var 76) .nil)) (.int 0)) (.cons (.asg2 79 80 (.pop (.var 76))) (.cons (.asg 79 (.mth (.var 74) 52 373 229 (.cons (.var 79) .nil))) (.cons (.asg 80 (.mth (.var 74) 52 373 229 (.cons (.var 80) .nil))) Z)))) (.cons (.ret (.int 0)) .nil)) := ⟨_, rfl⟩
  rw [show ir_compare = (.cons (.asg 90 (.new 6 399 389 (.cons (.var 74) .nil))) (.cons (.asg 76 (.lst (.cons (.tup (.cons (.var 88) (.cons (.var 89) .nil))) .nil))) L)) by rw [hL, hZ, hC2]; rfl]
  generalize hfr0 : (lk (([74, 88, 89] : List Nat).zip _)) = fr0
  have a74 : fr0 74 = some (stoV a) := by rw [← hfr0]; rfl
  have a88 : fr0 88 = some (cl p) := by rw [← hfr0]; rfl
  have a89 : fr0 89 = some (cl p') := by rw [← hfr0]; rfl
  simp [wS_nil, wS_cons, wS_asg, wS_asc, wS_asg2, wS_sat, wS_sit, wS_aug, wS_ex, wS_iff, wS_whl, wS_for, wS_ret, wS_cnt, wS_wild, wS_frz, wE_var, wE_glb, wE_int, wE_str, wE_bol, wE_neg, wE_not, wE_bin, wE_cmp, wE_and, wE_or, wE_ite, wE_sub, wE_slc, wE_atr, wE_tup, wE_lst, wE_dct, wE_call, wE_new, wE_mth, wE_bif, wE_app, wE_pop, wE_rev, wE_get, wE_sad, wE_cpr, wL_nil, wL_cons, setf, newM, a74, a88, a89]
  refine k_new_pairset (n := n + 2) ok C W fun x m O1 x1 om hm => ?_
  intro wk hwk
  have owk : O wk = none := by
    cases z : O wk with
    | none => rfl
    | some mo => rw [x1.get z] at hwk; cases hwk
  have wm : wk ≠ m := fun e => by rw [e, hm] at hwk; cases hwk
  have V : ∀ fr : Nat → Option AV, fr 74 = some (stoV a) → fr 76 = some (.ref wk) → fr 90 = some (psV x m (h.length + 1)) → QI a ts fs h O t u x wk m t.size ⟨up O1 wk (.list [.tup [cl p, cl p']]), fr⟩ := fun fr e1 e2 e3 =>
    ⟨⟨[⟨p, p', t, u⟩], [], up_at _ _ _, (up_ne (Ne.symm wm)).trans hm, ⟨List.forall_mem_cons.mpr ⟨⟨d, d', w, w'⟩, fun _ m => nomatch m⟩, (fun _ m => nomatch m), (fun _ m => nomatch m), .inr (.inr ⟨_, List.mem_cons_self, rfl, rfl⟩)⟩, fun e => List.forall_mem_cons.mpr ⟨e, fun _ m => nomatch m⟩, by simp [esum], by simp [esum]⟩, x1.upd owk, e1, e2, e3⟩
  generalize hfr : setf _ 76 (AV.ref wk) = fr
  have V1' := V fr (by rw [← hfr]; exact a74) (by rw [← hfr]; rfl) (by rw [← hfr]; rfl)
  subst hL
  refine cons_step (whl_k2 (QI a ts fs h O t u x wk m) t.size V1' fun k σ V K again0 again1 fin0 => ?_)
  obtain ⟨⟨E, M, hw, hm', I, fw, hk, hs⟩, hx, f74, f76, f90⟩ := V
  have el := esum_len E
  have wl := wkV_len E
  simp only [wT_not, wT_cmp, wT_and, wT_and3, wT_or, wT_ite, wT_var, wT_bol, wT_sub, wT_call, wT_mth, wE_var, wE_glb, wE_int, wE_str, wE_bol, wE_neg, wE_not, wE_bin, wE_cmp, wE_and, wE_or, wE_ite, wE_sub, wE_slc, wE_atr, wE_tup, wE_lst, wE_dct, wE_call, wE_new, wE_mth, wE_bif, wE_app, wE_pop, wE_rev, wE_get, wE_sad, wE_cpr, wL_nil, wL_cons, f76, bif_len hw, cmp_eq, cmp_ne, cmp_lt, cmp_gt, cmp_le, cmp_ge, cmp_in, cmp_ni, lt1_int]
  refine ⟨by rw [wl]; unfold lim; omega, ?_⟩
  cases E with
  | nil =>
    exact q 0 _ hx ⟨fun _ => closed_all (fun _ _ => kidsP_eq) I.clo _ _ I.org, fun _ => rfl⟩
  | cons e E =>
    have hd : decide ((0 : Int) < ((wkV (e :: E)).length : Nat)) = true := decide_eq_true (by rw [wl]; simp)
    rw [hd]
    have eo := I.eok e List.mem_cons_self
    have W0 := W.ext hx
    have apw := W.apart owk
    have apm := W.apart om
    have tp := e.t.size_pos
    simp only [esum, List.length_cons] at hk hs el
    show wpS c (n + 4) _ ⟨σ.O, σ.fr⟩ K
    refine pair_head (n := n) (e := e) (E := E) ok C W0 apw hw (by omega) f74 f76 eo fun fr2 fj f79 f80 => ?_
    have g74 : fr2 74 = some (stoV a) := (fj 74 (by decide) (by decide)).trans f74
    have g76 : fr2 76 = some (.ref wk) := (fj 76 (by decide) (by decide)).trans f76
    have g90 : fr2 90 = some (psV x m (h.length + 1)) := (fj 90 (by decide) (by decide)).trans f90
    have W2 : World a ts fs h (up σ.O wk (.list (wkV E))) := W0.upd apw
    have x3 : Ext O (up σ.O wk (.list (wkV E))) := hx.upd owk
    have hw3 : up σ.O wk (.list (wkV E)) wk = some (.list (wkV E)) := up_at _ _ _
    have hm3 : up σ.O wk (.list (wkV E)) m = some (.set (setV (h.length + 1) M)) := (up_ne (Ne.symm wm)).trans hm'
    generalize up σ.O wk (.list (wkV E)) = O2 at *
    have eqE := esum_len E
    have fwE : t = u → ∀ e ∈ E, e.t = e.u := fun z e' m => fw z e' (List.mem_cons_of_mem _ m)
    rw [hZ]
    simp only [wS_nil, wS_cons, wS_asg, wS_asc, wS_asg2, wS_sat, wS_sit, wS_aug, wS_ex, wS_iff, wS_whl, wS_for, wS_ret, wS_cnt, wS_wild, wS_frz, wT_not, wT_cmp, wT_and, wT_and3, wT_or, wT_ite, wT_var, wT_bol, wT_sub, wT_call, wT_mth, wE_var, wE_glb, wE_int, wE_str, wE_bol, wE_neg, wE_not, wE_bin, wE_cmp, wE_and, wE_or, wE_ite, wE_sub, wE_slc, wE_atr, wE_tup, wE_lst, wE_dct, wE_call, wE_new, wE_mth, wE_bif, wE_app, wE_pop, wE_rev, wE_get, wE_sad, wE_cpr, wL_nil, wL_cons, f79, f80, g74, cmp_eq, cmp_ne, cmp_lt, cmp_gt, cmp_le, cmp_ge, cmp_in, cmp_ni, eqA_cl]
    by_cases epq : e.p = e.q
    · rw [decide_eq_true epq]
      have dq := eo.dq
      rw [← epq] at dq
      exact again1 (esum E) ⟨O2, fr2⟩ (by omega) ⟨⟨E, M, hw3, hm3, I.drop (fun _ _ z => z) (.inl (den_fun eo.dp dq eo.wp eo.wq)), fwE, rfl, by omega⟩, x3, g74, g76, g90⟩
    · rw [decide_eq_false epq]
      simp only [Bool.false_eq_true, if_false]
      refine k_compare_tops (n := n + 1) ok C W2 Y eo.dp eo.dq eo.wp eo.wq fun z hz => ?_
      have g86 : setf fr2 86 (.int z) 86 = some (.int z) := rfl
      have h74 : setf fr2 86 (.int z) 74 = some (stoV a) := g74
      have h76 : setf fr2 86 (.int z) 76 = some (.ref wk) := g76
      have h90 : setf fr2 86 (.int z) 90 = some (psV x m (h.length + 1)) := g90
      have h79 : setf fr2 86 (.int z) 79 = some (cl e.p) := f79
      have h80 : setf fr2 86 (.int z) 80 = some (cl e.q) := f80
      generalize setf fr2 86 (.int z) = fr3 at *
      simp only [wS_nil, wS_cons, wS_asg, wS_asc, wS_asg2, wS_sat, wS_sit, wS_aug, wS_ex, wS_iff, wS_whl, wS_for, wS_ret, wS_cnt, wS_wild, wS_frz, wT_not, wT_cmp, wT_and, wT_and3, wT_or, wT_ite, wT_var, wT_bol, wT_sub, wT_call, wT_mth, wE_var, wE_glb, wE_int, wE_str, wE_bol, wE_neg, wE_not, wE_bin, wE_cmp, wE_and, wE_or, wE_ite, wE_sub, wE_slc, wE_atr, wE_tup, wE_lst, wE_dct, wE_call, wE_new, wE_mth, wE_bif, wE_app, wE_pop, wE_rev, wE_get, wE_sad, wE_cpr, g86, eqA_int, Option.map_some]
      by_cases z0 : z = 0
      · rw [decide_eq_true z0]
        obtain ⟨ct, cu, fe⟩ := top_same (hz.mp z0) eo.dp eo.dq epq
        show wpS c (n + 4) C2 ⟨O2, fr3⟩ K
        rw [hC2]
        refine cp2_ok (n := n) ok C eo.dp ct h74 h79 (pt2_ok (n := n) ok C ⟨W2, apw, apm, wm, hw3, hm3, h74, h76, h79, h80, h90⟩ eo.dp eo.dq eo.wp ct cu fe eo.wq I (by omega) fun O3 E3 M3 x4 hw4 hm4 I3 fw3 l1 l2 => ?_)
        have x5 : Ext O O3 := fun b hb => by
          have b1 : b ≠ wk := fun e => by rw [e, owk] at hb; cases hb
          have b2 : b ≠ m := fun e => by rw [e, om] at hb; cases hb
          have := x3 b hb
          rw [x4 b (by simp [b1, b2]) (by rw [this]; exact hb), this]
        exact again0 (esum E3) _ (by omega) ⟨⟨E3, M3, hw4, hm4, I3, fun z => fw3 _ eq_FwOk.toS (fwE z) (fw z e List.mem_cons_self), rfl, by omega⟩, x5, h74, h76, h90⟩
      · rw [decide_eq_false z0]
        simp only [Bool.not_false, if_true]
        exact fin0 _ _ (q z _ x3 ⟨fun e => absurd e z0, fun tu => absurd (hz.mpr (by rw [fw tu e List.mem_cons_self]; exact topEq.refl _)) z0⟩)
end
end Mine

namespace Mine

noncomputable def vars : T → List Nat
  | .v n => [n]
  | .a _ => []
  | .i _ => []
  | .s1 _ x => vars x
  | .s2 _ x y => vars x ++ vars y
structure En where
  p : Nat × Nat
  t : T
noncomputable def nsum : List En → Nat
  | [] => 0
  | e :: r => e.t.size + nsum r
theorem nsum_len : ∀ E : List En, E.length ≤ nsum E
  | [] => Nat.le_refl _
  | e :: r => by have := nsum_len r; have := e.t.size_pos; simp [nsum]; omega
noncomputable def wnV (E : List En) : List AV := E.reverse.map fun e => cl e.p
theorem wnV_cons (e : En) (E : List En) : wnV (e :: E) = wnV E ++ [cl e.p] := by unfold wnV; simp
theorem wnV_len (E : List En) : (wnV E).length = E.length := by unfold wnV; simp
noncomputable def adr' (e : En) : Int := (e.p.2 : Int)
noncomputable def seV (M : List En) : List Int := (M.map adr').reverse
theorem seV_cons (e : En) (M : List En) : seV (e :: M) = seV M ++ [adr' e] := by unfold seV; simp
theorem seV_len (M : List En) : (seV M).length = M.length := by unfold seV; simp

section
variable {c : Cx} {n : Nat} {a : SA} {ts : List Str} {fs : List (Nat × Nat)} {h : Hp} {O O' : Objs} {Q : AV → Objs → Prop}

theorem k_identical (ok : c.Ok) (C : Code c.K) (W : World a ts fs h O) (S : Sy ts fs) {p p' : Nat × Nat} {t u : T} (d : den h p t) (d' : den h p' u) (w : wf ts fs t) (w' : wf ts fs u) (sz : t.size < 1000)
    (q : ∀ O', Ext O O' → Q (.bool (decide (t = u))) O') : CallOK c (n + 6) 473 [stoV a, cl p, cl p'] O Q := by
  refine fn_call ok C.identical C.b_identical rfl (fun _ => .nil) ?_
  unfold ir_identical
  simp [wS_nil, wS_cons, wS_asg, wS_asc, wS_asg2, wS_sat, wS_sit, wS_aug, wS_ex, wS_iff, wS_whl, wS_for, wS_ret, wS_cnt, wS_wild, wS_frz, wE_var, wE_glb, wE_int, wE_str, wE_bol, wE_neg, wE_not, wE_bin, wE_cmp, wE_and, wE_or, wE_ite, wE_sub, wE_slc, wE_atr, wE_tup, wE_lst, wE_dct, wE_call, wE_new, wE_mth, wE_bif, wE_app, wE_pop, wE_rev, wE_get, wE_sad, wE_cpr, wL_nil, wL_cons, setf, lk]
  refine k_compare ok C W S d d' w w' sz fun z O' x hz => ?_
  simp [cmp_eq, cmp_ne, cmp_lt, cmp_gt, cmp_le, cmp_ge, cmp_in, cmp_ni, eqA_int]
  have : decide (z = 0) = decide (t = u) := by simp [hz]
  rw [this]
  exact q O' x

theorem ext_none {O O1 : Objs} (x : Ext O O1) {b : Addr} (e : O1 b = none) : O b = none := by
  cases z : O b with
  | none => rfl
  | some mo => rw [x.get z] at e; cases e


/-- a cell is taken from the list, and followed -/
theorem cell_head (ok : c.Ok) (C : Code c.K) {T : S} {σ : St} {K : Fl → St → Prop} {L : List AV} {p : Nat × Nat} {wk : Addr} (W : World a ts fs h σ.O) (awk : Apart a wk) (hw : σ.O wk = some (.list (L ++ [cl p]))) (hl : L.length < 80000) (f74 : σ.fr 74 = some (stoV a)) (f76 : σ.fr 76 = some (.ref wk)) (hp : CK h p)
    (q : wpS c (n + 4) T ⟨up σ.O wk (.list L), setf σ.fr 75 (cl p)⟩ K) : wpS c (n + 4) (.cons (.asg 75 (.mth (.var 74) 52 373 229 (.cons (.pop (.var 76)) .nil))) T) σ K := by
  simp only [wS_nil, wS_cons, wS_asg, wS_asc, wS_asg2, wS_sat, wS_sit, wS_aug, wS_ex, wS_iff, wS_whl, wS_for, wS_ret, wS_cnt, wS_wild, wS_frz, wE_var, wE_glb, wE_int, wE_str, wE_bol, wE_neg, wE_not, wE_bin, wE_cmp, wE_and, wE_or, wE_ite, wE_sub, wE_slc, wE_atr, wE_tup, wE_lst, wE_dct, wE_call, wE_new, wE_mth, wE_bif, wE_app, wE_pop, wE_rev, wE_get, wE_sad, wE_cpr, wL_nil, wL_cons, f74, f76, popA_snoc hw]
  refine ⟨rfl, rfl, by simp [lim]; omega, ?_⟩
  show CallOK c (n + 3 + 1) 229 [stoV a, cl p] _ _
  exact k_deref (n := n + 3) ok C (W.upd awk) hp q

structure WI (a : SA) (ts : List Str) (fs : List (Nat × Nat)) (h : Hp) (O : Objs) (t : T) (fd nd mt wk : Addr) (k : Nat) (σ : St) : Prop where
  ex : ∃ (E : List En) (l : List Nat) (N M : List Int), σ.O wk = some (.list (wnV E)) ∧ σ.O mt = some (.set M) ∧ σ.O nd = some (.set N) ∧ σ.O fd = some (.list (l.map fun n => cl (0, n))) ∧
    (∀ e ∈ E, den h e.p e.t ∧ wf ts fs e.t ∧ ∀ n ∈ vars e.t, n ∈ vars t) ∧ (∀ n ∈ l, n ∈ vars t) ∧ k = nsum E ∧ M.length + N.length + l.length + 2 * nsum E ≤ 2 * t.size
  ext : Ext O σ.O
  f74 : σ.fr 74 = some (stoV a)
  f76 : σ.fr 76 = some (.ref wk)
  f90 : σ.fr 90 = some (.ref mt)
  f91 : σ.fr 91 = some (.ref fd)
  f92 : σ.fr 92 = some (.ref nd)
noncomputable def vr1 : S := (.cons (.iff (.cmp .NotIn (.sub (.var 75) (.int 1)) (.var 92)) (.cons (.ex (.sad (.var 92) (.sub (.var 75) (.int 1))))
 (.cons (.ex (.app (.var 91) (.var 75)))
 .nil)) .nil)
 .nil)
theorem vr1_ok {fd nd : Addr} {l : List Nat} {N : List Int} {k1 : Nat} {fr : Nat → Option AV} {K : Fl → St → Prop} (ne : fd ≠ nd) (hn : O nd = some (.set N)) (hf : O fd = some (.list (l.map fun n => cl (0, n)))) (lN : N.length < 4000) (ll : l.length < 4000)
    (f75 : fr 75 = some (cl (0, k1))) (f91 : fr 91 = some (.ref fd)) (f92 : fr 92 = some (.ref nd))
    (old : K .next ⟨O, fr⟩) (new : K .next ⟨up (up O nd (.set (N ++ [(k1 : Int)]))) fd (.list ((l ++ [k1]).map fun n => cl (0, n))), fr⟩) : wpS c n vr1 ⟨O, fr⟩ K := by
  unfold vr1
  rw [nil_tail]
  simp only [wS_nil, wS_cons, wS_asg, wS_asc, wS_asg2, wS_sat, wS_sit, wS_aug, wS_ex, wS_iff, wS_whl, wS_for, wS_ret, wS_cnt, wS_wild, wS_frz, wT_not, wT_cmp, wT_and, wT_and3, wT_or, wT_ite, wT_var, wT_bol, wT_sub, wT_call, wT_mth, wE_var, wE_glb, wE_int, wE_str, wE_bol, wE_neg, wE_not, wE_bin, wE_cmp, wE_and, wE_or, wE_ite, wE_sub, wE_slc, wE_atr, wE_tup, wE_lst, wE_dct, wE_call, wE_new, wE_mth, wE_bif, wE_app, wE_pop, wE_rev, wE_get, wE_sad, wE_cpr, f75, f91, f92, sub_cl1, cmp_eq, cmp_ne, cmp_lt, cmp_gt, cmp_le, cmp_ge, cmp_in, cmp_ni, inA_set hn, Option.map_some]
  cases hc : N.contains (k1 : Int) with
  | true => simpa using old
  | false =>
    have hf2 := (up_ne (O := O) (m := .set (N ++ [(k1 : Int)])) ne).trans hf
    simp only [Bool.not_false, if_true, setA_ref hn, sadA_ref hn, hc, Bool.false_eq_true, if_false, lstA_ref hf2, appA_ref hf2]
    refine ⟨trivial, lN, trivial, by simp [lim]; omega, ?_⟩
    rw [List.map_append] at new
    exact new

theorem k_variables (ok : c.Ok) (C : Code c.K) (W : World a ts fs h O) {p : Nat × Nat} {t : T} (d : den h p t) (w : wf ts fs t) (sz : t.size < 1000)
    (q : ∀ fd (l : List Nat) O', Ext O O' → O fd = none → O' fd = some (.list (l.map fun n => cl (0, n))) → (∀ n ∈ l, n ∈ vars t) → l.length < 2000 → Q (.ref fd) O') : CallOK c (n + 5) 480 [stoV a, cl p] O Q := by
  refine fn_call ok C.variables C.b_variables rfl (fun _ => .nil) ?_
  obtain ⟨V1, hV1⟩ : ∃ Z, Z = vr1 := ⟨_, rfl⟩
  obtain ⟨G3, hG3⟩ : ∃ Z, Z = gr3 := ⟨_, rfl⟩
  obtain ⟨Z, hZ⟩ : ∃ Z, Z = S.cons (.iff (.cmp .Eq (.sub (.var 75) (.int 0)) (.glb 41 0)) V1 G3) .nil := ⟨_, rfl⟩
  obtain ⟨L, hL⟩ : ∃ L, L = (S.cons (.whl (.cmp .Gt (.bif .len (.cons (.var 76) .nil)) (.int 0)) (.cons (.asg 75 (.mth (.var 74) 52 373 229 (.cons (.pop (.var 76)) .nil))) Z)) (.cons (.ret (.var 91)) .nil)) := ⟨_, rfl⟩
  rw [show ir_variables = (.cons (.asg 91 (.lst .nil)) (.cons (.asg 92 (.bif .set .nil)) (.cons (.asg 90 (.bif .set .nil)) (.cons (.asg 76 (.lst (.cons (.mth (.var 74) 56 373 257 (.cons (.var 75) .nil)) .nil))) L)))) by rw [hL, hZ, hV1, hG3]; rfl]
  generalize hfr0 : (lk (([74, 75] : List Nat).zip _)) = fr0
  have a74 : fr0 74 = some (stoV a) := by rw [← hfr0]; rfl
  have a75 : fr0 75 = some (cl p) := by rw [← hfr0]; rfl
  simp [wS_nil, wS_cons, wS_asg, wS_asc, wS_asg2, wS_sat, wS_sit, wS_aug, wS_ex, wS_iff, wS_whl, wS_for, wS_ret, wS_cnt, wS_wild, wS_frz, wE_var, wE_glb, wE_int, wE_str, wE_bol, wE_neg, wE_not, wE_bin, wE_cmp, wE_and, wE_or, wE_ite, wE_sub, wE_slc, wE_atr, wE_tup, wE_lst, wE_dct, wE_call, wE_new, wE_mth, wE_bif, wE_app, wE_pop, wE_rev, wE_get, wE_sad, wE_cpr, wL_nil, wL_cons, setf, newM, bif_set, a74, a75]
  intro fd hfd nd hnd mt hmt
  have nd_fd : nd ≠ fd := fun e => by rw [e, up_at] at hnd; cases hnd
  have ond : O nd = none := by rwa [up_ne nd_fd] at hnd
  have mt_nd : mt ≠ nd := fun e => by rw [e, up_at] at hmt; cases hmt
  have mt_fd : mt ≠ fd := fun e => by rw [e, up_ne (Ne.symm nd_fd), up_at] at hmt; cases hmt
  have omt : O mt = none := by rwa [up_ne mt_nd, up_ne mt_fd] at hmt
  have x0 : Ext O (up (up (up O fd (.list [])) nd (.set [])) mt (.set [])) := ((Ext.new hfd).upd ond).upd omt
  have h1 : up (up (up O fd (.list [])) nd (.set [])) mt (.set []) fd = some (.list []) := (up_ne (Ne.symm mt_fd)).trans ((up_ne (Ne.symm nd_fd)).trans (up_at _ _ _))
  have h2 : up (up (up O fd (.list [])) nd (.set [])) mt (.set []) nd = some (.set []) := (up_ne (Ne.symm mt_nd)).trans (up_at _ _ _)
  have h3 : up (up (up O fd (.list [])) nd (.set [])) mt (.set []) mt = some (.set []) := up_at _ _ _
  generalize up (up (up O fd (.list [])) nd (.set [])) mt (.set []) = O1 at *
  simp only [stoV]
  refine ⟨trivial, rfl, ?_⟩
  show CallOK c (n + 2 + 2) 257 [stoV a, cl p] O1 _
  refine k_globalise (n := n + 2) ok C (W.ext x0) (den_CK d) ?_
  intro wk hwk
  have wk_mt : wk ≠ mt := fun e => by rw [e, h3] at hwk; cases hwk
  have wk_nd : wk ≠ nd := fun e => by rw [e, h2] at hwk; cases hwk
  have wk_fd : wk ≠ fd := fun e => by rw [e, h1] at hwk; cases hwk
  have owk : O wk = none := ext_none x0 hwk
  have V : ∀ fr : Nat → Option AV, fr 74 = some (stoV a) → fr 76 = some (.ref wk) → fr 90 = some (.ref mt) → fr 91 = some (.ref fd) → fr 92 = some (.ref nd) → WI a ts fs h O t fd nd mt wk t.size ⟨up O1 wk (.list [cl p]), fr⟩ := fun fr e1 e2 e3 e4 e5 =>
    ⟨⟨[⟨p, t⟩], [], [], [], up_at _ _ _, (up_ne (Ne.symm wk_mt)).trans h3, (up_ne (Ne.symm wk_nd)).trans h2, (up_ne (Ne.symm wk_fd)).trans h1, List.forall_mem_cons.mpr ⟨⟨d, w, fun _ m => m⟩, fun _ m => nomatch m⟩, (fun _ m => nomatch m), by simp [nsum], by simp [nsum]⟩, x0.upd owk, e1, e2, e3, e4, e5⟩
  generalize hfr : setf _ 76 (AV.ref wk) = fr
  have V1' := V fr (by rw [← hfr]; exact a74) (by rw [← hfr]; rfl) (by rw [← hfr]; rfl) (by rw [← hfr]; rfl) (by rw [← hfr]; rfl)
  subst hL
  refine cons_step (whl_k (WI a ts fs h O t fd nd mt wk) t.size V1' fun k σ V K again0 fin0 => ?_)
  obtain ⟨⟨E, l, N, M, hw, hm, hn, hf, I, lv, hk, hs⟩, hx, f74, f76, f90, f91, f92⟩ := V
  have el := nsum_len E
  have wl := wnV_len E
  simp only [wT_not, wT_cmp, wT_and, wT_and3, wT_or, wT_ite, wT_var, wT_bol, wT_sub, wT_call, wT_mth, wE_var, wE_glb, wE_int, wE_str, wE_bol, wE_neg, wE_not, wE_bin, wE_cmp, wE_and, wE_or, wE_ite, wE_sub, wE_slc, wE_atr, wE_tup, wE_lst, wE_dct, wE_call, wE_new, wE_mth, wE_bif, wE_app, wE_pop, wE_rev, wE_get, wE_sad, wE_cpr, wL_nil, wL_cons, f76, bif_len hw, cmp_eq, cmp_ne, cmp_lt, cmp_gt, cmp_le, cmp_ge, cmp_in, cmp_ni, lt1_int]
  refine ⟨by rw [wl]; unfold lim; omega, ?_⟩
  cases E with
  | nil =>
    rw [show decide ((0 : Int) < ((wnV []).length : Nat)) = false from rfl]
    simp only [Bool.false_eq_true, if_false, wS_nil, wS_cons, wS_asg, wS_asc, wS_asg2, wS_sat, wS_sit, wS_aug, wS_ex, wS_iff, wS_whl, wS_for, wS_ret, wS_cnt, wS_wild, wS_frz, wE_var, wE_glb, wE_int, wE_str, wE_bol, wE_neg, wE_not, wE_bin, wE_cmp, wE_and, wE_or, wE_ite, wE_sub, wE_slc, wE_atr, wE_tup, wE_lst, wE_dct, wE_call, wE_new, wE_mth, wE_bif, wE_app, wE_pop, wE_rev, wE_get, wE_sad, wE_cpr, f91]
    exact q fd l _ hx hfd hf lv (by simp only [nsum] at hs; omega)
  | cons e E =>
    have hd : decide ((0 : Int) < ((wnV (e :: E)).length : Nat)) = true := decide_eq_true (by rw [wl]; simp)
    rw [hd]
    obtain ⟨de, we, ve⟩ := I e List.mem_cons_self
    have IE : ∀ e ∈ E, den h e.p e.t ∧ wf ts fs e.t ∧ ∀ n ∈ vars e.t, n ∈ vars t := fun e' m => I e' (List.mem_cons_of_mem _ m)
    rw [wnV_cons] at hw
    have tp := e.t.size_pos
    simp only [nsum, List.length_cons] at hk hs el
    have eqE := nsum_len E
    have wlE := wnV_len E
    have apw := W.apart owk
    have apm := W.apart omt
    show wpS c (n + 4) _ ⟨σ.O, σ.fr⟩ K
    refine cell_head (n := n) ok C (W.ext hx) apw hw (by omega) f74 f76 (den_CK de) ?_
    have W2 : World a ts fs h (up σ.O wk (.list (wnV E))) := (W.ext hx).upd apw
    have x2 : Ext O (up σ.O wk (.list (wnV E))) := hx.upd owk
    have hw3 : up σ.O wk (.list (wnV E)) wk = some (.list (wnV E)) := up_at _ _ _
    have hm3 := (up_ne (O := σ.O) (m := .list (wnV E)) (Ne.symm wk_mt)).trans hm
    have hn3 := (up_ne (O := σ.O) (m := .list (wnV E)) (Ne.symm wk_nd)).trans hn
    have hf3 := (up_ne (O := σ.O) (m := .list (wnV E)) (Ne.symm wk_fd)).trans hf
    generalize up σ.O wk (.list (wnV E)) = O2 at *
    have g75 : setf σ.fr 75 (cl e.p) 75 = some (cl e.p) := rfl
    have g74 : setf σ.fr 75 (cl e.p) 74 = some (stoV a) := f74
    have g76 : setf σ.fr 75 (cl e.p) 76 = some (.ref wk) := f76
    have g90 : setf σ.fr 75 (cl e.p) 90 = some (.ref mt) := f90
    have g91 : setf σ.fr 75 (cl e.p) 91 = some (.ref fd) := f91
    have g92 : setf σ.fr 75 (cl e.p) 92 = some (.ref nd) := f92
    generalize setf σ.fr 75 (cl e.p) = fr2 at *
    have stay : K .next ⟨O2, fr2⟩ := again0 (nsum E) _ (by omega) ⟨⟨E, l, N, M, hw3, hm3, hn3, hf3, IE, lv, rfl, by omega⟩, x2, g74, g76, g90, g91, g92⟩
    rw [hZ, nil_tail]
    simp only [wS_nil, wS_cons, wS_asg, wS_asc, wS_asg2, wS_sat, wS_sit, wS_aug, wS_ex, wS_iff, wS_whl, wS_for, wS_ret, wS_cnt, wS_wild, wS_frz, wT_not, wT_cmp, wT_and, wT_and3, wT_or, wT_ite, wT_var, wT_bol, wT_sub, wT_call, wT_mth, wE_var, wE_glb, wE_int, wE_str, wE_bol, wE_neg, wE_not, wE_bin, wE_cmp, wE_and, wE_or, wE_ite, wE_sub, wE_slc, wE_atr, wE_tup, wE_lst, wE_dct, wE_call, wE_new, wE_mth, wE_bif, wE_app, wE_pop, wE_rev, wE_get, wE_sad, wE_cpr, g75, sub_cl0, cmp_eq, cmp_ne, cmp_lt, cmp_gt, cmp_le, cmp_ge, cmp_in, cmp_ni, eqA_int]
    by_cases hv : ∃ k, e.t = .v k
    · obtain ⟨k1, et⟩ := hv
      have ep : e.p = (0, k1) := by rw [et] at de; exact de.1
      rw [ep]
      show wpS c (n + 4) V1 ⟨O2, fr2⟩ K
      rw [hV1]
      refine vr1_ok (Ne.symm nd_fd) hn3 hf3 (by omega) (by omega) (by rw [g75, ep]) g91 g92 stay ?_
      refine again0 (nsum E) _ (by omega) ⟨⟨E, l ++ [k1], N ++ [(k1 : Int)], M, (up_ne wk_fd).trans ((up_ne wk_nd).trans hw3), (up_ne mt_fd).trans ((up_ne mt_nd).trans hm3), (up_ne nd_fd).trans (up_at _ _ _), up_at _ _ _, IE, fun n' m => ?_, rfl, by simp only [List.length_append, List.length_cons, List.length_nil]; omega⟩, (x2.upd ond).upd hfd, g74, g76, g90, g91, g92⟩
      rcases List.mem_append.mp m with q | q
      · exact lv n' q
      · simp at q; subst q; exact ve _ (by rw [et]; simp [vars])
    · have dv : decide ((e.p.1 : Int) = 0) = false := decide_eq_false fun z => by
        cases ht : e.t with
        | v k => exact hv ⟨k, ht⟩
        | a k => rw [ht] at de; rw [show e.p = (4, k) from de] at z; cases z
        | i k => rw [ht] at de; rw [show e.p = (5, k) from de] at z; cases z
        | s1 f x => rw [ht] at de; obtain ⟨b, q, e1, _⟩ := de; rw [e1] at z; cases z
        | s2 f x y => rw [ht] at de; obtain ⟨b, q, r, e1, _⟩ := de; rw [e1] at z; cases z
      rw [dv]
      show wpS c (n + 4) G3 ⟨O2, fr2⟩ K
      rw [hG3]
      refine gr3_ok (n := n) ok C W2 wk_mt apw apm hw3 hm3 (by omega) (by omega) g74 g76 g90 g75 de we (fun _ => stay) (fun _ _ _ => stay) (fun f x q1 et p1 dq wq => ?_) (fun f x y q1 r1 et p1 dq dr wq wr => ?_)
      · rw [et] at hk hs ve
        simp only [T.size] at hk hs
        exact again0 (nsum (⟨q1, x⟩ :: E)) _ (by simp only [nsum]; omega) ⟨⟨⟨q1, x⟩ :: E, l, N, M ++ [(e.p.2 : Int)], by rw [wnV_cons]; exact up_at _ _ _, (up_ne (Ne.symm wk_mt)).trans (up_at _ _ _), (up_ne (Ne.symm wk_nd)).trans ((up_ne (Ne.symm mt_nd)).trans hn3), (up_ne (Ne.symm wk_fd)).trans ((up_ne (Ne.symm mt_fd)).trans hf3), List.forall_mem_cons.mpr ⟨⟨dq, wq, ve⟩, IE⟩, lv, rfl, by simp only [nsum, List.length_append, List.length_cons, List.length_nil]; omega⟩, (x2.upd omt).upd owk, g74, g76, g90, g91, g92⟩
      · rw [et] at hk hs ve
        simp only [T.size] at hk hs
        exact again0 (nsum (⟨q1, x⟩ :: ⟨r1, y⟩ :: E)) _ (by simp only [nsum]; omega) ⟨⟨⟨q1, x⟩ :: ⟨r1, y⟩ :: E, l, N, M ++ [(e.p.2 : Int)], by rw [wnV_cons, wnV_cons, List.append_assoc]; exact up_at _ _ _, (up_ne (Ne.symm wk_mt)).trans (up_at _ _ _), (up_ne (Ne.symm wk_nd)).trans ((up_ne (Ne.symm mt_nd)).trans hn3), (up_ne (Ne.symm wk_fd)).trans ((up_ne (Ne.symm mt_fd)).trans hf3), List.forall_mem_cons.mpr ⟨⟨dq, wq, fun n m => ve n (List.mem_append_left _ m)⟩, List.forall_mem_cons.mpr ⟨⟨dr, wr, fun n m => ve n (List.mem_append_right _ m)⟩, IE⟩⟩, lv, rfl, by simp only [nsum, List.length_append, List.length_cons, List.length_nil]; omega⟩, (x2.upd omt).upd owk, g74, g76, g90, g91, g92⟩
end
end Mine

namespace Mine

noncomputable def wgV (E : List Ent) : List AV := E.reverse.map fun e => cl e.p
theorem wgV_cons (e : Ent) (E : List Ent) : wgV (e :: E) = wgV E ++ [cl e.p] := by unfold wgV; simp
theorem wgV_len (E : List Ent) : (wgV E).length = E.length := by unfold wgV; simp
noncomputable def sgV (M : List Ent) : List Int := (M.map fun m => (m.p.2 : Int)).reverse
theorem sgV_cons (e : Ent) (M : List Ent) : sgV (e :: M) = sgV M ++ [(e.p.2 : Int)] := by unfold sgV; simp
theorem sgV_len (M : List Ent) : (sgV M).length = M.length := by unfold sgV; simp
noncomputable def Rg : T → T → Prop := fun t u => t = u ∧ vars t = []
theorem kidsP_g {t u : T} (k : kidsP Rg t u) : Rg t u := by
  cases t <;> cases u <;> simp [kidsP, Rg] at k
  · obtain ⟨rfl, rfl, h⟩ := k; exact ⟨rfl, h⟩
  · obtain ⟨rfl, ⟨rfl, h⟩, rfl, h2⟩ := k; exact ⟨rfl, by simp [vars, h, h2]⟩

section
variable {c : Cx} {n : Nat} {a : SA} {ts : List Str} {fs : List (Nat × Nat)} {h : Hp} {O O' : Objs} {Q : AV → Objs → Prop}

theorem againG {E M : List Ent} {t u : T} {e : Ent} (I : CInv h ts fs Rg (e :: E) M t u) (same : ∀ m ∈ M, m.t = m.u) (es : e.t = e.u) (ep : e.p.1 = 2) (hc : ((e.p.2 : Int)) ∈ sgV M) : CInv h ts fs Rg E M t u := by
  refine I.drop (fun _ _ z => z) ?_
  obtain ⟨m, mm, e1⟩ := List.mem_map.mp (by simpa [sgV] using hc)
  obtain ⟨mo, mp, mq⟩ := I.mok m mm
  have eo := I.eok e List.mem_cons_self
  have p1 : m.p = e.p := Prod.ext (mp.trans ep.symm) (by omega)
  have dp := mo.dp; rw [p1] at dp
  have tt := den_fun dp eo.dp mo.wp eo.wp
  exact .inr (.inl ⟨m, mm, tt, by rw [← same m mm, tt, es]⟩)

structure GI (a : SA) (ts : List Str) (fs : List (Nat × Nat)) (h : Hp) (O : Objs) (t : T) (wk mt : Addr) (k : Nat) (σ : St) : Prop where
  ex : ∃ (E M : List Ent), σ.O wk = some (.list (wgV E)) ∧ σ.O mt = some (.set (sgV M)) ∧
    CInv h ts fs Rg E M t t ∧ (∀ e ∈ E, e.t = e.u ∧ e.p = e.q) ∧ (∀ m ∈ M, m.t = m.u) ∧ k = esum E ∧ M.length + esum E ≤ t.size
  ext : Ext O σ.O
  f74 : σ.fr 74 = some (stoV a)
  f76 : σ.fr 76 = some (.ref wk)
  f90 : σ.fr 90 = some (.ref mt)

theorem k_ground (ok : c.Ok) (C : Code c.K) (W : World a ts fs h O) {p : Nat × Nat} {t : T} (d : den h p t) (w : wf ts fs t) (sz : t.size < 1000)
    (q : ∀ b O', Ext O O' → (b = true → vars t = []) → Q (.bool b) O') : CallOK c (n + 5) 487 [stoV a, cl p] O Q := by
  refine fn_call ok C.ground C.b_ground rfl (fun _ => .nil) ?_
  obtain ⟨G3, hG3⟩ : ∃ Z, Z = gr3 := ⟨_, rfl⟩
  obtain ⟨Z, hZ⟩ : ∃ Z, Z = S.cons (.iff (.call 10 431 (.cons (.var 75) .nil)) (.cons (.ret (.bol false)) .nil) .nil) G3 := ⟨_, rfl⟩
  obtain ⟨L, hL⟩ : ∃ L, L = (S.cons (.whl (.cmp .Gt (.bif .len (.cons (.var 76) .nil)) (.int 0)) (.cons (.asg 75 (.mth (.var 74) 52 373 229 (.cons (.pop (.var 76)) .nil))) Z)) (.cons (.ret (.bol true)) .nil)) := ⟨_, rfl⟩
  rw [show ir_ground = (.cons (.asg 90 (.bif .set .nil)) (.cons (.asg 76 (.lst (.cons (.var 75) .nil))) L)) by rw [hL, hZ, hG3]; rfl]
  generalize hfr0 : (lk (([74, 75] : List Nat).zip _)) = fr0
  have a74 : fr0 74 = some (stoV a) := by rw [← hfr0]; rfl
  have a75 : fr0 75 = some (cl p) := by rw [← hfr0]; rfl
  simp [wS_nil, wS_cons, wS_asg, wS_asc, wS_asg2, wS_sat, wS_sit, wS_aug, wS_ex, wS_iff, wS_whl, wS_for, wS_ret, wS_cnt, wS_wild, wS_frz, wE_var, wE_glb, wE_int, wE_str, wE_bol, wE_neg, wE_not, wE_bin, wE_cmp, wE_and, wE_or, wE_ite, wE_sub, wE_slc, wE_atr, wE_tup, wE_lst, wE_dct, wE_call, wE_new, wE_mth, wE_bif, wE_app, wE_pop, wE_rev, wE_get, wE_sad, wE_cpr, wL_nil, wL_cons, setf, newM, bif_set, a74, a75]
  intro mt omt wk hwk
  have wk_mt : wk ≠ mt := fun e => by rw [e, up_at] at hwk; cases hwk
  have x0 : Ext O (up O mt (.set [])) := Ext.new omt
  have owk : O wk = none := ext_none x0 hwk
  have V : ∀ fr : Nat → Option AV, fr 74 = some (stoV a) → fr 76 = some (.ref wk) → fr 90 = some (.ref mt) → GI a ts fs h O t wk mt t.size ⟨up (up O mt (.set [])) wk (.list [cl p]), fr⟩ := fun fr e1 e2 e3 =>
    ⟨⟨[⟨p, p, t, t⟩], [], up_at _ _ _, (up_ne (Ne.symm wk_mt)).trans (up_at _ _ _), ⟨List.forall_mem_cons.mpr ⟨⟨d, d, w, w⟩, fun _ m => nomatch m⟩, (fun _ m => nomatch m), (fun _ m => nomatch m), .inr (.inr ⟨_, List.mem_cons_self, rfl, rfl⟩)⟩, List.forall_mem_cons.mpr ⟨⟨rfl, rfl⟩, fun _ m => nomatch m⟩, (fun _ m => nomatch m), by simp [esum], by simp [esum]⟩, x0.upd owk, e1, e2, e3⟩
  generalize hfr : setf _ 76 (AV.ref wk) = fr
  have V1' := V fr (by rw [← hfr]; exact a74) (by rw [← hfr]; rfl) (by rw [← hfr]; rfl)
  subst hL
  refine cons_step (whl_k (GI a ts fs h O t wk mt) t.size V1' fun k σ V K again0 fin0 => ?_)
  obtain ⟨⟨E, M, hw, hm, I, sE, sM, hk, hs⟩, hx, f74, f76, f90⟩ := V
  have el := esum_len E
  have wl := wgV_len E
  simp only [wT_not, wT_cmp, wT_and, wT_and3, wT_or, wT_ite, wT_var, wT_bol, wT_sub, wT_call, wT_mth, wE_var, wE_glb, wE_int, wE_str, wE_bol, wE_neg, wE_not, wE_bin, wE_cmp, wE_and, wE_or, wE_ite, wE_sub, wE_slc, wE_atr, wE_tup, wE_lst, wE_dct, wE_call, wE_new, wE_mth, wE_bif, wE_app, wE_pop, wE_rev, wE_get, wE_sad, wE_cpr, wL_nil, wL_cons, f76, bif_len hw, cmp_eq, cmp_ne, cmp_lt, cmp_gt, cmp_le, cmp_ge, cmp_in, cmp_ni, lt1_int]
  refine ⟨by rw [wl]; unfold lim; omega, ?_⟩
  cases E with
  | nil =>
    exact q true _ hx fun _ => (closed_all (fun _ _ => kidsP_g) I.clo _ _ I.org).2
  | cons e E =>
    have hd : decide ((0 : Int) < ((wgV (e :: E)).length : Nat)) = true := decide_eq_true (by rw [wl]; simp)
    rw [hd]
    have eo := I.eok e List.mem_cons_self
    obtain ⟨se, sp⟩ := sE e List.mem_cons_self
    have sE' : ∀ e ∈ E, e.t = e.u ∧ e.p = e.q := fun e' m => sE e' (List.mem_cons_of_mem _ m)
    rw [wgV_cons] at hw
    have tp := e.t.size_pos
    simp only [esum, List.length_cons] at hk hs el
    have eqE := esum_len E
    have wlE := wgV_len E
    have sl := sgV_len M
    have apw := W.apart owk
    have apm := W.apart omt
    show wpS c (n + 4) _ ⟨σ.O, σ.fr⟩ K
    refine cell_head (n := n) ok C (W.ext hx) apw hw (by omega) f74 f76 (den_CK eo.dp) ?_
    have W2 : World a ts fs h (up σ.O wk (.list (wgV E))) := (W.ext hx).upd apw
    have x2 : Ext O (up σ.O wk (.list (wgV E))) := hx.upd owk
    have hw3 : up σ.O wk (.list (wgV E)) wk = some (.list (wgV E)) := up_at _ _ _
    have hm3 := (up_ne (O := σ.O) (m := .list (wgV E)) (Ne.symm wk_mt)).trans hm
    generalize up σ.O wk (.list (wgV E)) = O2 at *
    have g75 : setf σ.fr 75 (cl e.p) 75 = some (cl e.p) := rfl
    have g74 : setf σ.fr 75 (cl e.p) 74 = some (stoV a) := f74
    have g76 : setf σ.fr 75 (cl e.p) 76 = some (.ref wk) := f76
    have g90 : setf σ.fr 75 (cl e.p) 90 = some (.ref mt) := f90
    generalize setf σ.fr 75 (cl e.p) = fr2 at *
    obtain ⟨ep, eq, et, eu⟩ := e
    dsimp only at *
    subst se sp
    have stay : Pt Rg E M et et → K .next ⟨O2, fr2⟩ := fun z => again0 (esum E) _ (by omega) ⟨⟨E, M, hw3, hm3, I.drop (fun _ _ z => z) z, sE', sM, rfl, by omega⟩, x2, g74, g76, g90⟩
    rw [hZ]
    simp only [wS_nil, wS_cons, wS_asg, wS_asc, wS_asg2, wS_sat, wS_sit, wS_aug, wS_ex, wS_iff, wS_whl, wS_for, wS_ret, wS_cnt, wS_wild, wS_frz, wT_not, wT_cmp, wT_and, wT_and3, wT_or, wT_ite, wT_var, wT_bol, wT_sub, wT_call, wT_mth, wL_nil, wL_cons, wE_var, wE_glb, wE_int, wE_str, wE_bol, wE_neg, wE_not, wE_bin, wE_cmp, wE_and, wE_or, wE_ite, wE_sub, wE_slc, wE_atr, wE_tup, wE_lst, wE_dct, wE_call, wE_new, wE_mth, wE_bif, wE_app, wE_pop, wE_rev, wE_get, wE_sad, wE_cpr, g75]
    refine k_is_variable (n := n + 3) (h := h) ok C (den_CK eo.dp) ?_
    by_cases h0 : ep.1 = 0
    · simp only [h0, decide_true, tru_bool, if_true]
      exact fin0 _ _ (q false _ x2 fun z => nomatch z)
    · simp only [h0, decide_false, tru_bool, Bool.false_eq_true, if_false]
      rw [hG3]
      refine gr3_ok (n := n) ok C W2 wk_mt apw apm hw3 hm3 (by omega) (by omega) g74 g76 g90 g75 eo.dp eo.wp (fun ce => stay (.inl ⟨rfl, ?_⟩)) (fun _ p1 hc => ?_) (fun f x q1 et' p1 dq wq => ?_) (fun f x y q1 r1 et' p1 dq dr wq wr => ?_)
      · cases et with
        | v k => exact absurd (congrArg Prod.fst (show ep = (0, k) from eo.dp.1)) h0
        | a k => rfl
        | i k => rfl
        | _ => cases ce
      · exact again0 (esum E) _ (by omega) ⟨⟨E, M, hw3, hm3, againG I sM rfl p1 hc, sE', sM, rfl, by omega⟩, x2, g74, g76, g90⟩
      · subst et'
        simp only [T.size] at hk hs
        exact again0 (esum (⟨q1, q1, x, x⟩ :: E)) _ (by simp only [esum]; omega) ⟨⟨⟨q1, q1, x, x⟩ :: E, ⟨ep, ep, .s1 f x, .s1 f x⟩ :: M, by rw [wgV_cons]; exact up_at _ _ _, by rw [sgV_cons]; exact (up_ne (Ne.symm wk_mt)).trans (up_at _ _ _), I.open1 rfl rfl p1 p1 dq dq, List.forall_mem_cons.mpr ⟨⟨rfl, rfl⟩, sE'⟩, List.forall_mem_cons.mpr ⟨rfl, sM⟩, rfl, by simp only [esum, List.length_cons]; omega⟩, (x2.upd omt).upd owk, g74, g76, g90⟩
      · subst et'
        simp only [T.size] at hk hs
        exact again0 (esum (⟨q1, q1, x, x⟩ :: ⟨r1, r1, y, y⟩ :: E)) _ (by simp only [esum]; omega) ⟨⟨⟨q1, q1, x, x⟩ :: ⟨r1, r1, y, y⟩ :: E, ⟨ep, ep, .s2 f x y, .s2 f x y⟩ :: M, by rw [wgV_cons, wgV_cons, List.append_assoc]; exact up_at _ _ _, by rw [sgV_cons]; exact (up_ne (Ne.symm wk_mt)).trans (up_at _ _ _), I.open2 rfl rfl p1 p1 dq dq dr dr, List.forall_mem_cons.mpr ⟨⟨rfl, rfl⟩, List.forall_mem_cons.mpr ⟨⟨rfl, rfl⟩, sE'⟩⟩, List.forall_mem_cons.mpr ⟨rfl, sM⟩, rfl, by simp only [esum, List.length_cons]; omega⟩, (x2.upd omt).upd owk, g74, g76, g90⟩
end
end Mine

namespace Mine

noncomputable def ren (ρ : Nat → Nat) : T → T
  | .v n => .v (ρ n)
  | .a k => .a k
  | .i k => .i k
  | .s1 f x => .s1 f (ren ρ x)
  | .s2 f x y => .s2 f (ren ρ x) (ren ρ y)
noncomputable def InjOn (ρ : Nat → Nat) (l : List Nat) : Prop := ∀ x ∈ l, ∀ y ∈ l, ρ x = ρ y → x = y
noncomputable def Var (t u : T) : Prop := ∃ ρ, ren ρ t = u ∧ InjOn ρ (vars t)

noncomputable def relV (F : List (Nat × Nat)) : T → T → Prop
  | .v x, .v y => (x, y) ∈ F
  | .a j, .a k => j = k
  | .i j, .i k => j = k
  | .s1 f x, .s1 g y => f = g ∧ relV F x y
  | .s2 f x x2, .s2 g y y2 => f = g ∧ relV F x y ∧ relV F x2 y2
  | _, _ => False
theorem relV.mono {F F' : List (Nat × Nat)} (k : ∀ p ∈ F, p ∈ F') : ∀ t u, relV F t u → relV F' t u
  | .v x, .v y, h => k _ h
  | .a j, .a k, h => h
  | .i j, .i k, h => h
  | .s1 f x, .s1 g y, h => ⟨h.1, relV.mono k _ _ h.2⟩
  | .s2 f x x2, .s2 g y y2, h => ⟨h.1, relV.mono k _ _ h.2.1, relV.mono k _ _ h.2.2⟩
theorem kidsP_v {F : List (Nat × Nat)} {t u : T} (k : kidsP (relV F) t u) : relV F t u := by
  cases t <;> cases u <;> first | exact k.elim | exact k
structure FInj (F : List (Nat × Nat)) : Prop where
  fn : ∀ x y z, (x, y) ∈ F → (x, z) ∈ F → y = z
  inj : ∀ x y z, (x, z) ∈ F → (y, z) ∈ F → x = y
noncomputable def look (F : List (Nat × Nat)) (x : Nat) : Nat := ((F.find? fun p => decide (p.1 = x)).map (·.2)).getD 0
theorem look_of {F : List (Nat × Nat)} (fn : ∀ x y z, (x, y) ∈ F → (x, z) ∈ F → y = z) {x y : Nat} (m : (x, y) ∈ F) : look F x = y := by
  unfold look
  cases e : F.find? fun p => decide (p.1 = x) with
  | none =>
    have := List.find?_eq_none.mp e (x, y) m
    simp at this
  | some p =>
    have h1 := List.find?_some e
    have h2 := List.mem_of_find?_eq_some e
    simp at h1
    obtain ⟨p1, p2⟩ := p
    subst h1
    exact fn _ _ _ h2 m
theorem rel_ren {F : List (Nat × Nat)} (fn : ∀ x y z, (x, y) ∈ F → (x, z) ∈ F → y = z) : ∀ t u, relV F t u → ren (look F) t = u ∧ ∀ n ∈ vars t, ∃ y, (n, y) ∈ F
  | .v x, .v y, h => ⟨by simp [ren, look_of fn h], fun n m => by simp [vars] at m; subst m; exact ⟨y, h⟩⟩
  | .a j, .a k, h => ⟨by rw [show j = k from h]; rfl, fun n m => by simp [vars] at m⟩
  | .i j, .i k, h => ⟨by rw [show j = k from h]; rfl, fun n m => by simp [vars] at m⟩
  | .s1 f x, .s1 g y, h => by
    obtain ⟨a, b⟩ := rel_ren fn x y h.2
    exact ⟨by rw [h.1]; simp [ren, a], b⟩
  | .s2 f x x2, .s2 g y y2, h => by
    obtain ⟨a, b⟩ := rel_ren fn x y h.2.1
    obtain ⟨a2, b2⟩ := rel_ren fn x2 y2 h.2.2
    refine ⟨by rw [h.1]; simp [ren, a, a2], fun n m => ?_⟩
    simp [vars] at m
    rcases m with m | m
    · exact b n m
    · exact b2 n m
theorem var_of_rel {F : List (Nat × Nat)} (I : FInj F) {t u : T} (h : relV F t u) : Var t u := by
  obtain ⟨a, b⟩ := rel_ren I.fn t u h
  refine ⟨look F, a, fun x mx y my e => ?_⟩
  obtain ⟨x', hx⟩ := b x mx
  obtain ⟨y', hy⟩ := b y my
  rw [look_of I.fn hx, look_of I.fn hy] at e
  subst e
  exact I.inj _ _ _ hx hy

noncomputable def fwV (F : List (Nat × Nat)) : List (Int × AV) := F.reverse.map fun p => ((p.1 : Int), AV.int p.2)
noncomputable def bwV (F : List (Nat × Nat)) : List (Int × AV) := F.reverse.map fun p => ((p.2 : Int), AV.int p.1)
theorem fwV_any {F : List (Nat × Nat)} {k : Nat} : (fwV F).any (fun p => decide (p.1 = (k : Int))) = true ↔ ∃ y, (k, y) ∈ F := by
  unfold fwV
  simp only [List.any_map, List.any_reverse, List.any_eq_true, Function.comp_apply, decide_eq_true_eq]
  constructor
  · rintro ⟨⟨x, y⟩, m, e⟩
    have : x = k := by have e : (x : Int) = k := e; omega
    subst this; exact ⟨y, m⟩
  · rintro ⟨y, m⟩; exact ⟨_, m, rfl⟩
theorem bwV_any {F : List (Nat × Nat)} {k : Nat} : (bwV F).any (fun p => decide (p.1 = (k : Int))) = true ↔ ∃ y, (y, k) ∈ F := by
  unfold bwV
  simp only [List.any_map, List.any_reverse, List.any_eq_true, Function.comp_apply, decide_eq_true_eq]
  constructor
  · rintro ⟨⟨x, y⟩, m, e⟩
    have : y = k := by have e : (y : Int) = k := e; omega
    subst this; exact ⟨x, m⟩
  · rintro ⟨y, m⟩; exact ⟨_, m, rfl⟩
theorem dput_new {l : List (Int × AV)} {k : Int} {v : AV} (h : l.any (fun p => decide (p.1 = k)) = false) : dput l k v = l ++ [(k, v)] := by
  unfold dput; rw [h]; rfl
theorem fwV_get {F : List (Nat × Nat)} (fn : ∀ x y z, (x, y) ∈ F → (x, z) ∈ F → y = z) {x y : Nat} (m : (x, y) ∈ F) : dget (fwV F) (x : Int) = some (.int y) := by
  unfold dget
  cases e : (fwV F).find? fun p => decide (p.1 = (x : Int)) with
  | none =>
    have := List.find?_eq_none.mp e ((x : Int), .int y) (by unfold fwV; exact List.mem_map.mpr ⟨(x, y), by simpa using m, rfl⟩)
    simp at this
  | some p =>
    have h1 := List.find?_some e
    have h2 := List.mem_of_find?_eq_some e
    simp at h1
    unfold fwV at h2
    obtain ⟨⟨a, b⟩, mm, rfl⟩ := List.mem_map.mp h2
    have : a = x := by have h1 : (a : Int) = x := h1; omega
    subst this
    have e2 : b = y := fn _ _ _ (List.mem_reverse.mp mm) m
    rw [e2]; rfl
theorem inA_dict {O : Objs} {m : Addr} {l : List (Int × AV)} (e : O m = some (.dictI l)) (k : Int) : inA O (.int k) (.ref m) = some (l.any fun p => decide (p.1 = k)) := by
  show inM (O m) k = _
  rw [e]; rfl
theorem sub_dict {O : Objs} {m : Addr} {l : List (Int × AV)} (e : O m = some (.dictI l)) (k : Int) : subA O (.ref m) (.int k) = dget l k := by
  show subM (O m) k = _
  rw [e]; rfl
theorem sit_dict {O : Objs} {m : Addr} {l : List (Int × AV)} (e : O m = some (.dictI l)) (k : Int) (x : AV) (Q : Objs → Prop) : sitA O (.ref m) (.int k) x Q = (l.length < lim ∧ Q (up O m (.dictI (dput l k x)))) := by
  show sitM (O m) (.int k) x (fun m' => Q (up O m m')) = _
  rw [e]; rfl
theorem fwV_len (F : List (Nat × Nat)) : (fwV F).length = F.length := by unfold fwV; simp
theorem bwV_len (F : List (Nat × Nat)) : (bwV F).length = F.length := by unfold bwV; simp

theorem relV_leaf {F : List (Nat × Nat)} {t : T} (nv : ∀ k, t ≠ .v k) (cf : isC t = false) : relV F t t := by
  cases t with
  | v k => exact absurd rfl (nv k)
  | a k => rfl
  | i k => rfl
  | _ => cases cf
theorem ren_FwOk (ρ : Nat → Nat) (V : List Nat) : FwOk fun t u => ren ρ t = u ∧ ∀ n ∈ vars t, n ∈ V :=
  ⟨fun k u z => z.1.symm, fun k u z => z.1.symm, fun f x u z => ⟨ren ρ x, z.1.symm, rfl, z.2⟩, fun f x x' u z => ⟨ren ρ x, ren ρ x', z.1.symm, ⟨rfl, fun n m => z.2 n (List.mem_append_left _ m)⟩, rfl, fun n m => z.2 n (List.mem_append_right _ m)⟩⟩

section
variable {c : Cx} {n : Nat} {a : SA} {ts : List Str} {fs : List (Nat × Nat)} {h : Hp} {O O' : Objs} {Q : AV → Objs → Prop}

structure VI (a : SA) (ts : List Str) (fs : List (Nat × Nat)) (h : Hp) (O : Objs) (t u : T) (x wk m fw bw : Addr) (k : Nat) (σ : St) : Prop where
  ex : ∃ E M F, σ.O wk = some (.list (wkV E)) ∧ σ.O m = some (.set (setV (h.length + 1) M)) ∧ σ.O fw = some (.dictI (fwV F)) ∧ σ.O bw = some (.dictI (bwV F)) ∧
    CInv h ts fs (relV F) E M t u ∧ FInj F ∧ (∀ ρ, ren ρ t = u → InjOn ρ (vars t) → (∀ e ∈ E, ren ρ e.t = e.u ∧ ∀ n ∈ vars e.t, n ∈ vars t) ∧ ∀ x y, (x, y) ∈ F → ρ x = y ∧ x ∈ vars t) ∧ k = esum E ∧ M.length + F.length + esum E ≤ t.size
  ext : Ext O σ.O
  f74 : σ.fr 74 = some (stoV a)
  f76 : σ.fr 76 = some (.ref wk)
  f90 : σ.fr 90 = some (psV x m (h.length + 1))
  f93 : σ.fr 93 = some (.ref fw)
  f94 : σ.fr 94 = some (.ref bw)

noncomputable def vv2 : S := (.cons (.iff (.or (.cmp .NotIn (.var 155) (.var 93)) (.cmp .NotEq (.sub (.var 93) (.var 155)) (.var 156))) (.cons (.ret (.bol false))
 .nil) .nil)
 .nil)
noncomputable def vv1 : S := (.cons (.sit (.var 93) (.var 155) (.var 156))
 (.cons (.sit (.var 94) (.var 156) (.var 155))
 .nil))
noncomputable def vv0 : S := (.cons (.asg 155 (.call 19 494 (.cons (.var 79) .nil)))
 (.cons (.asg 156 (.call 19 494 (.cons (.var 80) .nil)))
 (.cons (.iff (.and (.cmp .NotIn (.var 155) (.var 93)) (.cmp .NotIn (.var 156) (.var 94))) vv1 vv2)
 .nil)))
noncomputable def va1 : S := (.cons (.iff (.or (.call 10 431 (.cons (.var 79) .nil)) (.call 10 431 (.cons (.var 80) .nil))) (.cons (.ret (.bol false))
 .nil) pt0)
 .nil)
noncomputable def va0 : S := (.cons (.iff (.and (.call 10 431 (.cons (.var 79) .nil)) (.call 10 431 (.cons (.var 80) .nil))) vv0 va1)
 .nil)

/-- two variables meet -/
theorem vv0_ok (ok : c.Ok) (C : Code c.K) {fw bw : Addr} {F : List (Nat × Nat)} {k1 k2 : Nat} {fr : Nat → Option AV} {K : Fl → St → Prop} (FI : FInj F) (ne : bw ≠ fw) (hf : O fw = some (.dictI (fwV F))) (hb : O bw = some (.dictI (bwV F))) (hl : F.length < 80000)
    (f79 : fr 79 = some (cl (0, k1))) (f80 : fr 80 = some (cl (0, k2))) (f93 : fr 93 = some (.ref fw)) (f94 : fr 94 = some (.ref bw))
    (new : (¬ ∃ y, (k1, y) ∈ F) → (¬ ∃ y, (y, k2) ∈ F) → K .next ⟨up (up O fw (.dictI (fwV ((k1, k2) :: F)))) bw (.dictI (bwV ((k1, k2) :: F))), setf (setf fr 155 (.int k1)) 156 (.int k2)⟩)
    (old : (k1, k2) ∈ F → K .next ⟨O, setf (setf fr 155 (.int k1)) 156 (.int k2)⟩)
    (bad : (∃ y, (k1, y) ∈ F ∧ y ≠ k2) ∨ ((¬ ∃ y, (k1, y) ∈ F) ∧ ∃ y, (y, k2) ∈ F) → K (.ret (.bool false)) ⟨O, setf (setf fr 155 (.int k1)) 156 (.int k2)⟩) : wpS c (n + 4) vv0 ⟨O, fr⟩ K := by
  unfold vv0
  have g80 : ∀ z, setf fr 155 z 80 = some (cl (0, k2)) := fun _ => f80
  simp only [wS_nil, wS_cons, wS_asg, wS_asc, wS_asg2, wS_sat, wS_sit, wS_aug, wS_ex, wS_iff, wS_whl, wS_for, wS_ret, wS_cnt, wS_wild, wS_frz, wE_var, wE_glb, wE_int, wE_str, wE_bol, wE_neg, wE_not, wE_bin, wE_cmp, wE_and, wE_or, wE_ite, wE_sub, wE_slc, wE_atr, wE_tup, wE_lst, wE_dct, wE_call, wE_new, wE_mth, wE_bif, wE_app, wE_pop, wE_rev, wE_get, wE_sad, wE_cpr, wL_nil, wL_cons, f79]
  refine k_variable_number (n := n + 3) ok C rfl ?_
  simp only [wS_nil, wS_cons, wS_asg, wS_asc, wS_asg2, wS_sat, wS_sit, wS_aug, wS_ex, wS_iff, wS_whl, wS_for, wS_ret, wS_cnt, wS_wild, wS_frz, wE_var, wE_glb, wE_int, wE_str, wE_bol, wE_neg, wE_not, wE_bin, wE_cmp, wE_and, wE_or, wE_ite, wE_sub, wE_slc, wE_atr, wE_tup, wE_lst, wE_dct, wE_call, wE_new, wE_mth, wE_bif, wE_app, wE_pop, wE_rev, wE_get, wE_sad, wE_cpr, wL_nil, wL_cons, g80]
  refine k_variable_number (n := n + 3) ok C rfl ?_
  have g155 : setf (setf fr 155 (.int k1)) 156 (.int k2) 155 = some (.int k1) := rfl
  have g156 : setf (setf fr 155 (.int k1)) 156 (.int k2) 156 = some (.int k2) := rfl
  have g93 : setf (setf fr 155 (.int k1)) 156 (.int k2) 93 = some (.ref fw) := f93
  have g94 : setf (setf fr 155 (.int k1)) 156 (.int k2) 94 = some (.ref bw) := f94
  have fl := fwV_len F
  have bl := bwV_len F
  generalize setf (setf fr 155 (.int k1)) 156 (.int k2) = fr2 at *
  obtain ⟨V1, hV1⟩ : ∃ V, V = vv1 := ⟨_, rfl⟩
  obtain ⟨V2, hV2⟩ : ∃ V, V = vv2 := ⟨_, rfl⟩
  rw [← hV1, ← hV2]
  simp only [wS_nil, wS_cons, wS_asg, wS_asc, wS_asg2, wS_sat, wS_sit, wS_aug, wS_ex, wS_iff, wS_whl, wS_for, wS_ret, wS_cnt, wS_wild, wS_frz, wT_not, wT_cmp, wT_and, wT_and3, wT_or, wT_ite, wT_var, wT_bol, wT_sub, wT_call, wT_mth, wE_var, wE_glb, wE_int, wE_str, wE_bol, wE_neg, wE_not, wE_bin, wE_cmp, wE_and, wE_or, wE_ite, wE_sub, wE_slc, wE_atr, wE_tup, wE_lst, wE_dct, wE_call, wE_new, wE_mth, wE_bif, wE_app, wE_pop, wE_rev, wE_get, wE_sad, wE_cpr, g155, g156, g93, g94, cmp_eq, cmp_ne, cmp_lt, cmp_gt, cmp_le, cmp_ge, cmp_in, cmp_ni, inA_dict hf, inA_dict hb, Option.map_some]
  cases hA : (fwV F).any (fun p => decide (p.1 = (k1 : Int))) with
  | false =>
    have nA : ¬ ∃ y, (k1, y) ∈ F := fun z => by rw [fwV_any.mpr z] at hA; cases hA
    cases hB : (bwV F).any (fun p => decide (p.1 = (k2 : Int))) with
    | false =>
      have nB : ¬ ∃ y, (y, k2) ∈ F := fun z => by rw [bwV_any.mpr z] at hB; cases hB
      have hb4 : up O fw (.dictI (dput (fwV F) (k1 : Int) (.int k2))) bw = some (.dictI (bwV F)) := (up_ne ne).trans hb
      show wpS c (n + 4) V1 ⟨O, fr2⟩ _
      subst hV1
      simp only [vv1, wS_nil, wS_cons, wS_asg, wS_asc, wS_asg2, wS_sat, wS_sit, wS_aug, wS_ex, wS_iff, wS_whl, wS_for, wS_ret, wS_cnt, wS_wild, wS_frz, wE_var, wE_glb, wE_int, wE_str, wE_bol, wE_neg, wE_not, wE_bin, wE_cmp, wE_and, wE_or, wE_ite, wE_sub, wE_slc, wE_atr, wE_tup, wE_lst, wE_dct, wE_call, wE_new, wE_mth, wE_bif, wE_app, wE_pop, wE_rev, wE_get, wE_sad, wE_cpr, g155, g156, g93, g94, sit_dict hf, sit_dict hb4]
      refine ⟨by rw [fl]; unfold lim; omega, by rw [bl]; unfold lim; omega, ?_⟩
      have e1 : dput (fwV F) (k1 : Int) (.int k2) = fwV ((k1, k2) :: F) := by rw [dput_new hA]; unfold fwV; simp
      have e2 : dput (bwV F) (k2 : Int) (.int k1) = bwV ((k1, k2) :: F) := by rw [dput_new hB]; unfold bwV; simp
      rw [e1, e2]
      exact new nA nB
    | true =>
      show wpS c (n + 4) V2 ⟨O, fr2⟩ _
      subst hV2
      simp only [vv2, wS_nil, wS_cons, wS_asg, wS_asc, wS_asg2, wS_sat, wS_sit, wS_aug, wS_ex, wS_iff, wS_whl, wS_for, wS_ret, wS_cnt, wS_wild, wS_frz, wT_not, wT_cmp, wT_and, wT_and3, wT_or, wT_ite, wT_var, wT_bol, wT_sub, wT_call, wT_mth, wE_var, wE_glb, wE_int, wE_str, wE_bol, wE_neg, wE_not, wE_bin, wE_cmp, wE_and, wE_or, wE_ite, wE_sub, wE_slc, wE_atr, wE_tup, wE_lst, wE_dct, wE_call, wE_new, wE_mth, wE_bif, wE_app, wE_pop, wE_rev, wE_get, wE_sad, wE_cpr, g155, g93, cmp_eq, cmp_ne, cmp_lt, cmp_gt, cmp_le, cmp_ge, cmp_in, cmp_ni, inA_dict hf, hA, Option.map_some]
      exact bad (.inr ⟨nA, bwV_any.mp hB⟩)
  | true =>
    obtain ⟨y, my⟩ := fwV_any.mp hA
    show wpS c (n + 4) V2 ⟨O, fr2⟩ _
    subst hV2
    simp only [vv2, wS_nil, wS_cons, wS_asg, wS_asc, wS_asg2, wS_sat, wS_sit, wS_aug, wS_ex, wS_iff, wS_whl, wS_for, wS_ret, wS_cnt, wS_wild, wS_frz, wT_not, wT_cmp, wT_and, wT_and3, wT_or, wT_ite, wT_var, wT_bol, wT_sub, wT_call, wT_mth, wE_var, wE_glb, wE_int, wE_str, wE_bol, wE_neg, wE_not, wE_bin, wE_cmp, wE_and, wE_or, wE_ite, wE_sub, wE_slc, wE_atr, wE_tup, wE_lst, wE_dct, wE_call, wE_new, wE_mth, wE_bif, wE_app, wE_pop, wE_rev, wE_get, wE_sad, wE_cpr, g155, g156, g93, cmp_eq, cmp_ne, cmp_lt, cmp_gt, cmp_le, cmp_ge, cmp_in, cmp_ni, inA_dict hf, hA, Option.map_some, sub_dict hf, fwV_get FI.fn my, eqA_int]
    by_cases yk : y = k2
    · subst yk
      simpa [wS_nil, wS_cons, wS_asg, wS_asc, wS_asg2, wS_sat, wS_sit, wS_aug, wS_ex, wS_iff, wS_whl, wS_for, wS_ret, wS_cnt, wS_wild, wS_frz] using old my
    · have yk' : ¬ ((y : Int) = k2) := by omega
      simpa [yk', wS_nil, wS_cons, wS_asg, wS_asc, wS_asg2, wS_sat, wS_sit, wS_aug, wS_ex, wS_iff, wS_whl, wS_for, wS_ret, wS_cnt, wS_wild, wS_frz, wE_var, wE_glb, wE_int, wE_str, wE_bol, wE_neg, wE_not, wE_bin, wE_cmp, wE_and, wE_or, wE_ite, wE_sub, wE_slc, wE_atr, wE_tup, wE_lst, wE_dct, wE_call, wE_new, wE_mth, wE_bif, wE_app, wE_pop, wE_rev, wE_get, wE_sad, wE_cpr] using bad (.inl ⟨y, my, yk⟩)

/-- the branch behind the two lookups -/
theorem va0_ok (ok : c.Ok) (C : Code c.K) {p p' : Nat × Nat} {fr : Nat → Option AV} {K : Fl → St → Prop} {t u : T} (d : den h p t) (d' : den h p' u) (f79 : fr 79 = some (cl p)) (f80 : fr 80 = some (cl p'))
    (vv : ∀ k1 k2, t = .v k1 → u = .v k2 → p = (0, k1) → p' = (0, k2) → wpS c (n + 4) vv0 ⟨O, fr⟩ K)
    (bad : (∀ ρ : Nat → Nat, ren ρ t ≠ u) → K (.ret (.bool false)) ⟨O, fr⟩)
    (pt : (∀ k, t ≠ .v k) → wpS c (n + 4) pt0 ⟨O, fr⟩ K) : wpS c (n + 4) va0 ⟨O, fr⟩ K := by
  have z1 := den_CK d
  have z2 := den_CK d'
  have isv : ∀ {q : Nat × Nat} {w : T}, den h q w → (q.1 = 0 ↔ ∃ k, w = .v k ∧ q = (0, k)) := fun {q w} dd => by
    cases w with
    | v k => obtain ⟨rfl, _⟩ := dd; simp
    | a k => have dd : q = (4, k) := dd; subst dd; simp
    | i k => have dd : q = (5, k) := dd; subst dd; simp
    | s1 f x => obtain ⟨b, q1, rfl, _⟩ := dd; simp
    | s2 f x y => obtain ⟨b, q1, r, rfl, _⟩ := dd; simp
  obtain ⟨V0, hV0⟩ : ∃ V, V = vv0 := ⟨_, rfl⟩
  obtain ⟨V1, hV1⟩ : ∃ V, V = va1 := ⟨_, rfl⟩
  obtain ⟨P0, hP0⟩ : ∃ V, V = pt0 := ⟨_, rfl⟩
  unfold va0
  rw [nil_tail, ← hV0, ← hV1]
  rw [← hV0] at vv
  rw [← hP0] at pt
  simp only [wS_nil, wS_cons, wS_asg, wS_asc, wS_asg2, wS_sat, wS_sit, wS_aug, wS_ex, wS_iff, wS_whl, wS_for, wS_ret, wS_cnt, wS_wild, wS_frz, wT_not, wT_cmp, wT_and, wT_and3, wT_or, wT_ite, wT_var, wT_bol, wT_sub, wT_call, wT_mth, wL_nil, wL_cons, wE_var, wE_glb, wE_int, wE_str, wE_bol, wE_neg, wE_not, wE_bin, wE_cmp, wE_and, wE_or, wE_ite, wE_sub, wE_slc, wE_atr, wE_tup, wE_lst, wE_dct, wE_call, wE_new, wE_mth, wE_bif, wE_app, wE_pop, wE_rev, wE_get, wE_sad, wE_cpr, f79, f80]
  have e1 : V1 = .cons (.iff (.or (.call 10 431 (.cons (.var 79) .nil)) (.call 10 431 (.cons (.var 80) .nil))) (.cons (.ret (.bol false)) .nil) P0) .nil := by rw [hV1, hP0]; rfl
  refine k_is_variable (n := n + 3) (h := h) ok C z1 ?_
  by_cases h1 : p.1 = 0
  · obtain ⟨k1, rfl, rfl⟩ := (isv d).mp h1
    simp only [tru_bool, decide_true, if_true]
    refine k_is_variable (n := n + 3) (h := h) ok C z2 ?_
    by_cases h2 : p'.1 = 0
    · obtain ⟨k2, rfl, rfl⟩ := (isv d').mp h2
      simpa [tru_bool] using vv k1 k2 rfl rfl rfl rfl
    · simp only [tru_bool, h2, decide_false, Bool.false_eq_true, if_false]
      rw [e1, nil_tail]
      simp only [wS_nil, wS_cons, wS_asg, wS_asc, wS_asg2, wS_sat, wS_sit, wS_aug, wS_ex, wS_iff, wS_whl, wS_for, wS_ret, wS_cnt, wS_wild, wS_frz, wT_not, wT_cmp, wT_and, wT_and3, wT_or, wT_ite, wT_var, wT_bol, wT_sub, wT_call, wT_mth, wL_nil, wL_cons, wE_var, wE_glb, wE_int, wE_str, wE_bol, wE_neg, wE_not, wE_bin, wE_cmp, wE_and, wE_or, wE_ite, wE_sub, wE_slc, wE_atr, wE_tup, wE_lst, wE_dct, wE_call, wE_new, wE_mth, wE_bif, wE_app, wE_pop, wE_rev, wE_get, wE_sad, wE_cpr, f79, f80]
      refine k_is_variable (n := n + 3) (h := h) ok C z1 ?_
      simp only [tru_bool, decide_true, if_true]
      exact bad fun ρ e => h2 ((isv d').mpr ⟨ρ k1, e.symm, by rw [← e] at d'; exact d'.1⟩)
  · have nv : ∀ k, t ≠ .v k := fun k e => h1 (by rw [e] at d; rw [d.1])
    simp only [tru_bool, h1, decide_false, Bool.false_eq_true, if_false]
    rw [e1, nil_tail]
    simp only [wS_nil, wS_cons, wS_asg, wS_asc, wS_asg2, wS_sat, wS_sit, wS_aug, wS_ex, wS_iff, wS_whl, wS_for, wS_ret, wS_cnt, wS_wild, wS_frz, wT_not, wT_cmp, wT_and, wT_and3, wT_or, wT_ite, wT_var, wT_bol, wT_sub, wT_call, wT_mth, wL_nil, wL_cons, wE_var, wE_glb, wE_int, wE_str, wE_bol, wE_neg, wE_not, wE_bin, wE_cmp, wE_and, wE_or, wE_ite, wE_sub, wE_slc, wE_atr, wE_tup, wE_lst, wE_dct, wE_call, wE_new, wE_mth, wE_bif, wE_app, wE_pop, wE_rev, wE_get, wE_sad, wE_cpr, f79, f80]
    refine k_is_variable (n := n + 3) (h := h) ok C z1 ?_
    simp only [tru_bool, h1, decide_false, Bool.false_eq_true, if_false]
    refine k_is_variable (n := n + 3) (h := h) ok C z2 ?_
    by_cases h2 : p'.1 = 0
    · obtain ⟨k2, rfl, rfl⟩ := (isv d').mp h2
      simp only [tru_bool, decide_true, if_true]
      refine bad fun ρ e => ?_
      cases t <;> first | exact nv _ rfl | simp [ren] at e
    · simpa [tru_bool, h2] using pt nv

theorem k_variant (ok : c.Ok) (C : Code c.K) (W : World a ts fs h O) (Sy0 : Sy ts fs) {p p' : Nat × Nat} {t u : T} (d : den h p t) (d' : den h p' u) (w : wf ts fs t) (w' : wf ts fs u) (sz : t.size < 1000)
    (q : ∀ b O', Ext O O' → (b = true ↔ Var t u) → Q (.bool b) O') : CallOK c (n + 5) 501 [stoV a, cl p, cl p'] O Q := by
  refine fn_call ok C.variant C.b_variant rfl (fun _ => .nil) ?_
  obtain ⟨Z, hZ⟩ : ∃ Z, Z = va0 := ⟨_, rfl⟩
  rw [show ir_variant = (.cons (.asg 93 .dct) (.cons (.asg 94 .dct) (.cons (.asg 90 (.new 6 399 389 (.cons (.var 74) .nil))) (.cons (.asg 76 (.lst (.cons (.tup (.cons (.var 88) (.cons (.var 89) .nil))) .nil)))
    (.cons (.whl (.cmp .Gt (.bif .len (.cons (.var 76) .nil)) (.int 0)) (.cons (.asg2 79 80 (.pop (.var 76))) (.cons (.asg 79 (.mth (.var 74) 52 373 229 (.cons (.var 79) .nil))) (.cons (.asg 80 (.mth (.var 74) 52 373 229 (.cons (.var 80) .nil))) Z))))
    (.cons (.ret (.bol true)) .nil)))))) by rw [hZ]; rfl]
  obtain ⟨L, hL⟩ : ∃ L, L = (S.cons (.whl (.cmp .Gt (.bif .len (.cons (.var 76) .nil)) (.int 0)) (.cons (.asg2 79 80 (.pop (.var 76))) (.cons (.asg 79 (.mth (.var 74) 52 373 229 (.cons (.var 79) .nil))) (.cons (.asg 80 (.mth (.var 74) 52 373 229 (.cons (.var 80) .nil))) Z))))
    (.cons (.ret (.bol true)) .nil)) := ⟨_, rfl⟩
  rw [← hL]
  simp [wS_nil, wS_cons, wS_asg, wS_asc, wS_asg2, wS_sat, wS_sit, wS_aug, wS_ex, wS_iff, wS_whl, wS_for, wS_ret, wS_cnt, wS_wild, wS_frz, wE_var, wE_glb, wE_int, wE_str, wE_bol, wE_neg, wE_not, wE_bin, wE_cmp, wE_and, wE_or, wE_ite, wE_sub, wE_slc, wE_atr, wE_tup, wE_lst, wE_dct, wE_call, wE_new, wE_mth, wE_bif, wE_app, wE_pop, wE_rev, wE_get, wE_sad, wE_cpr, wL_nil, wL_cons, setf, lk, newM]
  intro fw ofw bw hbw
  have bw_fw : bw ≠ fw := fun e => by rw [e, up_at] at hbw; cases hbw
  have obw : O bw = none := by rwa [up_ne bw_fw] at hbw
  have x00 : Ext O (up (up O fw (.dictI [])) bw (.dictI [])) := (Ext.new ofw).upd obw
  refine k_new_pairset (n := n + 2) ok C (W.ext x00) fun x m O1 x01 om1 hm => ?_
  have m_bw : m ≠ bw := fun e => by rw [e, up_at] at om1; cases om1
  have m_fw : m ≠ fw := fun e => by rw [e, up_ne (Ne.symm bw_fw), up_at] at om1; cases om1
  have om : O m = none := by rwa [up_ne m_bw, up_ne m_fw] at om1
  have x1 := x00.trans x01
  have hf1 : O1 fw = some (.dictI []) := x01.get (by rw [up_ne (Ne.symm bw_fw), up_at])
  have hb1 : O1 bw = some (.dictI []) := x01.get (up_at _ _ _)
  intro wk hwk
  have owk : O wk = none := ext_none x1 hwk
  have wm : wk ≠ m := fun e => by rw [e, hm] at hwk; cases hwk
  have wf' : wk ≠ fw := fun e => by rw [e, hf1] at hwk; cases hwk
  have wb : wk ≠ bw := fun e => by rw [e, hb1] at hwk; cases hwk
  have x2 : Ext O (up O1 wk (.list [.tup [cl p, cl p']])) := x1.upd owk
  have V : ∀ fr : Nat → Option AV, fr 74 = some (stoV a) → fr 76 = some (.ref wk) → fr 90 = some (psV x m (h.length + 1)) → fr 93 = some (.ref fw) → fr 94 = some (.ref bw) → VI a ts fs h O t u x wk m fw bw t.size ⟨up O1 wk (.list [.tup [cl p, cl p']]), fr⟩ := by
    intro fr e1 e2 e3 e4 e5
    refine ⟨⟨[⟨p, p', t, u⟩], [], [], up_at _ _ _, (up_ne (Ne.symm wm)).trans hm, (up_ne (Ne.symm wf')).trans hf1, (up_ne (Ne.symm wb)).trans hb1, ⟨?_, by simp, by simp, .inr (.inr ⟨_, List.mem_cons_self, rfl, rfl⟩)⟩, ⟨by simp, by simp⟩, ?_, by simp [esum], by simp [esum]⟩, x2, e1, e2, e3, e4, e5⟩
    · intro e me; simp at me; subst me; exact ⟨d, d', w, w'⟩
    · intro ρ e1 e2; exact ⟨by intro e me; simp at me; subst me; exact ⟨e1, fun _ m => m⟩, by simp⟩
  generalize hfr : setf _ 76 (AV.ref wk) = fr
  have V1 := V fr (by rw [← hfr]; rfl) (by rw [← hfr]; rfl) (by rw [← hfr]; rfl) (by rw [← hfr]; rfl) (by rw [← hfr]; rfl)
  subst hL
  refine cons_step (whl_k (VI a ts fs h O t u x wk m fw bw) t.size V1 fun k σ V K again0 fin0 => ?_)
  obtain ⟨⟨E, M, F, hw, hm', hf, hb, I, FI, fwd, hk, hs⟩, hx, f74, f76, f90, f93, f94⟩ := V
  have el := esum_len E
  have wl := wkV_len E
  simp only [wT_not, wT_cmp, wT_and, wT_and3, wT_or, wT_ite, wT_var, wT_bol, wT_sub, wT_call, wT_mth, wE_var, wE_glb, wE_int, wE_str, wE_bol, wE_neg, wE_not, wE_bin, wE_cmp, wE_and, wE_or, wE_ite, wE_sub, wE_slc, wE_atr, wE_tup, wE_lst, wE_dct, wE_call, wE_new, wE_mth, wE_bif, wE_app, wE_pop, wE_rev, wE_get, wE_sad, wE_cpr, wL_nil, wL_cons, f76, bif_len hw, cmp_eq, cmp_ne, cmp_lt, cmp_gt, cmp_le, cmp_ge, cmp_in, cmp_ni, lt1_int]
  refine ⟨by rw [wl]; unfold lim; omega, ?_⟩
  cases E with
  | nil =>
    exact q true _ hx ⟨fun _ => var_of_rel FI (closed_all (fun _ _ => kidsP_v) I.clo _ _ I.org), fun _ => rfl⟩
  | cons e E =>
    have hd : decide ((0 : Int) < ((wkV (e :: E)).length : Nat)) = true := decide_eq_true (by rw [wl]; simp)
    rw [hd]
    have eo := I.eok e List.mem_cons_self
    have W0 := W.ext hx
    have apw := W.apart owk
    have apm := W.apart om
    have tp := e.t.size_pos
    simp only [esum, List.length_cons] at hk hs el
    have again : ∀ σ' k', k' < k → VI a ts fs h O t u x wk m fw bw k' σ' → K .next σ' := fun σ' k' l v => again0 k' σ' l v
    have fin : ∀ (O' : Objs) fr, Ext O O' → ¬ Var t u → K (.ret (.bool false)) ⟨O', fr⟩ := fun O' fr xx no => fin0 _ _ (q false O' xx ⟨fun z => (nomatch z), fun z => (no z).elim⟩)
    show wpS c (n + 4) _ ⟨σ.O, σ.fr⟩ K
    refine pair_head (n := n) (e := e) (E := E) ok C W0 apw hw (by omega) f74 f76 eo fun fr2 fj f79 f80 => ?_
    have g74 : fr2 74 = some (stoV a) := (fj 74 (by decide) (by decide)).trans f74
    have g76 : fr2 76 = some (.ref wk) := (fj 76 (by decide) (by decide)).trans f76
    have g90 : fr2 90 = some (psV x m (h.length + 1)) := (fj 90 (by decide) (by decide)).trans f90
    have g93 : fr2 93 = some (.ref fw) := (fj 93 (by decide) (by decide)).trans f93
    have g94 : fr2 94 = some (.ref bw) := (fj 94 (by decide) (by decide)).trans f94
    have W2 : World a ts fs h (up σ.O wk (.list (wkV E))) := W0.upd apw
    have x3 : Ext O (up σ.O wk (.list (wkV E))) := hx.upd owk
    have hw3 : up σ.O wk (.list (wkV E)) wk = some (.list (wkV E)) := up_at _ _ _
    have hm3 : up σ.O wk (.list (wkV E)) m = some (.set (setV (h.length + 1) M)) := (up_ne (Ne.symm wm)).trans hm'
    have hf3 := (up_ne (O := σ.O) (m := .list (wkV E)) (Ne.symm wf')).trans hf
    have hb3 := (up_ne (O := σ.O) (m := .list (wkV E)) (Ne.symm wb)).trans hb
    generalize up σ.O wk (.list (wkV E)) = O2 at *
    have eqE := esum_len E
    have bad : ∀ (O' : Objs) fr, Ext O O' → (∀ ρ, ren ρ t = u → InjOn ρ (vars t) → ren ρ e.t = e.u → (∀ n ∈ vars e.t, n ∈ vars t) → False) → K (.ret (.bool false)) ⟨O', fr⟩ := fun O' fr xx no => fin O' fr xx fun ⟨ρ, e1, e2⟩ => no ρ e1 e2 ((fwd ρ e1 e2).1 e List.mem_cons_self).1 ((fwd ρ e1 e2).1 e List.mem_cons_self).2
    have fwE : ∀ ρ, ren ρ t = u → InjOn ρ (vars t) → (∀ e ∈ E, ren ρ e.t = e.u ∧ ∀ n ∈ vars e.t, n ∈ vars t) ∧ ∀ x y, (x, y) ∈ F → ρ x = y ∧ x ∈ vars t := fun ρ e1 e2 => ⟨fun e' m => (fwd ρ e1 e2).1 e' (List.mem_cons_of_mem _ m), (fwd ρ e1 e2).2⟩
    rw [hZ]
    refine va0_ok (n := n) ok C eo.dp eo.dq f79 f80 (fun k1 k2 et eu ep eq => ?_) (fun no => bad O2 fr2 x3 fun ρ _ _ z _ => no ρ z) (fun nv => ?_)
    · have bl : F.length < 80000 := by omega
      refine vv0_ok (n := n) ok C FI bw_fw hf3 hb3 bl (by rw [f79, ep]) (by rw [f80, eq]) g93 g94 (fun nA nB => ?_) (fun old => ?_) (fun ba => ?_)
      · have I2 : CInv h ts fs (relV ((k1, k2) :: F)) E M t u := I.drop (relV.mono fun _ m => List.mem_cons_of_mem _ m) (.inl (by rw [et, eu]; exact List.mem_cons_self))
        refine again _ (esum E) (by omega) ⟨⟨E, M, (k1, k2) :: F, (up_ne wb).trans ((up_ne wf').trans hw3), (up_ne m_bw).trans ((up_ne m_fw).trans hm3), (up_ne (Ne.symm bw_fw)).trans (up_at _ _ _), up_at _ _ _, I2, ⟨fun x y z m1 m2 => ?_, fun x y z m1 m2 => ?_⟩, fun ρ e1 e2 => ⟨(fwE ρ e1 e2).1, fun x y mm => ?_⟩, rfl, by simp only [List.length_cons]; omega⟩, (x3.upd ofw).upd obw, g74, g76, g90, g93, g94⟩
        · rcases List.mem_cons.mp m1 with q1 | q1 <;> rcases List.mem_cons.mp m2 with q2 | q2
          · cases q1; cases q2; rfl
          · cases q1; exact absurd ⟨z, q2⟩ nA
          · cases q2; exact absurd ⟨y, q1⟩ nA
          · exact FI.fn x y z q1 q2
        · rcases List.mem_cons.mp m1 with q1 | q1 <;> rcases List.mem_cons.mp m2 with q2 | q2
          · cases q1; cases q2; rfl
          · cases q1; exact absurd ⟨y, q2⟩ nB
          · cases q2; exact absurd ⟨x, q1⟩ nB
          · exact FI.inj x y z q1 q2
        · rcases List.mem_cons.mp mm with q | q
          · cases q
            have := (fwd ρ e1 e2).1 _ List.mem_cons_self
            rw [et, eu] at this
            simp [ren, vars] at this
            exact this
          · exact (fwE ρ e1 e2).2 x y q
      · exact again _ (esum E) (by omega) ⟨⟨E, M, F, hw3, hm3, hf3, hb3, I.drop (fun _ _ z => z) (.inl (by rw [et, eu]; exact old)), FI, fwE, rfl, by omega⟩, x3, g74, g76, g90, g93, g94⟩
      · refine bad O2 _ x3 fun ρ e1 e2 e3 e4 => ?_
        rw [et, eu] at e3
        simp [ren] at e3
        rcases ba with ⟨y, my, yk⟩ | ⟨nA, y, my⟩
        · exact yk (((fwd ρ e1 e2).2 k1 y my).1.symm.trans e3)
        · have z1 := (fwd ρ e1 e2).2 y k2 my
          have : k1 = y := e2 k1 (e4 k1 (by rw [et]; simp [vars])) y z1.2 (by rw [e3, z1.1])
          subst this
          exact nA ⟨k2, my⟩
    · refine pt0_ok (n := n) ok C ⟨W2, apw, apm, wm, hw3, hm3, g74, g76, f79, f80, g90⟩ eo.dp eo.dq eo.wp eo.wq nv (relV_leaf nv) I (by omega) (fun no => bad O2 fr2 x3 fun ρ e1 e2 e3 e4 => no _ (ren_FwOk ρ (vars t)) ⟨e3, e4⟩) fun O3 E3 M3 x4 hw4 hm4 I3 fw3 l1 l2 => ?_
      have ne1 : fw ∉ [wk, m] := by simp [Ne.symm wf', Ne.symm m_fw]
      have ne2 : bw ∉ [wk, m] := by simp [Ne.symm wb, Ne.symm m_bw]
      have x5 : Ext O O3 := fun b hb => by
        have b1 : b ≠ wk := fun e => by rw [e, owk] at hb; cases hb
        have b2 : b ≠ m := fun e => by rw [e, om] at hb; cases hb
        have := x3 b hb
        rw [x4 b (by simp [b1, b2]) (by rw [this]; exact hb), this]
      exact again _ (esum E3) (by omega) ⟨⟨E3, M3, F, hw4, hm4, x4.get ne1 hf3, x4.get ne2 hb3, I3, FI, fun ρ e1 e2 => ⟨fw3 _ (ren_FwOk ρ (vars t)).toS (fwE ρ e1 e2).1 ((fwd ρ e1 e2).1 e List.mem_cons_self), (fwE ρ e1 e2).2⟩, rfl, by omega⟩, x5, g74, g76, g90, g93, g94⟩
end
end Mine

namespace Mine

noncomputable def tsub (σ : Nat → T) : T → T
  | .v n => σ n
  | .a k => .a k
  | .i k => .i k
  | .s1 f x => .s1 f (tsub σ x)
  | .s2 f x y => .s2 f (tsub σ x) (tsub σ y)
noncomputable def Sub (t u : T) : Prop := ∃ σ, tsub σ t = u
noncomputable abbrev Ch := List (Nat × (Nat × Nat) × T)
noncomputable def relS (C : Ch) : T → T → Prop
  | .v x, u => ∃ r, (x, r, u) ∈ C
  | .a j, .a k => j = k
  | .i j, .i k => j = k
  | .s1 f x, .s1 g y => f = g ∧ relS C x y
  | .s2 f x x2, .s2 g y y2 => f = g ∧ relS C x y ∧ relS C x2 y2
  | _, _ => False
theorem relS.mono {C C' : Ch} (k : ∀ p ∈ C, p ∈ C') : ∀ t u, relS C t u → relS C' t u
  | .v x, u, h => let ⟨r, m⟩ := h; ⟨r, k _ m⟩
  | .a j, .a k, h => h
  | .i j, .i k, h => h
  | .s1 f x, .s1 g y, h => ⟨h.1, relS.mono k _ _ h.2⟩
  | .s2 f x x2, .s2 g y y2, h => ⟨h.1, relS.mono k _ _ h.2.1, relS.mono k _ _ h.2.2⟩
theorem kidsP_s {C : Ch} {t u : T} (k : kidsP (relS C) t u) : relS C t u := by
  cases t <;> cases u <;> first | exact k.elim | exact k
noncomputable def CFn (C : Ch) : Prop := ∀ x r u r' u', (x, r, u) ∈ C → (x, r', u') ∈ C → r = r' ∧ u = u'
noncomputable def lookC (C : Ch) (x : Nat) : T := ((C.find? fun p => decide (p.1 = x)).map (·.2.2)).getD (.v 0)
theorem lookC_of {C : Ch} (fn : CFn C) {x : Nat} {r : Nat × Nat} {u : T} (m : (x, r, u) ∈ C) : lookC C x = u := by
  unfold lookC
  cases e : C.find? fun p => decide (p.1 = x) with
  | none =>
    have := List.find?_eq_none.mp e (x, r, u) m
    simp at this
  | some p =>
    have h1 := List.find?_some e
    have h2 := List.mem_of_find?_eq_some e
    simp at h1
    obtain ⟨p1, p2, p3⟩ := p
    subst h1
    exact (fn _ _ _ _ _ h2 m).2
theorem rel_sub {C : Ch} (fn : CFn C) : ∀ t u, relS C t u → tsub (lookC C) t = u
  | .v x, u, h => by obtain ⟨r, m⟩ := h; exact lookC_of fn m
  | .a j, .a k, h => by rw [show j = k from h]; rfl
  | .i j, .i k, h => by rw [show j = k from h]; rfl
  | .s1 f x, .s1 g y, h => by rw [h.1]; simp [tsub, rel_sub fn x y h.2]
  | .s2 f x x2, .s2 g y y2, h => by rw [h.1]; simp [tsub, rel_sub fn x y h.2.1, rel_sub fn x2 y2 h.2.2]
structure ChI (h : Hp) (ts : List Str) (fs : List (Nat × Nat)) (C : Ch) : Prop where
  fn : CFn C
  ok : ∀ x r w, (x, r, w) ∈ C → den h r w ∧ wf ts fs w ∧ w.size < 1000
structure FwC (C : Ch) (σ : Nat → T) : Prop where
  at_ : ∀ x r w, (x, r, w) ∈ C → σ x = w
noncomputable def chV (C : Ch) : List (Int × AV) := C.reverse.map fun p => ((p.1 : Int), cl p.2.1)
theorem chV_any {C : Ch} {k : Nat} : (chV C).any (fun p => decide (p.1 = (k : Int))) = true ↔ ∃ r u, (k, r, u) ∈ C := by
  unfold chV
  simp only [List.any_map, List.any_reverse, List.any_eq_true, Function.comp_apply, decide_eq_true_eq]
  constructor
  · rintro ⟨⟨x, r, u⟩, m, e⟩
    have : x = k := by have e : (x : Int) = k := e; omega
    subst this; exact ⟨r, u, m⟩
  · rintro ⟨r, u, m⟩; exact ⟨_, m, rfl⟩
theorem chV_get {C : Ch} (fn : CFn C) {x : Nat} {r : Nat × Nat} {u : T} (m : (x, r, u) ∈ C) : dget (chV C) (x : Int) = some (cl r) := by
  unfold dget
  cases e : (chV C).find? fun p => decide (p.1 = (x : Int)) with
  | none =>
    have := List.find?_eq_none.mp e ((x : Int), cl r) (by unfold chV; exact List.mem_map.mpr ⟨(x, r, u), by simpa using m, rfl⟩)
    simp at this
  | some p =>
    have h1 := List.find?_some e
    have h2 := List.mem_of_find?_eq_some e
    simp at h1
    unfold chV at h2
    obtain ⟨⟨a, b, c⟩, mm, rfl⟩ := List.mem_map.mp h2
    have : a = x := by have h1 : (a : Int) = x := h1; omega
    subst this
    have e2 := (fn _ _ _ _ _ (List.mem_reverse.mp mm) m).1
    simp [e2]
theorem chV_len (C : Ch) : (chV C).length = C.length := by unfold chV; simp

section
variable {c : Cx} {n : Nat} {a : SA} {ts : List Str} {fs : List (Nat × Nat)} {h : Hp} {O O' : Objs} {Q : AV → Objs → Prop}

theorem seq_list {O : Objs} {w : Addr} {l : List AV} (e : O w = some (.list l)) : seqOf O (.ref w) = some l := by
  unfold seqOf; simp only [e]

theorem sub_FwOk (ρ : Nat → T) : FwOk fun t u => tsub ρ t = u :=
  ⟨fun k u z => z.symm, fun k u z => z.symm, fun f x u z => ⟨_, z.symm, rfl⟩, fun f x x' u z => ⟨_, _, z.symm, rfl, rfl⟩⟩
theorem siz_FwS (V : List Nat) : FwS fun t u => u.size < 1000 ∧ ∀ n ∈ vars t, n ∈ V :=
  ⟨fun f x y z => ⟨Nat.lt_of_le_of_lt (by simp [T.size]) z.1, z.2⟩, fun f x x' y y' z => ⟨⟨Nat.lt_of_le_of_lt (by simp [T.size]; omega) z.1, fun n m => z.2 n (List.mem_append_left _ m)⟩, ⟨Nat.lt_of_le_of_lt (by simp [T.size]; omega) z.1, fun n m => z.2 n (List.mem_append_right _ m)⟩⟩⟩
theorem relS_leaf {F : Ch} {t : T} (nv : ∀ k, t ≠ .v k) (cf : isC t = false) : relS F t t := by
  cases t with
  | v k => exact absurd rfl (nv k)
  | a k => rfl
  | i k => rfl
  | _ => cases cf

structure SI (a : SA) (ts : List Str) (fs : List (Nat × Nat)) (h : Hp) (O : Objs) (t u : T) (FX : List Int) (x wk m fx ch : Addr) (k : Nat) (σ : St) : Prop where
  ex : ∃ E M Cn, σ.O wk = some (.list (wkV E)) ∧ σ.O m = some (.set (setV (h.length + 1) M)) ∧ σ.O ch = some (.dictI (chV Cn)) ∧
    CInv h ts fs (relS Cn) E M t u ∧ ChI h ts fs Cn ∧ (∀ σ, tsub σ t = u → (∀ e ∈ E, tsub σ e.t = e.u) ∧ FwC Cn σ) ∧ (∀ e ∈ E, e.u.size < 1000 ∧ ∀ n ∈ vars e.t, n ∈ vars t) ∧ k = esum E ∧ M.length + Cn.length + esum E ≤ t.size
  ext : Ext O σ.O
  hfx : σ.O fx = some (.set FX)
  f74 : σ.fr 74 = some (stoV a)
  f76 : σ.fr 76 = some (.ref wk)
  f90 : σ.fr 90 = some (psV x m (h.length + 1))
  f97 : σ.fr 97 = some (.ref fx)
  f98 : σ.fr 98 = some (.ref ch)

noncomputable def su1 : S := (.cons (.iff (.cmp .NotIn (.var 118) (.var 98)) (.cons (.sit (.var 98) (.var 118) (.var 80))
 .nil) (.cons (.iff (.not (.call 16 473 (.cons (.var 74) (.cons (.sub (.var 98) (.var 118)) (.cons (.var 80) .nil))))) (.cons (.ret (.bol false))
 .nil) .nil)
 .nil))
 .nil)
noncomputable def su0 : S := (.cons (.asg 118 (.call 19 494 (.cons (.var 79) .nil)))
 (.cons (.iff (.cmp .In (.var 118) (.var 97)) (.cons (.iff (.cmp .NotEq (.var 79) (.var 80)) (.cons (.ret (.bol false))
 .nil) .nil)
 .nil) su1)
 .nil))

/-- a variable of the general side -/
theorem su0_ok (ok : c.Ok) (C : Code c.K) (W : World a ts fs h O) (Y : Sy ts fs) {FX : List Int} {fx ch : Addr} {Cn : Ch} {k1 : Nat} {p' : Nat × Nat} {u : T} {fr : Nat → Option AV} {K : Fl → St → Prop} (CI : ChI h ts fs Cn) (hx : O fx = some (.set FX)) (hc : O ch = some (.dictI (chV Cn))) (hl : Cn.length < 80000) (nfx : ¬ ((k1 : Int) ∈ FX))
    (d' : den h p' u) (w' : wf ts fs u)
    (f79 : fr 79 = some (cl (0, k1))) (f80 : fr 80 = some (cl p')) (f97 : fr 97 = some (.ref fx)) (f98 : fr 98 = some (.ref ch)) (f74 : fr 74 = some (stoV a))
    (new : (¬ ∃ r w, (k1, r, w) ∈ Cn) → K .next ⟨up O ch (.dictI (chV ((k1, p', u) :: Cn))), setf fr 118 (.int k1)⟩)
    (old : ∀ r O', Ext O O' → (k1, r, u) ∈ Cn → K .next ⟨O', setf fr 118 (.int k1)⟩)
    (bad : ∀ r w O', Ext O O' → (k1, r, w) ∈ Cn → w ≠ u → K (.ret (.bool false)) ⟨O', setf fr 118 (.int k1)⟩) : wpS c (n + 6) su0 ⟨O, fr⟩ K := by
  obtain ⟨V1, hV1⟩ : ∃ V, V = su1 := ⟨_, rfl⟩
  unfold su0
  rw [← hV1]
  simp only [wS_nil, wS_cons, wS_asg, wS_asc, wS_asg2, wS_sat, wS_sit, wS_aug, wS_ex, wS_iff, wS_whl, wS_for, wS_ret, wS_cnt, wS_wild, wS_frz, wE_var, wE_glb, wE_int, wE_str, wE_bol, wE_neg, wE_not, wE_bin, wE_cmp, wE_and, wE_or, wE_ite, wE_sub, wE_slc, wE_atr, wE_tup, wE_lst, wE_dct, wE_call, wE_new, wE_mth, wE_bif, wE_app, wE_pop, wE_rev, wE_get, wE_sad, wE_cpr, wL_nil, wL_cons, f79]
  refine k_variable_number (n := n + 5) ok C rfl ?_
  have g118 : setf fr 118 (.int k1) 118 = some (.int k1) := rfl
  have g80 : setf fr 118 (.int k1) 80 = some (cl p') := f80
  have g74 : setf fr 118 (.int k1) 74 = some (stoV a) := f74
  have g97 : setf fr 118 (.int k1) 97 = some (.ref fx) := f97
  have g98 : setf fr 118 (.int k1) 98 = some (.ref ch) := f98
  generalize setf fr 118 (.int k1) = fr2 at *
  simp only [wS_nil, wS_cons, wS_asg, wS_asc, wS_asg2, wS_sat, wS_sit, wS_aug, wS_ex, wS_iff, wS_whl, wS_for, wS_ret, wS_cnt, wS_wild, wS_frz, wT_not, wT_cmp, wT_and, wT_and3, wT_or, wT_ite, wT_var, wT_bol, wT_sub, wT_call, wT_mth, wE_var, wE_glb, wE_int, wE_str, wE_bol, wE_neg, wE_not, wE_bin, wE_cmp, wE_and, wE_or, wE_ite, wE_sub, wE_slc, wE_atr, wE_tup, wE_lst, wE_dct, wE_call, wE_new, wE_mth, wE_bif, wE_app, wE_pop, wE_rev, wE_get, wE_sad, wE_cpr, g118, g97, cmp_eq, cmp_ne, cmp_lt, cmp_gt, cmp_le, cmp_ge, cmp_in, cmp_ni, inA_set hx]
  have nf : FX.contains (k1 : Int) = false := by simpa using nfx
  rw [nf]
  show wpS c (n + 6) V1 ⟨O, fr2⟩ _
  rw [hV1]
  have fl := chV_len Cn
  simp only [su1, wS_nil, wS_cons, wS_asg, wS_asc, wS_asg2, wS_sat, wS_sit, wS_aug, wS_ex, wS_iff, wS_whl, wS_for, wS_ret, wS_cnt, wS_wild, wS_frz, wT_not, wT_cmp, wT_and, wT_and3, wT_or, wT_ite, wT_var, wT_bol, wT_sub, wT_call, wT_mth, wE_var, wE_glb, wE_int, wE_str, wE_bol, wE_neg, wE_not, wE_bin, wE_cmp, wE_and, wE_or, wE_ite, wE_sub, wE_slc, wE_atr, wE_tup, wE_lst, wE_dct, wE_call, wE_new, wE_mth, wE_bif, wE_app, wE_pop, wE_rev, wE_get, wE_sad, wE_cpr, wL_nil, wL_cons, g118, g98, g80, g74, cmp_eq, cmp_ne, cmp_lt, cmp_gt, cmp_le, cmp_ge, cmp_in, cmp_ni, inA_dict hc, Option.map_some]
  cases hA : (chV Cn).any (fun p => decide (p.1 = (k1 : Int))) with
  | false =>
    have nA : ¬ ∃ r w, (k1, r, w) ∈ Cn := fun z => by rw [chV_any.mpr z] at hA; cases hA
    simp only [Bool.not_false, if_true, wE_var, wE_glb, wE_int, wE_str, wE_bol, wE_neg, wE_not, wE_bin, wE_cmp, wE_and, wE_or, wE_ite, wE_sub, wE_slc, wE_atr, wE_tup, wE_lst, wE_dct, wE_call, wE_new, wE_mth, wE_bif, wE_app, wE_pop, wE_rev, wE_get, wE_sad, wE_cpr, sit_dict hc]
    refine ⟨by rw [fl]; unfold lim; omega, ?_⟩
    have e1 : dput (chV Cn) (k1 : Int) (cl p') = chV ((k1, p', u) :: Cn) := by rw [dput_new hA]; unfold chV; simp
    rw [e1]
    exact new nA
  | true =>
    obtain ⟨r, w, mr⟩ := chV_any.mp hA
    obtain ⟨dr, wr, zr⟩ := CI.ok _ _ _ mr
    simp only [Bool.not_true, Bool.false_eq_true, if_false, wE_var, wE_glb, wE_int, wE_str, wE_bol, wE_neg, wE_not, wE_bin, wE_cmp, wE_and, wE_or, wE_ite, wE_sub, wE_slc, wE_atr, wE_tup, wE_lst, wE_dct, wE_call, wE_new, wE_mth, wE_bif, wE_app, wE_pop, wE_rev, wE_get, wE_sad, wE_cpr, wL_nil, wL_cons, sub_dict hc, chV_get CI.fn mr]
    refine k_identical (n := n) ok C W Y dr d' wr w' zr fun O' x => ?_
    by_cases e : w = u
    · subst e
      simpa [tru_bool] using old r O' x mr
    · simpa [tru_bool, e] using bad r w O' x mr e

/-- the loop over the variables of the special term -/
theorem fix_loop (ok : c.Ok) (C : Code c.K) {fd fx : Addr} {l : List Nat} {V : List Nat} (fd_fx : fd ≠ fx) (ofx : O fx = none) : ∀ (rest : List Nat) (σ : St) (F : List Int) (K : Fl → St → Prop), (∀ n ∈ rest, n ∈ V) → σ.fr 97 = some (.ref fx) → Ext O σ.O → σ.O fd = some (.list (l.map fun n => cl (0, n))) → σ.O fx = some (.set F) →
      (∀ z ∈ F, ∃ n ∈ V, z = (n : Int)) → F.length + rest.length < 3000 →
      (∀ σ' F', (∀ j, j ≠ 75 → σ'.fr j = σ.fr j) → Ext O σ'.O → σ'.O fx = some (.set F') → (∀ z ∈ F', ∃ n ∈ V, z = (n : Int)) → K .next σ') →
      forL 75 (.ref fd) (l.map fun n => cl (0, n)) (fun σ K => wpS c (n + 6) (.cons (.ex (.sad (.var 97) (.call 19 494 (.cons (.var 75) .nil)))) .nil) σ K) (rest.map fun n => cl (0, n)) σ K
  | [], σ, F, K, _, _, x, _, hF, lF, _, k => k σ F (fun _ _ => rfl) x hF lF
  | n0 :: rest, σ, F, K, hr, f97, x, hfd, hF, lF, sz, k => by
    show wpS c (n + 6) _ ⟨σ.O, setf σ.fr 75 (cl (0, n0))⟩ _
    rw [nil_tail]
    have g97 : setf σ.fr 75 (cl (0, n0)) 97 = some (.ref fx) := f97
    have g75 : setf σ.fr 75 (cl (0, n0)) 75 = some (cl (0, n0)) := rfl
    simp only [List.length_cons] at sz
    simp only [wS_nil, wS_cons, wS_asg, wS_asc, wS_asg2, wS_sat, wS_sit, wS_aug, wS_ex, wS_iff, wS_whl, wS_for, wS_ret, wS_cnt, wS_wild, wS_frz, wE_var, wE_glb, wE_int, wE_str, wE_bol, wE_neg, wE_not, wE_bin, wE_cmp, wE_and, wE_or, wE_ite, wE_sub, wE_slc, wE_atr, wE_tup, wE_lst, wE_dct, wE_call, wE_new, wE_mth, wE_bif, wE_app, wE_pop, wE_rev, wE_get, wE_sad, wE_cpr, wL_nil, wL_cons, g97, g75, setA_ref hF]
    refine ⟨trivial, k_variable_number (n := n + 5) ok C rfl ?_⟩
    simp only [sadA_ref hF]
    refine ⟨by omega, ?_⟩
    have rec_ : ∀ F', F'.length ≤ F.length + 1 → (∀ z ∈ F', ∃ n ∈ V, z = (n : Int)) → seqOf (up σ.O fx (.set F')) (.ref fd) = some (l.map fun n => cl (0, n)) ∧ forL 75 (.ref fd) (l.map fun n => cl (0, n)) (fun σ K => wpS c (n + 6) (.cons (.ex (.sad (.var 97) (.call 19 494 (.cons (.var 75) .nil)))) .nil) σ K) (rest.map fun n => cl (0, n)) ⟨up σ.O fx (.set F'), setf σ.fr 75 (cl (0, n0))⟩ K := fun F' hl hF' => by
      have e1 := (up_ne (O := σ.O) (m := .set F') fd_fx).trans hfd
      refine ⟨seq_list e1, fix_loop ok C fd_fx ofx rest _ F' K (fun n m => hr n (List.mem_cons_of_mem _ m)) g97 (x.upd ofx) e1 (up_at _ _ _) hF' (by omega) fun σ' F2 fj x2 h2 l2 => k σ' F2 (fun j hj => (fj j hj).trans (if_neg hj)) x2 h2 l2⟩
    by_cases hc : F.contains (n0 : Int) = true
    · rw [if_pos hc]
      exact rec_ F (by omega) lF
    · rw [if_neg hc]
      refine rec_ _ (by simp) fun z m => ?_
      rcases List.mem_append.mp m with m | m
      · exact lF z m
      · simp at m; exact ⟨n0, hr n0 List.mem_cons_self, m⟩

theorem k_subsumes (ok : c.Ok) (C : Code c.K) (W : World a ts fs h O) (Y : Sy ts fs) {p p' : Nat × Nat} {t u : T} (d : den h p t) (d' : den h p' u) (w : wf ts fs t) (w' : wf ts fs u) (sz : t.size < 1000) (sz' : u.size < 1000)
    (dj : ∀ n ∈ vars t, n ∉ vars u) (q : ∀ b O', Ext O O' → (b = true ↔ Sub t u) → Q (.bool b) O') : CallOK c (n + 7) 508 [stoV a, cl p, cl p'] O Q := by
  refine fn_call ok C.subsumes C.b_subsumes rfl (fun _ => .nil) ?_
  obtain ⟨P0, hP0⟩ : ∃ Z, Z = pt0 := ⟨_, rfl⟩
  obtain ⟨U0, hU0⟩ : ∃ Z, Z = su0 := ⟨_, rfl⟩
  obtain ⟨Z, hZ⟩ : ∃ Z, Z = S.cons (.iff (.call 10 431 (.cons (.var 79) .nil)) U0 P0) .nil := ⟨_, rfl⟩
  obtain ⟨L, hL⟩ : ∃ L, L = (S.cons (.whl (.cmp .Gt (.bif .len (.cons (.var 76) .nil)) (.int 0)) (.cons (.asg2 79 80 (.pop (.var 76))) (.cons (.asg 79 (.mth (.var 74) 52 373 229 (.cons (.var 79) .nil))) (.cons (.asg 80 (.mth (.var 74) 52 373 229 (.cons (.var 80) .nil))) Z))))
    (.cons (.ret (.bol true)) .nil)) := ⟨_, rfl⟩
  obtain ⟨L2, hL2⟩ : ∃ L2, L2 = (S.cons (.asg 98 .dct) (.cons (.asg 90 (.new 6 399 389 (.cons (.var 74) .nil))) (.cons (.asg 76 (.lst (.cons (.tup (.cons (.var 95) (.cons (.var 96) .nil))) .nil))) L))) := ⟨_, rfl⟩
  obtain ⟨B, hB⟩ : ∃ B, B = S.cons (.ex (.sad (.var 97) (.call 19 494 (.cons (.var 75) .nil)))) .nil := ⟨_, rfl⟩
  rw [show ir_subsumes = (.cons (.asg 97 (.bif .set .nil)) (.cons (.for 75 (.call 17 480 (.cons (.var 74) (.cons (.var 96) .nil))) B) L2)) by rw [hL2, hL, hZ, hP0, hU0, hB]; rfl]
  generalize hfr0 : (lk (([74, 95, 96] : List Nat).zip _)) = fr0
  have a74 : fr0 74 = some (stoV a) := by rw [← hfr0]; rfl
  have a95 : fr0 95 = some (cl p) := by rw [← hfr0]; rfl
  have a96 : fr0 96 = some (cl p') := by rw [← hfr0]; rfl
  refine cons_step ?_
  simp only [wS_nil, wS_cons, wS_asg, wS_asc, wS_asg2, wS_sat, wS_sit, wS_aug, wS_ex, wS_iff, wS_whl, wS_for, wS_ret, wS_cnt, wS_wild, wS_frz, wE_var, wE_glb, wE_int, wE_str, wE_bol, wE_neg, wE_not, wE_bin, wE_cmp, wE_and, wE_or, wE_ite, wE_sub, wE_slc, wE_atr, wE_tup, wE_lst, wE_dct, wE_call, wE_new, wE_mth, wE_bif, wE_app, wE_pop, wE_rev, wE_get, wE_sad, wE_cpr, wL_nil, wL_cons, bif_set, newM]
  intro fx ofx
  have x00 : Ext O (up O fx (.set [])) := Ext.new ofx
  have b74 : setf fr0 97 (.ref fx) 74 = some (stoV a) := a74
  have b95 : setf fr0 97 (.ref fx) 95 = some (cl p) := a95
  have b96 : setf fr0 97 (.ref fx) 96 = some (cl p') := a96
  have b97 : setf fr0 97 (.ref fx) 97 = some (.ref fx) := rfl
  generalize setf fr0 97 (.ref fx) = fr1 at *
  rw [b74, b96]
  refine k_variables (n := n + 1) ok C (W.ext x00) d' w' sz' fun fd l O1 x01 ofd1 hfd lv ll => ?_
  have fd_fx : fd ≠ fx := fun e => by rw [e, up_at] at ofd1; cases ofd1
  have x1 := x00.trans x01
  have hfx : O1 fx = some (.set []) := x01.get (up_at _ _ _)
  simp only [seq_list hfd]
  refine ⟨by simp [lim]; omega, ?_⟩
  rw [hB]
  refine fix_loop (n := n) ok C fd_fx ofx l _ [] _ lv b97 x1 hfd hfx (fun z m => nomatch m) (by simp; omega) fun σ1 FX fj xσ hFX lFX => ?_
  have c74 : σ1.fr 74 = some (stoV a) := (fj 74 (by decide)).trans b74
  have c95 : σ1.fr 95 = some (cl p) := (fj 95 (by decide)).trans b95
  have c96 : σ1.fr 96 = some (cl p') := (fj 96 (by decide)).trans b96
  have c97 : σ1.fr 97 = some (.ref fx) := (fj 97 (by decide)).trans b97
  show wpS c (n + 6) L2 σ1 _
  rw [hL2]
  simp [wS_nil, wS_cons, wS_asg, wS_asc, wS_asg2, wS_sat, wS_sit, wS_aug, wS_ex, wS_iff, wS_whl, wS_for, wS_ret, wS_cnt, wS_wild, wS_frz, wE_var, wE_glb, wE_int, wE_str, wE_bol, wE_neg, wE_not, wE_bin, wE_cmp, wE_and, wE_or, wE_ite, wE_sub, wE_slc, wE_atr, wE_tup, wE_lst, wE_dct, wE_call, wE_new, wE_mth, wE_bif, wE_app, wE_pop, wE_rev, wE_get, wE_sad, wE_cpr, wL_nil, wL_cons, setf, newM, c74, c95, c96, c97]
  intro ch och1
  have och : O ch = none := ext_none xσ och1
  have ch_fx : ch ≠ fx := fun e => by rw [e, hFX] at och1; cases och1
  refine k_new_pairset (n := n + 4) ok C (W.ext (xσ.upd och)) fun x m O2 x02 om1 hm => ?_
  have x2' := (xσ.upd (m := .dictI []) och).trans x02
  have m_ch : m ≠ ch := fun e => by rw [e, up_at] at om1; cases om1
  have m_fx : m ≠ fx := fun e => by rw [e, up_ne (Ne.symm ch_fx), hFX] at om1; cases om1
  have om : O m = none := ext_none xσ (by rwa [up_ne m_ch] at om1)
  have hch : O2 ch = some (.dictI []) := x02.get (up_at _ _ _)
  have hFX2 : O2 fx = some (.set FX) := x02.get ((up_ne (Ne.symm ch_fx)).trans hFX)
  intro wk hwk
  have owk : O wk = none := ext_none x2' hwk
  have wm : wk ≠ m := fun e => by rw [e, hm] at hwk; cases hwk
  have wch : wk ≠ ch := fun e => by rw [e, hch] at hwk; cases hwk
  have wfx : wk ≠ fx := fun e => by rw [e, hFX2] at hwk; cases hwk
  have V : ∀ fr : Nat → Option AV, fr 74 = some (stoV a) → fr 76 = some (.ref wk) → fr 90 = some (psV x m (h.length + 1)) → fr 97 = some (.ref fx) → fr 98 = some (.ref ch) → SI a ts fs h O t u FX x wk m fx ch t.size ⟨up O2 wk (.list [.tup [cl p, cl p']]), fr⟩ := by
    intro fr e1 e2 e3 e4 e5
    refine ⟨⟨[⟨p, p', t, u⟩], [], [], up_at _ _ _, (up_ne (Ne.symm wm)).trans hm, (up_ne (Ne.symm wch)).trans hch, ⟨?_, by simp, by simp, .inr (.inr ⟨_, List.mem_cons_self, rfl, rfl⟩)⟩, ⟨by intro x r u r' u' m; simp at m, by intro x r w m; simp at m⟩, ?_, ?_, by simp [esum], by simp [esum]⟩, x2'.upd owk, (up_ne (Ne.symm wfx)).trans hFX2, e1, e2, e3, e4, e5⟩
    · intro e me; simp at me; subst me; exact ⟨d, d', w, w'⟩
    · intro ρ e1; exact ⟨by intro e me; simp at me; subst me; exact e1, ⟨by intro x r w m; simp at m⟩⟩
    · intro e me; simp at me; subst me; exact ⟨sz', fun _ m => m⟩
  generalize hfr : setf _ 76 (AV.ref wk) = fr
  have V1 := V fr (by rw [← hfr]; exact c74) (by rw [← hfr]; rfl) (by rw [← hfr]; rfl) (by rw [← hfr]; exact c97) (by rw [← hfr]; rfl)
  subst hL
  refine cons_step (whl_k (SI a ts fs h O t u FX x wk m fx ch) t.size V1 fun k σ V K again0 fin0 => ?_)
  obtain ⟨⟨E, M, Cn, hw, hm', hf, I, CI, fwd, szA, hk, hs⟩, hx, hfx', f74, f76, f90, f97, f98⟩ := V
  have el := esum_len E
  have wl := wkV_len E
  simp only [wT_not, wT_cmp, wT_and, wT_and3, wT_or, wT_ite, wT_var, wT_bol, wT_sub, wT_call, wT_mth, wE_var, wE_glb, wE_int, wE_str, wE_bol, wE_neg, wE_not, wE_bin, wE_cmp, wE_and, wE_or, wE_ite, wE_sub, wE_slc, wE_atr, wE_tup, wE_lst, wE_dct, wE_call, wE_new, wE_mth, wE_bif, wE_app, wE_pop, wE_rev, wE_get, wE_sad, wE_cpr, wL_nil, wL_cons, f76, bif_len hw, cmp_eq, cmp_ne, cmp_lt, cmp_gt, cmp_le, cmp_ge, cmp_in, cmp_ni, lt1_int]
  refine ⟨by rw [wl]; unfold lim; omega, ?_⟩
  cases E with
  | nil =>
    exact q true _ hx ⟨fun _ => ⟨_, rel_sub CI.fn _ _ (closed_all (fun _ _ => kidsP_s) I.clo _ _ I.org)⟩, fun _ => rfl⟩
  | cons e E =>
    have hd : decide ((0 : Int) < ((wkV (e :: E)).length : Nat)) = true := decide_eq_true (by rw [wl]; simp)
    rw [hd]
    have eo := I.eok e List.mem_cons_self
    have W0 := W.ext hx
    have apw := W.apart owk
    have apm := W.apart om
    have tp := e.t.size_pos
    simp only [esum, List.length_cons] at hk hs el
    have fin : ∀ (O' : Objs) fr, Ext O O' → ¬ Sub t u → K (.ret (.bool false)) ⟨O', fr⟩ := fun O' fr xx no => fin0 _ _ (q false O' xx ⟨fun z => (nomatch z), fun z => (no z).elim⟩)
    show wpS c (n + 6) _ ⟨σ.O, σ.fr⟩ K
    refine pair_head (n := n + 2) (e := e) (E := E) ok C W0 apw hw (by omega) f74 f76 eo fun fr2 fj f79 f80 => ?_
    have g74 : fr2 74 = some (stoV a) := (fj 74 (by decide) (by decide)).trans f74
    have g76 : fr2 76 = some (.ref wk) := (fj 76 (by decide) (by decide)).trans f76
    have g90 : fr2 90 = some (psV x m (h.length + 1)) := (fj 90 (by decide) (by decide)).trans f90
    have g97 : fr2 97 = some (.ref fx) := (fj 97 (by decide) (by decide)).trans f97
    have g98 : fr2 98 = some (.ref ch) := (fj 98 (by decide) (by decide)).trans f98
    have W2 : World a ts fs h (up σ.O wk (.list (wkV E))) := W0.upd apw
    have x3 : Ext O (up σ.O wk (.list (wkV E))) := hx.upd owk
    have hw3 : up σ.O wk (.list (wkV E)) wk = some (.list (wkV E)) := up_at _ _ _
    have hm3 : up σ.O wk (.list (wkV E)) m = some (.set (setV (h.length + 1) M)) := (up_ne (Ne.symm wm)).trans hm'
    have hf3 := (up_ne (O := σ.O) (m := .list (wkV E)) (Ne.symm wch)).trans hf
    have hx3 := (up_ne (O := σ.O) (m := .list (wkV E)) (Ne.symm wfx)).trans hfx'
    generalize up σ.O wk (.list (wkV E)) = O3 at *
    have eqE := esum_len E
    have bad : ∀ (O' : Objs) fr, Ext O O' → (∀ ρ, tsub ρ t = u → FwC Cn ρ → tsub ρ e.t = e.u → False) → K (.ret (.bool false)) ⟨O', fr⟩ := fun O' fr xx no => fin O' fr xx fun ⟨ρ, e1⟩ => no ρ e1 (fwd ρ e1).2 ((fwd ρ e1).1 e List.mem_cons_self)
    have fwE : ∀ ρ, tsub ρ t = u → (∀ e ∈ E, tsub ρ e.t = e.u) ∧ FwC Cn ρ := fun ρ e1 => ⟨fun e' m => (fwd ρ e1).1 e' (List.mem_cons_of_mem _ m), (fwd ρ e1).2⟩
    have szE : ∀ e ∈ E, e.u.size < 1000 ∧ ∀ n ∈ vars e.t, n ∈ vars t := fun e' m => szA e' (List.mem_cons_of_mem _ m)
    rw [hZ, nil_tail]
    simp only [wS_nil, wS_cons, wS_asg, wS_asc, wS_asg2, wS_sat, wS_sit, wS_aug, wS_ex, wS_iff, wS_whl, wS_for, wS_ret, wS_cnt, wS_wild, wS_frz, wT_not, wT_cmp, wT_and, wT_and3, wT_or, wT_ite, wT_var, wT_bol, wT_sub, wT_call, wT_mth, wL_nil, wL_cons, wE_var, wE_glb, wE_int, wE_str, wE_bol, wE_neg, wE_not, wE_bin, wE_cmp, wE_and, wE_or, wE_ite, wE_sub, wE_slc, wE_atr, wE_tup, wE_lst, wE_dct, wE_call, wE_new, wE_mth, wE_bif, wE_app, wE_pop, wE_rev, wE_get, wE_sad, wE_cpr, f79]
    refine k_is_variable (n := n + 5) (h := h) ok C (den_CK eo.dp) ?_
    by_cases hv : ∃ k, e.t = .v k
    · obtain ⟨k1, et⟩ := hv
      have ep : e.p = (0, k1) := by have := eo.dp; rw [et] at this; exact this.1
      have dv : decide (e.p.1 = 0) = true := by rw [ep]; rfl
      rw [dv]
      show wpS c (n + 6) U0 ⟨O3, fr2⟩ K
      rw [hU0]
      have nfx : ¬ ((k1 : Int) ∈ FX) := fun mm => by
        obtain ⟨n', m', e'⟩ := lFX _ mm
        have : k1 = n' := by omega
        subst this
        exact dj k1 ((szA _ List.mem_cons_self).2 k1 (by rw [et]; simp [vars])) m'
      refine su0_ok (n := n) ok C W2 Y CI hx3 hf3 (by omega) nfx eo.dq eo.wq (by rw [f79, ep]) f80 g97 g98 g74 (fun nA => ?_) (fun r O' xx mr => ?_) (fun r w O' xx mr ne => ?_)
      · refine again0 (esum E) _ (by omega) ⟨⟨E, M, (k1, e.q, e.u) :: Cn, (up_ne wch).trans hw3, (up_ne m_ch).trans hm3, up_at _ _ _, I.drop (relS.mono fun _ m => List.mem_cons_of_mem _ m) (.inl (by rw [et]; exact ⟨e.q, List.mem_cons_self⟩)), ⟨fun x r w r' w' m1 m2 => ?_, fun x r w m => ?_⟩, fun ρ e1 => ⟨(fwE ρ e1).1, ⟨fun x r w m => ?_⟩⟩, szE, rfl, by simp only [List.length_cons]; omega⟩, x3.upd och, (up_ne (Ne.symm ch_fx)).trans hx3, g74, g76, g90, g97, g98⟩
        · rcases List.mem_cons.mp m1 with q1 | q1 <;> rcases List.mem_cons.mp m2 with q2 | q2
          · cases q1; cases q2; exact ⟨rfl, rfl⟩
          · cases q1; exact absurd ⟨_, _, q2⟩ nA
          · cases q2; exact absurd ⟨_, _, q1⟩ nA
          · exact CI.fn _ _ _ _ _ q1 q2
        · rcases List.mem_cons.mp m with q1 | q1
          · cases q1; exact ⟨eo.dq, eo.wq, (szA _ List.mem_cons_self).1⟩
          · exact CI.ok x r w q1
        · rcases List.mem_cons.mp m with q1 | q1
          · cases q1
            have := (fwd ρ e1).1 e List.mem_cons_self
            rw [et] at this
            exact this
          · exact (fwE ρ e1).2.at_ x r w q1
      · exact again0 (esum E) _ (by omega) ⟨⟨E, M, Cn, xx.get hw3, xx.get hm3, xx.get hf3, I.drop (fun _ _ z => z) (.inl (by rw [et]; exact ⟨r, mr⟩)), CI, fwE, szE, rfl, by omega⟩, x3.trans xx, xx.get hx3, g74, g76, g90, g97, g98⟩
      · refine bad O' _ (x3.trans xx) fun ρ e1 fc e2 => ne ?_
        rw [et] at e2
        exact (fc.at_ _ _ _ mr).symm.trans e2
    · have nv : ∀ k, e.t ≠ .v k := fun k z => hv ⟨k, z⟩
      have dv : decide (e.p.1 = 0) = false := decide_eq_false fun z => by
        have dp := eo.dp
        cases ht : e.t with
        | v k => exact nv k ht
        | a k => rw [ht] at dp; rw [show e.p = (4, k) from dp] at z; cases z
        | i k => rw [ht] at dp; rw [show e.p = (5, k) from dp] at z; cases z
        | s1 f x => rw [ht] at dp; obtain ⟨b, q, e1, _⟩ := dp; rw [e1] at z; cases z
        | s2 f x y => rw [ht] at dp; obtain ⟨b, q, r, e1, _⟩ := dp; rw [e1] at z; cases z
      rw [dv]
      show wpS c (n + 6) P0 ⟨O3, fr2⟩ K
      rw [hP0]
      refine pt0_ok (n := n + 2) ok C ⟨W2, apw, apm, wm, hw3, hm3, g74, g76, f79, f80, g90⟩ eo.dp eo.dq eo.wp eo.wq nv (relS_leaf nv) I (by omega) (fun no => bad O3 fr2 x3 fun ρ e1 _ e2 => no _ (sub_FwOk ρ) e2) fun O4 E3 M3 x4 hw4 hm4 I3 fw3 l1 l2 => ?_
      have ne1 : fx ∉ [wk, m] := by simp [Ne.symm wfx, Ne.symm m_fx]
      have ne2 : ch ∉ [wk, m] := by simp [Ne.symm wch, Ne.symm m_ch]
      have x5 : Ext O O4 := fun b hb => by
        have b1 : b ≠ wk := fun e => by rw [e, owk] at hb; cases hb
        have b2 : b ≠ m := fun e => by rw [e, om] at hb; cases hb
        have := x3 b hb
        rw [x4 b (by simp [b1, b2]) (by rw [this]; exact hb), this]
      exact again0 (esum E3) _ (by omega) ⟨⟨E3, M3, Cn, hw4, hm4, x4.get ne2 hf3, I3, CI, fun ρ e1 => ⟨fw3 _ (sub_FwOk ρ).toS (fwE ρ e1).1 ((fwd ρ e1).1 e List.mem_cons_self), (fwE ρ e1).2⟩, fw3 _ (siz_FwS (vars t)) szE (szA e List.mem_cons_self), rfl, by omega⟩, x5, x4.get ne1 hx3, g74, g76, g90, g97, g98⟩
end
end Mine

namespace Mine

noncomputable def anV (ts : List Str) : List (Str × AV) := ts.zipIdx.map fun p => (p.1, AV.int (p.2 : Nat))
noncomputable def anM (ts : List Str) : MO := if ts = [] then .dictI [] else .dictS (anV ts)
noncomputable def fnV (fs : List (Nat × Nat)) : List (List Int × AV) := fs.zipIdx.map fun p => ([(p.1.1 : Int), (p.1.2 : Int)], AV.int (p.2 : Nat))
noncomputable def fnM (fs : List (Nat × Nat)) : MO := if fs = [] then .dictI [] else .dictT (fnV fs)
theorem anV_snoc (ts : List Str) (s : Str) : anV (ts ++ [s]) = anV ts ++ [(s, .int (ts.length : Nat))] := by
  unfold anV; rw [List.zipIdx_append]; simp
theorem fnV_snoc (fs : List (Nat × Nat)) (p : Nat × Nat) : fnV (fs ++ [p]) = fnV fs ++ [([(p.1 : Int), (p.2 : Int)], .int (fs.length : Nat))] := by
  unfold fnV; rw [List.zipIdx_append]; simp
theorem anV_len (ts : List Str) : (anV ts).length = ts.length := by unfold anV; simp
theorem fnV_len (fs : List (Nat × Nat)) : (fnV fs).length = fs.length := by unfold fnV; simp
theorem dget_none {K : Type} [DecidableEq K] {l : List (K × AV)} {k : K} (h : ∀ p ∈ l, p.1 ≠ k) : dget l k = none := by
  unfold dget
  rw [List.find?_eq_none.mpr fun p m => by simpa using h p m]; rfl
theorem dget_some {K : Type} [DecidableEq K] {l : List (K × AV)} {k : K} {v : AV} (m : (k, v) ∈ l) (u : ∀ w, (k, w) ∈ l → w = v) : dget l k = some v := by
  unfold dget
  cases e : l.find? fun p => decide (p.1 = k) with
  | none => have := List.find?_eq_none.mp e (k, v) m; simp at this
  | some p =>
    have h1 := List.find?_some e
    have h2 := List.mem_of_find?_eq_some e
    simp at h1
    obtain ⟨a, b⟩ := p
    subst h1
    rw [u b h2]; rfl
theorem anV_get {ts : List Str} (nd : ts.Nodup) {i : Nat} {s : Str} (e : ts[i]? = some s) : dget (anV ts) s = some (.int (i : Nat)) := by
  refine dget_some ?_ fun w m => ?_
  · unfold anV
    exact List.mem_map.mpr ⟨(s, i), List.mem_zipIdx_iff_getElem?.mpr e, rfl⟩
  · unfold anV at m
    obtain ⟨⟨s', j⟩, mm, e2⟩ := List.mem_map.mp m
    have mm := List.mem_zipIdx_iff_getElem?.mp mm
    simp at e2 mm
    obtain ⟨rfl, rfl⟩ := e2
    rw [nodup_get nd mm e]
theorem anV_none {ts : List Str} {s : Str} (h : s ∉ ts) : dget (anV ts) s = none := dget_none fun p m e => by
  unfold anV at m
  obtain ⟨⟨s', j⟩, mm, rfl⟩ := List.mem_map.mp m
  have mm := List.mem_zipIdx_iff_getElem?.mp mm
  simp at e mm
  subst e
  exact h (List.mem_of_getElem? mm)
theorem fnV_get {fs : List (Nat × Nat)} (nd : fs.Nodup) {i : Nat} {p : Nat × Nat} (e : fs[i]? = some p) : dget (fnV fs) [(p.1 : Int), (p.2 : Int)] = some (.int (i : Nat)) := by
  refine dget_some ?_ fun w m => ?_
  · unfold fnV
    exact List.mem_map.mpr ⟨(p, i), List.mem_zipIdx_iff_getElem?.mpr e, rfl⟩
  · unfold fnV at m
    obtain ⟨⟨⟨a, b⟩, j⟩, mm, e2⟩ := List.mem_map.mp m
    have mm := List.mem_zipIdx_iff_getElem?.mp mm
    simp at e2 mm
    obtain ⟨⟨e3, e4⟩, rfl⟩ := e2
    have : ((a, b) : Nat × Nat) = p := Prod.ext (by simpa using (by omega : a = p.1)) (by simpa using (by omega : b = p.2))
    subst this
    rw [nodup_get nd mm e]
theorem fnV_none {fs : List (Nat × Nat)} {p : Nat × Nat} (h : p ∉ fs) : dget (fnV fs) [(p.1 : Int), (p.2 : Int)] = none := dget_none fun q m e => by
  unfold fnV at m
  obtain ⟨⟨⟨a, b⟩, j⟩, mm, rfl⟩ := List.mem_map.mp m
  have mm := List.mem_zipIdx_iff_getElem?.mp mm
  simp at e mm
  have : ((a, b) : Nat × Nat) = p := Prod.ext (by simpa using (by omega : a = p.1)) (by simpa using (by omega : b = p.2))
  subst this
  exact h (List.mem_of_getElem? mm)
theorem dputS_new {K : Type} [DecidableEq K] {l : List (K × AV)} {k : K} {v : AV} (h : ∀ p ∈ l, p.1 ≠ k) : dput l k v = l ++ [(k, v)] := by
  unfold dput
  rw [if_neg]
  simp
  intro a m
  exact h (k, a) m rfl
theorem anV_keys {ts : List Str} {s : Str} (h : s ∉ ts) : ∀ p ∈ anV ts, p.1 ≠ s := fun p m e => by
  unfold anV at m
  obtain ⟨⟨s', j⟩, mm, rfl⟩ := List.mem_map.mp m
  have mm := List.mem_zipIdx_iff_getElem?.mp mm
  simp at e mm
  subst e
  exact h (List.mem_of_getElem? mm)
theorem fnV_keys {fs : List (Nat × Nat)} {p : Nat × Nat} (h : p ∉ fs) : ∀ q ∈ fnV fs, q.1 ≠ [(p.1 : Int), (p.2 : Int)] := fun q m e => by
  unfold fnV at m
  obtain ⟨⟨⟨a, b⟩, j⟩, mm, rfl⟩ := List.mem_map.mp m
  have mm := List.mem_zipIdx_iff_getElem?.mp mm
  simp at e mm
  have : ((a, b) : Nat × Nat) = p := Prod.ext (by simpa using (by omega : a = p.1)) (by simpa using (by omega : b = p.2))
  subst this
  exact h (List.mem_of_getElem? mm)

noncomputable def fixedA : List Str := (["[]", ".", "{}", "-", "+", "*", "/", ",", "|", ";", "->", "\\+", ":-", "?-", "-->", "!", "true", "fail", "false", "call", "=", "^", "error", "", "end_of_file", "system", "$VAR", "catch", "throw"] : List String).map Str.ofString
noncomputable def fixedF : List (Str × Nat) := ([(".", 2), (",", 2), (";", 2), ("->", 2), ("\\+", 1), (":-", 2), (":-", 1), ("?-", 1), ("-->", 2), ("{}", 1), ("=", 2), ("^", 2), ("-", 1), ("-", 2), ("+", 2), ("/", 2), ("error", 2), ("$VAR", 1), ("catch", 3), ("throw", 1), ("!", 0), ("true", 0), ("fail", 0), ("false", 0), ("call", 1), ("call", 2), ("call", 3), ("call", 4), ("call", 5), ("call", 6), ("call", 7), ("call", 8)] : List (String × Nat)).map fun p => (Str.ofString p.1, p.2)
noncomputable def univ : List Str := fixedA ++ [Str.ofString "p", Str.ofString "f"]

theorem nodup_le {α : Type} [DecidableEq α] : ∀ (l m : List α), l.Nodup → (∀ x ∈ l, x ∈ m) → l.length ≤ m.length
  | [], _, _, _ => Nat.zero_le _
  | x :: l, m, nd, h => by
    rw [List.nodup_cons] at nd
    have mx : x ∈ m := h x List.mem_cons_self
    have := nodup_le l (m.erase x) nd.2 fun y my => (List.mem_erase_of_ne (fun e : y = x => nd.1 (e ▸ my))).mpr (h y (List.mem_cons_of_mem _ my))
    rw [List.length_erase_of_mem mx] at this
    have := List.length_pos_of_mem mx
    simp; omega

structure YA where
  y : Addr
  tx : Addr
  an : Addr
  fu : Addr
  fn : Addr
noncomputable def YA.v (y : YA) : AV := .inst y.y 154 [(114, .ref y.tx), (115, .ref y.an), (116, .ref y.fu), (117, .ref y.fn)]
noncomputable def YA.l (y : YA) : List Addr := [y.tx, y.an, y.fu, y.fn]
structure SymS (y : YA) (ts : List Str) (fs : List (Nat × Nat)) (O : Objs) : Prop where
  tx : O y.tx = some (.list (ts.map .str))
  an : O y.an = some (anM ts)
  fu : O y.fu = some (.list (fs.map cl))
  fn : O y.fn = some (fnM fs)
  ap : y.tx ≠ y.an ∧ y.tx ≠ y.fu ∧ y.tx ≠ y.fn ∧ y.an ≠ y.fu ∧ y.an ≠ y.fn ∧ y.fu ≠ y.fn
  nt : ts.Nodup
  nf : fs.Nodup
  ut : ∀ t ∈ ts, t ∈ univ
  uf : ∀ p ∈ fs, p.1 < ts.length ∧ p.2 < 9
theorem SymS.lt {y : YA} {ts : List Str} {fs : List (Nat × Nat)} {O : Objs} (s : SymS y ts fs O) : ts.length ≤ 31 := nodup_le ts univ s.nt s.ut
theorem SymS.lf {y : YA} {ts : List Str} {fs : List (Nat × Nat)} {O : Objs} (s : SymS y ts fs O) : fs.length ≤ 279 := by
  have := nodup_le fs ((List.range 31).flatMap fun i => (List.range 9).map fun j => (i, j)) s.nf fun p m => by
    obtain ⟨h1, h2⟩ := s.uf p m
    have := s.lt
    simp only [List.mem_flatMap, List.mem_range, List.mem_map]
    exact ⟨p.1, by omega, p.2, h2, rfl⟩
  exact Nat.le_trans this (by decide +kernel)


section
variable {c : Cx} {n : Nat} {y : YA} {ts : List Str} {fs : List (Nat × Nat)} {O O' : Objs} {Q : AV → Objs → Prop}

theorem getA_an {O : Objs} {w : Addr} {ts : List Str} (e : O w = some (anM ts)) (s : Str) (d : AV) (Q : AV → Objs → Prop) : getA O (.ref w) (.str s) d Q = Q ((dget (anV ts) s).getD d) O := by
  show getM (O w) (.str s) d (fun w => Q w O) = _
  rw [e]
  unfold anM
  split
  · rename_i h; subst h; rfl
  · rfl
theorem getA_fn {O : Objs} {w : Addr} {fs : List (Nat × Nat)} (e : O w = some (fnM fs)) (i j : Int) (d : AV) (Q : AV → Objs → Prop) : getA O (.ref w) (.tup [.int i, .int j]) d Q = Q ((dget (fnV fs) [i, j]).getD d) O := by
  show getM (O w) (.tup [.int i, .int j]) d (fun w => Q w O) = _
  rw [e]
  unfold fnM
  split
  · rename_i h; subst h; rfl
  · rfl
theorem dctA_an {O : Objs} {w : Addr} {ts : List Str} (e : O w = some (anM ts)) : dctA O (.ref w) = True := by
  unfold anM at e
  split at e
  · exact eq_true (.inl ⟨_, e⟩)
  · exact eq_true (.inr (.inl ⟨_, e⟩))
theorem dctA_fn {O : Objs} {w : Addr} {fs : List (Nat × Nat)} (e : O w = some (fnM fs)) : dctA O (.ref w) = True := by
  unfold fnM at e
  split at e
  · exact eq_true (.inl ⟨_, e⟩)
  · exact eq_true (.inr (.inr ⟨_, e⟩))
theorem sitA_an {O : Objs} {w : Addr} {ts : List Str} (e : O w = some (anM ts)) {s : Str} (h : s ∉ ts) (hl : ts.length < 1000) (Q : Objs → Prop) (q : Q (up O w (anM (ts ++ [s])))) : sitA O (.ref w) (.str s) (.int (ts.length : Nat)) Q := by
  have e2 : anM (ts ++ [s]) = .dictS (anV ts ++ [(s, .int (ts.length : Nat))]) := by unfold anM; rw [if_neg (by simp), anV_snoc]
  rw [e2] at q
  show sitM (O w) (.str s) (.int (ts.length : Nat)) (fun m => Q (up O w m))
  rw [e]
  unfold anM
  split
  · rename_i z; subst z; exact ⟨rfl, q⟩
  · show _ ∧ _
    rw [dputS_new (anV_keys h), anV_len]
    exact ⟨by unfold lim; omega, q⟩
theorem sitA_fn {O : Objs} {w : Addr} {fs : List (Nat × Nat)} (e : O w = some (fnM fs)) {p : Nat × Nat} (h : p ∉ fs) (hl : fs.length < 1000) (Q : Objs → Prop) (q : Q (up O w (fnM (fs ++ [p])))) : sitA O (.ref w) (.tup [.int p.1, .int p.2]) (.int (fs.length : Nat)) Q := by
  have e2 : fnM (fs ++ [p]) = .dictT (fnV fs ++ [([(p.1 : Int), (p.2 : Int)], .int (fs.length : Nat))]) := by unfold fnM; rw [if_neg (by simp), fnV_snoc]
  rw [e2] at q
  show sitM (O w) (.tup [.int p.1, .int p.2]) (.int (fs.length : Nat)) (fun m => Q (up O w m))
  rw [e]
  unfold fnM
  split
  · rename_i z; subst z; exact ⟨rfl, q⟩
  · show (fnV fs).length < lim ∧ Q (up O w (.dictT (dput (fnV fs) [(p.1 : Int), (p.2 : Int)] _)))
    rw [dputS_new (fnV_keys h), fnV_len]
    exact ⟨by unfold lim; omega, q⟩

theorem k_atom (ok : c.Ok) (C : Code c.K) (Y : SymS y ts fs O) {s : Str} (us : s ∈ univ)
    (q : ∀ ts' i O', SymS y ts' fs O' → ts <+: ts' → ts'[i]? = some s → ExtD y.l O O' → Q (.int (i : Nat)) O') : CallOK c (n + 1) 88 [y.v, .str s] O Q := by
  refine fn_call ok C.Symbols_atom C.b_Symbols_atom rfl (fun _ => .nil) ?_
  have lt := Y.lt
  by_cases h : s ∈ ts
  · obtain ⟨i, hi⟩ := List.mem_iff_getElem?.mp h
    exact rAsg (.int i) (vGet (of_eq_true (dctA_an Y.an)) (fun P p => by rw [getA_an Y.an, anV_get Y.nt hi]; exact p) (vAtr1 rfl rfl) (fun _ h => h) fun _ h => h) (rIfT (tCmp (o := .GtE) (x := .int i) (y := .int 0) (congrArg some (decide_eq_true (Int.natCast_nonneg i))) (fun _ h => h) fun _ h => h) (rRet (.int i) (fun _ h => h) (q ts i O Y (List.prefix_refl _) hi (.refl _ _))))
  · obtain ⟨a1, a2, a3, a4, a5, a6⟩ := Y.ap
    refine rAsg (.int (-1)) (vGet (of_eq_true (dctA_an Y.an)) (fun P p => by rw [getA_an Y.an, anV_none h]; exact p) (vAtr1 rfl rfl) (fun _ h => h) fun _ h => h) (rIfF (tCmp (o := .GtE) (x := .int (-1)) (y := .int 0) (congrArg some (decide_eq_false (by decide))) (fun _ h => h) fun _ h => h) (rNx (rAsg (.int ts.length) (vLen Y.tx (List.length_map ..) (Nat.lt_of_le_of_lt lt (by decide)) (vAtr1 rfl rfl)) (sApp Y.tx (by rw [List.length_map]; exact Nat.lt_of_le_of_lt lt (by decide)) (vAtr1 rfl rfl) (fun _ h => h) ?_))))
    have e1 : up O y.tx (.list (ts.map AV.str ++ [.str s])) y.an = some (anM ts) := (up_ne (Ne.symm a1)).trans Y.an
    refine rSit (v := .int ts.length) (fun _ h => h) (vAtr1 rfl rfl) (fun _ h => h) (sitA_an e1 h (Nat.lt_of_le_of_lt lt (by decide)) _ (rRet (.int ts.length) (fun _ h => h) ?_))
    refine q (ts ++ [s]) ts.length _ ⟨?_, up_at _ _ _, ?_, ?_, Y.ap, ?_, Y.nf, ?_, ?_⟩ (List.prefix_append _ _) (by simp) ?_
    · exact (up_ne a1).trans ((up_at _ _ _).trans (by rw [List.map_append]; rfl))
    · exact (up_ne (Ne.symm a4)).trans ((up_ne (Ne.symm a2)).trans Y.fu)
    · exact (up_ne (Ne.symm a5)).trans ((up_ne (Ne.symm a3)).trans Y.fn)
    · rw [List.nodup_append]; exact ⟨Y.nt, by simp, fun x m z mz => by simp at mz; subst mz; exact fun e => h (e ▸ m)⟩
    · intro t m
      rcases List.mem_append.mp m with m | m
      · exact Y.ut t m
      · simp at m; subst m; exact us
    · intro p m
      have := Y.uf p m
      simp; omega
    · exact (ExtD.up (by simp [YA.l])).trans (ExtD.up (by simp [YA.l]))

theorem k_functor (ok : c.Ok) (C : Code c.K) (Y : SymS y ts fs O) {i r : Nat} (hi : i < ts.length) (hr : r < 9)
    (q : ∀ fs' j O', SymS y ts fs' O' → fs <+: fs' → fs'.length ≤ fs.length + 1 → fs'[j]? = some (i, r) → ExtD y.l O O' → Q (.int (j : Nat)) O') : CallOK c (n + 1) 102 [y.v, .int i, .int r] O Q := by
  refine fn_call ok C.Symbols_functor C.b_Symbols_functor rfl (fun _ => .nil) ?_
  have lf := Y.lf
  refine rAsg (.tup [.int i, .int r]) (vTup2 (fun _ h => h) fun _ h => h) ?_
  by_cases h : ((i, r) : Nat × Nat) ∈ fs
  · obtain ⟨j, hj⟩ := List.mem_iff_getElem?.mp h
    have g : dget (fnV fs) [(i : Int), (r : Int)] = some (.int j) := fnV_get Y.nf hj
    exact rAsg (.int j) (vGet (of_eq_true (dctA_fn Y.fn)) (fun P p => by rw [getA_fn Y.fn, g]; exact p) (vAtr1 rfl rfl) (fun _ h => h) fun _ h => h) (rIfT (tCmp (o := .GtE) (x := .int j) (y := .int 0) (congrArg some (decide_eq_true (Int.natCast_nonneg j))) (fun _ h => h) fun _ h => h) (rRet (.int j) (fun _ h => h) (q fs j O Y (List.prefix_refl _) (Nat.le_succ _) hj (.refl _ _))))
  · have g : dget (fnV fs) [(i : Int), (r : Int)] = none := fnV_none h
    obtain ⟨a1, a2, a3, a4, a5, a6⟩ := Y.ap
    refine rAsg (.int (-1)) (vGet (of_eq_true (dctA_fn Y.fn)) (fun P p => by rw [getA_fn Y.fn, g]; exact p) (vAtr1 rfl rfl) (fun _ h => h) fun _ h => h) (rIfF (tCmp (o := .GtE) (x := .int (-1)) (y := .int 0) (congrArg some (decide_eq_false (by decide))) (fun _ h => h) fun _ h => h) (rNx (rAsg (.int fs.length) (vLen Y.fu (List.length_map ..) (Nat.lt_of_le_of_lt lf (by decide)) (vAtr1 rfl rfl)) (sApp (y := .tup [.int i, .int r]) Y.fu (by rw [List.length_map]; exact Nat.lt_of_le_of_lt lf (by decide)) (vAtr1 rfl rfl) (fun _ h => h) ?_))))
    have e1 : up O y.fu (.list (fs.map cl ++ [.tup [.int (i : Int), .int (r : Int)]])) y.fn = some (fnM fs) := (up_ne (Ne.symm a6)).trans Y.fn
    refine rSit (v := .int fs.length) (fun _ h => h) (vAtr1 rfl rfl) (fun _ h => h) (sitA_fn (p := (i, r)) e1 h (Nat.lt_of_le_of_lt lf (by decide)) _ (rRet (.int fs.length) (fun _ h => h) ?_))
    refine q (fs ++ [(i, r)]) fs.length _ ⟨?_, ?_, ?_, up_at _ _ _, Y.ap, Y.nt, ?_, Y.ut, ?_⟩ (List.prefix_append _ _) (by simp) (by simp) ?_
    · exact (up_ne a3).trans ((up_ne a2).trans Y.tx)
    · exact (up_ne a5).trans ((up_ne a4).trans Y.an)
    · exact (up_ne a6).trans ((up_at _ _ _).trans (by rw [List.map_append]; rfl))
    · rw [List.nodup_append]; exact ⟨Y.nf, by simp, fun x m z mz => by simp at mz; subst mz; exact fun e => h (e ▸ m)⟩
    · intro p m
      rcases List.mem_append.mp m with m | m
      · exact Y.uf p m
      · simp at m; subst m; exact ⟨hi, hr⟩
    · exact (ExtD.up (by simp [YA.l])).trans (ExtD.up (by simp [YA.l]))

theorem k_func (ok : c.Ok) (C : Code c.K) (Y : SymS y ts fs O) {s : Str} {r : Nat} (us : s ∈ univ) (hr : r < 9)
    (q : ∀ ts' fs' i j O', SymS y ts' fs' O' → ts <+: ts' → fs <+: fs' → fs'.length ≤ fs.length + 1 → ts'[i]? = some s → fs'[j]? = some (i, r) → ExtD y.l O O' → Q (.int (j : Nat)) O') : CallOK c (n + 2) 109 [y.v, .str s, .int r] O Q := by
  refine fn_call ok C.Symbols_func C.b_Symbols_func rfl (fun _ => .nil) ?_
  refine rRetC (rMth rfl (fun _ h => h) (aC (rMth rfl (fun _ h => h) (a1 (fun _ h => h) (k_atom (y := y) ok C Y us fun ts' i O' Y' pt hi x' => ?_)))))
  have li : i < ts'.length := (List.getElem?_eq_some_iff.mp hi).1
  refine a1 (fun _ h => h) (k_functor (y := y) ok C Y' li hr fun fs' j O'' Y'' pf lf hj x'' => ?_)
  exact q ts' fs' i j O'' Y'' pt pf lf hi hj (x'.trans x'')
end
end Mine

namespace Mine

structure SymG (ts : List Str) (fs : List (Nat × Nat)) : Prop where
  at2 : 2 ≤ ts.length
  dot : ∃ i, fs[0]? = some (i, 2) ∧ ts[i]? = some (Str.ofString ".")
theorem pre_get {α : Type} {l m : List α} (p : l <+: m) {i : Nat} {x : α} (e : l[i]? = some x) : m[i]? = some x := by
  obtain ⟨r, rfl⟩ := p
  rw [List.getElem?_append_left (List.getElem?_eq_some_iff.mp e).1]; exact e
theorem SymG.mono {ts ts' : List Str} {fs fs' : List (Nat × Nat)} (g : SymG ts fs) (p : ts <+: ts') (p' : fs <+: fs') : SymG ts' fs' :=
  ⟨Nat.le_trans g.at2 p.length_le, let ⟨i, e1, e2⟩ := g.dot; ⟨i, pre_get p' e1, pre_get p e2⟩⟩

section
variable {c : Cx} {n : Nat} {y : YA} {ts : List Str} {fs : List (Nat × Nat)} {O O' : Objs} {Q : AV → Objs → Prop}

theorem k_fixed_atoms (ok : c.Ok) (C : Code c.K) (q : Q (.tup (fixedA.map .str)) O) : CallOK c (n + 1) 60 [] O Q := by
  refine fn_call ok C.fixed_atoms C.b_fixed_atoms rfl (fun _ => .nil) ?_
  exact q
theorem k_fixed_functors (ok : c.Ok) (C : Code c.K) (q : Q (.tup (fixedF.map fun p => .tup [.str p.1, .int p.2])) O) : CallOK c (n + 1) 67 [] O Q := by
  refine fn_call ok C.fixed_functors C.b_fixed_functors rfl (fun _ => .nil) ?_
  exact q

theorem for_atoms (ok : c.Ok) (C : Code c.K) (v : AV) (full : List AV) (hv : ∀ O, seqOf O v = some full) : ∀ (l : List Str) (ts : List Str) (σ : St) (Q : Fl → St → Prop), (∀ s ∈ l, s ∈ univ) → SymS y ts fs σ.O → σ.fr 0 = some y.v →
    (∀ σ' ts', SymS y ts' fs σ'.O → ts <+: ts' → (∀ s ∈ l, s ∈ ts') → σ'.fr 0 = some y.v → ExtD y.l σ.O σ'.O → Q .next σ') →
    forL 32 v full (fun σ K => wpS c (n + 1) (.cons (.ex (.mth (.var 0) 31 154 88 (.cons (.var 32) .nil))) .nil) σ K) (l.map .str) σ Q
  | [], ts, σ, Q, _, Y, f0, q => q σ ts Y (List.prefix_refl _) (fun s m => nomatch m) f0 (.refl _ _)
  | s :: l, ts, σ, Q, hu, Y, f0, q => by
    show wpS c (n + 1) _ _ _
    have e0 : setf σ.fr 32 (.str s) 0 = some y.v := f0
    have e1 : setf σ.fr 32 (.str s) 32 = some (.str s) := rfl
    simp only [wS_nil, wS_cons, wS_asg, wS_asc, wS_asg2, wS_sat, wS_sit, wS_aug, wS_ex, wS_iff, wS_whl, wS_for, wS_ret, wS_cnt, wS_wild, wS_frz, wE_var, wE_glb, wE_int, wE_str, wE_bol, wE_neg, wE_not, wE_bin, wE_cmp, wE_and, wE_or, wE_ite, wE_sub, wE_slc, wE_atr, wE_tup, wE_lst, wE_dct, wE_call, wE_new, wE_mth, wE_bif, wE_app, wE_pop, wE_rev, wE_get, wE_sad, wE_cpr, wL_nil, wL_cons, e0, e1]
    simp only [YA.v]
    refine ⟨trivial, rfl, ?_⟩
    refine k_atom (y := y) ok C Y (hu s List.mem_cons_self) fun ts1 i O1 Y1 p1 hi x1 => ?_
    refine ⟨hv _, ?_⟩
    refine for_atoms ok C v full hv l ts1 _ Q (fun t m => hu t (List.mem_cons_of_mem _ m)) Y1 e0 fun σ' ts' Y' p' hm f' x' => ?_
    refine q σ' ts' Y' (p1.trans p') (fun t m => ?_) f' (x1.trans x')
    rcases List.mem_cons.mp m with rfl | m
    · exact List.mem_of_getElem? (pre_get p' hi)
    · exact hm t m

theorem for_funcs (ok : c.Ok) (C : Code c.K) (v : AV) (full : List AV) (hv : ∀ O, seqOf O v = some full) : ∀ (l : List (Str × Nat)) (ts : List Str) (fs : List (Nat × Nat)) (σ : St) (Q : Fl → St → Prop), (∀ s ∈ l, s.1 ∈ univ ∧ s.2 < 9) → SymS y ts fs σ.O → σ.fr 0 = some y.v →
    (∀ σ' ts' fs', SymS y ts' fs' σ'.O → ts <+: ts' → fs <+: fs' → (fs = [] → ∀ s r l', l = (s, r) :: l' → ∃ i, fs'[0]? = some (i, r) ∧ ts'[i]? = some s) → σ'.fr 0 = some y.v → ExtD y.l σ.O σ'.O → Q .next σ') →
    forL 100 v full (fun σ K => wpS c (n + 2) (.cons (.ex (.mth (.var 0) 34 154 109 (.cons (.sub (.var 100) (.int 0)) (.cons (.sub (.var 100) (.int 1)) .nil)))) .nil) σ K) (l.map fun p => .tup [.str p.1, .int p.2]) σ Q
  | [], ts, fs, σ, Q, _, Y, f0, q => q σ ts fs Y (List.prefix_refl _) (List.prefix_refl _) (fun _ s r l' e => nomatch e) f0 (.refl _ _)
  | (s, r) :: l, ts, fs, σ, Q, hu, Y, f0, q => by
    show wpS c (n + 2) _ _ _
    have e0 : setf σ.fr 100 (.tup [.str s, .int (r : Nat)]) 0 = some y.v := f0
    have e1 : setf σ.fr 100 (.tup [.str s, .int (r : Nat)]) 100 = some (.tup [.str s, .int (r : Nat)]) := rfl
    simp only [wS_nil, wS_cons, wS_asg, wS_asc, wS_asg2, wS_sat, wS_sit, wS_aug, wS_ex, wS_iff, wS_whl, wS_for, wS_ret, wS_cnt, wS_wild, wS_frz, wE_var, wE_glb, wE_int, wE_str, wE_bol, wE_neg, wE_not, wE_bin, wE_cmp, wE_and, wE_or, wE_ite, wE_sub, wE_slc, wE_atr, wE_tup, wE_lst, wE_dct, wE_call, wE_new, wE_mth, wE_bif, wE_app, wE_pop, wE_rev, wE_get, wE_sad, wE_cpr, wL_nil, wL_cons, e0, e1, sub0, sub1]
    simp only [YA.v]
    refine ⟨trivial, rfl, ?_⟩
    refine k_func (y := y) ok C Y (hu (s, r) List.mem_cons_self).1 (hu (s, r) List.mem_cons_self).2 fun ts1 fs1 i j O1 Y1 p1 p2 hl hi hj x1 => ?_
    refine ⟨hv _, ?_⟩
    refine for_funcs ok C v full hv l ts1 fs1 _ Q (fun t m => hu t (List.mem_cons_of_mem _ m)) Y1 e0 fun σ' ts' fs' Y' p' p'' hm f' x' => ?_
    refine q σ' ts' fs' Y' (p1.trans p') (p2.trans p'') (fun e s' r' l' e' => ?_) f' (x1.trans x')
    simp at e'
    obtain ⟨⟨rfl, rfl⟩, rfl⟩ := e'
    subst e
    have : j < fs1.length := (List.getElem?_eq_some_iff.mp hj).1
    have : j = 0 := by simp at hl; omega
    subst this
    exact ⟨i, pre_get p'' hj, pre_get p' hi⟩

theorem fixedA_u : ∀ s ∈ fixedA, s ∈ univ := fun s m => List.mem_append_left _ m
theorem fixedF_u : ∀ s ∈ fixedF, s.1 ∈ univ ∧ s.2 < 9 := by
  have : (fixedF.all fun s => decide (s.1 ∈ univ) && decide (s.2 < 9)) = true := by decide +kernel
  intro s m
  have := List.all_eq_true.mp this s m
  simpa using this

theorem k_new_symbols (ok : c.Ok) (C : Code c.K) (q : ∀ y ts fs O', SymS y ts fs O' → SymG ts fs → Ext O O' → (∀ b ∈ y.l, O b = none) → Q y.v O') : CallOK c (n + 5) 154 [] O Q := by
  refine new_call (n := n + 3) ok C.mk_Symbols C.Symbols_init C.b_Symbols_init rfl (fun _ => .nil) fun x dx ne ox od => ?_
  obtain ⟨L, hL⟩ : ∃ L : S, L = .cons (.for 32 (.call 1 60 .nil) (.cons (.ex (.mth (.var 0) 31 154 88 (.cons (.var 32) .nil))) .nil)) (.cons (.for 100 (.call 2 67 .nil) (.cons (.ex (.mth (.var 0) 34 154 109 (.cons (.sub (.var 100) (.int 0)) (.cons (.sub (.var 100) (.int 1)) .nil)))) .nil)) .nil) := ⟨_, rfl⟩
  rw [show ir_Symbols_init = .cons (.sat 0 114 154 (.lst .nil)) (.cons (.sat 0 115 154 .dct) (.cons (.sat 0 116 154 (.lst .nil)) (.cons (.sat 0 117 154 .dct) (.cons (.frz 0) L)))) by rw [hL]; rfl]
  generalize hfr : (lk (([0] : List Nat).zip _)) = fr
  have f0 : fr 0 = some (.ref x) := by rw [← hfr]; rfl
  have U := Under.start (C := 154) ne ox od
  have K0 : ∀ b, b ≠ x → b ≠ dx → up (up O dx (.att [])) x (.obj 154 dx) b = O b := fun b b1 b2 => (up_ne b1).trans (up_ne b2)
  generalize up (up O dx (.att [])) x (.obj 154 dx) = O2 at *
  refine cons_step (sat_new U (m := .list []) (fun _ h => h) f0 (Nat.le_of_ble_eq_true rfl) fun m1 h1 k1x k1d U K3 e1 => ?_)
  generalize up (up O2 m1 _) dx _ = O3 at *
  refine cons_step (sat_new U (m := .dictI []) (fun _ h => h) f0 (Nat.le_of_ble_eq_true rfl) fun m2 h2 k2x k2d U K4 e2 => ?_)
  have k21 : m2 ≠ m1 := fun e => by rw [e, e1] at h2; cases h2
  have e1' := (K4 m1 k1d (Ne.symm k21)).trans e1
  generalize up (up O3 m2 _) dx _ = O4 at *
  refine cons_step (sat_new U (m := .list []) (fun _ h => h) f0 (Nat.le_of_ble_eq_true rfl) fun m3 h3 k3x k3d U K5 e3 => ?_)
  have k31 : m3 ≠ m1 := fun e => by rw [e, e1'] at h3; cases h3
  have k32 : m3 ≠ m2 := fun e => by rw [e, e2] at h3; cases h3
  have e1'' := (K5 m1 k1d (Ne.symm k31)).trans e1'
  have e2' := (K5 m2 k2d (Ne.symm k32)).trans e2
  generalize up (up O4 m3 _) dx _ = O5 at *
  refine cons_step (sat_new U (m := .dictI []) (fun _ h => h) f0 (Nat.le_of_ble_eq_true rfl) fun m4 h4 k4x k4d U K6 e4 => ?_)
  have k41 : m4 ≠ m1 := fun e => by rw [e, e1''] at h4; cases h4
  have k42 : m4 ≠ m2 := fun e => by rw [e, e2'] at h4; cases h4
  have k43 : m4 ≠ m3 := fun e => by rw [e, e3] at h4; cases h4
  have g1 := (K6 m1 k1d (Ne.symm k41)).trans e1''
  have g2 := (K6 m2 k2d (Ne.symm k42)).trans e2'
  have g3 := (K6 m3 k3d (Ne.symm k43)).trans e3
  generalize up (up O5 m4 _) dx _ = O6 at *
  have o1 : O m1 = none := (K0 m1 k1x k1d).symm.trans h1
  have o2 : O m2 = none := (K0 m2 k2x k2d).symm.trans ((K3 m2 k2d k21).symm.trans h2)
  have o3 : O m3 = none := (K0 m3 k3x k3d).symm.trans ((K3 m3 k3d k31).symm.trans ((K4 m3 k3d k32).symm.trans h3))
  have o4 : O m4 = none := (K0 m4 k4x k4d).symm.trans ((K3 m4 k4d k41).symm.trans ((K4 m4 k4d k42).symm.trans ((K5 m4 k4d k43).symm.trans h4)))
  refine cons_step (frz_fin U f0 fun K8 => ?_)
  generalize dl (dl O6 x) dx = O1 at *
  have x0 : Ext O O1 := fun b hb => by
    have b1 : b ≠ x := fun e => by rw [e, ox] at hb; cases hb
    have b2 : b ≠ dx := fun e => by rw [e, od] at hb; cases hb
    have c1 : b ≠ m1 := fun e => by rw [e, o1] at hb; cases hb
    have c2 : b ≠ m2 := fun e => by rw [e, o2] at hb; cases hb
    have c3 : b ≠ m3 := fun e => by rw [e, o3] at hb; cases hb
    have c4 : b ≠ m4 := fun e => by rw [e, o4] at hb; cases hb
    exact (K8 b b1 b2).trans ((K6 b b2 c4).trans ((K5 b b2 c3).trans ((K4 b b2 c2).trans ((K3 b b2 c1).trans (K0 b b1 b2)))))
  have Y : SymS ⟨x, m1, m2, m3, m4⟩ [] [] O1 :=
    ⟨(K8 m1 k1x k1d).trans g1, (K8 m2 k2x k2d).trans g2, (K8 m3 k3x k3d).trans g3, (K8 m4 k4x k4d).trans e4, ⟨Ne.symm k21, Ne.symm k31, Ne.symm k41, Ne.symm k32, Ne.symm k42, Ne.symm k43⟩, .nil, .nil, (fun t m => nomatch m), (fun t m => nomatch m)⟩
  have hd : ∀ b ∈ (⟨x, m1, m2, m3, m4⟩ : YA).l, O b = none := by
    intro b m
    simp [YA.l] at m
    rcases m with rfl | rfl | rfl | rfl <;> assumption
  generalize hfr2 : setf fr 0 _ = fr2
  have f0 : fr2 0 = some (YA.v ⟨x, m1, m2, m3, m4⟩) := by rw [← hfr2]; rfl
  subst hL
  show CallOK c (n + 3) 60 [] O1 _
  refine k_fixed_atoms (n := n + 2) ok C ⟨by decide +kernel, ?_⟩
  refine for_atoms (y := ⟨x, m1, m2, m3, m4⟩) (n := n + 2) ok C _ _ (fun _ => rfl) fixedA [] _ _ fixedA_u Y f0 fun σ1 ts1 Y1 p1 hm f1 x1 => ?_
  show CallOK c (n + 3) 67 [] σ1.O _
  refine k_fixed_functors (n := n + 2) ok C ⟨by decide +kernel, ?_⟩
  refine for_funcs (y := ⟨x, m1, m2, m3, m4⟩) (n := n + 1) ok C _ _ (fun _ => rfl) fixedF ts1 [] _ _ fixedF_u Y1 f1 fun σ2 ts2 fs2 Y2 p2 p3 hf f2 x2 => ?_
  have G : SymG ts2 fs2 := by
    refine ⟨?_, hf rfl _ _ _ rfl⟩
    have : ([Str.ofString "[]", Str.ofString "."] : List Str).length ≤ ts1.length := nodup_le _ _ (by decide +kernel) fun s m => by
      simp at m
      rcases m with rfl | rfl
      · exact hm _ (by decide +kernel)
      · exact hm _ (by decide +kernel)
    exact Nat.le_trans this p2.length_le
  refine ⟨_, f2, q ⟨x, m1, m2, m3, m4⟩ ts2 fs2 _ Y2 G (fun b hb => ?_) hd⟩
  have nb : b ∉ (⟨x, m1, m2, m3, m4⟩ : YA).l := fun m => by rw [hd b m] at hb; cases hb
  have e1 := x0 b hb
  have e2 := x1 b nb (by show (O1 b).isSome = true; rw [e1]; exact hb)
  have e3 := x2 b nb (by show (σ1.O b).isSome = true; rw [e2]; show (O1 b).isSome = true; rw [e1]; exact hb)
  exact e3.trans (e2.trans e1)

theorem k_new_store (ok : c.Ok) (C : Code c.K) (q : ∀ x hp stk trl O', Ext O O' → O hp = none → O stk = none → O trl = none → hp ≠ stk → hp ≠ trl → stk ≠ trl → O' hp = some (.list []) → O' stk = some (.list []) → O' trl = some (.list []) → Q (stoV ⟨x, hp, stk, trl, y.y, y.tx, y.an, y.fu, y.fn⟩) O') : CallOK c (n + 2) 373 [y.v] O Q := by
  obtain ⟨tk, bt⟩ := C.b_Store_init
  refine new_call (n := n) (dv := [.int 100000]) ok C.mk_Store C.Store_init bt rfl (fun _ => .cons .int .nil) fun x dx ne ox od => ?_
  generalize hfr : (lk (([0, 73, 120] : List Nat).zip _)) = fr
  have f0 : fr 0 = some (.ref x) := by rw [← hfr]; rfl
  have f73 : fr 73 = some y.v := by rw [← hfr]; rfl
  have f120 : fr 120 = some (.int 100000) := by rw [← hfr]; rfl
  have U := Under.start (C := 373) ne ox od
  have K0 : ∀ b, b ≠ x → b ≠ dx → up (up O dx (.att [])) x (.obj 373 dx) b = O b := fun b b1 b2 => (up_ne b1).trans (up_ne b2)
  generalize up (up O dx (.att [])) x (.obj 373 dx) = O1 at *
  unfold ir_Store_init
  refine cons_step (sat_val (v := y.v) U (vVar f73) f0 (Nat.le_of_ble_eq_true rfl) fun U K1 => ?_)
  refine cons_step (sat_val (v := .int 100000) U (vVar f120) f0 (Nat.le_of_ble_eq_true rfl) fun U K2 => ?_)
  generalize hO2 : up (up O1 dx _) dx _ = O2 at *
  have K2' : ∀ b, b ≠ x → b ≠ dx → O2 b = O b := fun b b1 b2 => (K2 b b2).trans ((K1 b b2).trans (K0 b b1 b2))
  refine cons_step (sat_new U (m := .list []) (fun _ h => h) f0 (Nat.le_of_ble_eq_true rfl) fun m1 h1 a1 b1 U K3 e1 => ?_)
  generalize up (up O2 m1 _) dx _ = O3 at *
  refine cons_step (sat_new U (m := .list []) (fun _ h => h) f0 (Nat.le_of_ble_eq_true rfl) fun m2 h2 a2 b2 U K4 e2 => ?_)
  have n21 : m2 ≠ m1 := fun e => by rw [e, e1] at h2; cases h2
  have e1' := (K4 m1 b1 (Ne.symm n21)).trans e1
  generalize up (up O3 m2 _) dx _ = O4 at *
  refine cons_step (sat_new U (m := .list []) (fun _ h => h) f0 (Nat.le_of_ble_eq_true rfl) fun m3 h3 a3 b3 U K5 e3 => ?_)
  have n31 : m3 ≠ m1 := fun e => by rw [e, e1'] at h3; cases h3
  have n32 : m3 ≠ m2 := fun e => by rw [e, e2] at h3; cases h3
  have e1'' := (K5 m1 b1 (Ne.symm n31)).trans e1'
  have e2' := (K5 m2 b2 (Ne.symm n32)).trans e2
  generalize up (up O4 m3 _) dx _ = O5 at *
  refine cons_step (sat_val (v := .int 0) U (fun _ h => h) f0 (Nat.le_of_ble_eq_true rfl) fun U K6 => ?_)
  refine cons_step (sat_val (v := .int 0) U (fun _ h => h) f0 (Nat.le_of_ble_eq_true rfl) fun U K7 => ?_)
  generalize up (up O5 dx _) dx _ = O7 at *
  refine cons_step (frz_fin U f0 fun K8 => ?_)
  have d1 : O m1 = none := (K2' m1 a1 b1).symm.trans h1
  have d2 : O m2 = none := (K2' m2 a2 b2).symm.trans ((K3 m2 b2 n21).symm.trans h2)
  have d3 : O m3 = none := (K2' m3 a3 b3).symm.trans ((K3 m3 b3 n31).symm.trans ((K4 m3 b3 n32).symm.trans h3))
  have all : ∀ b, b ≠ x → b ≠ dx → dl (dl O7 x) dx b = O5 b := fun b b1 b2 => (K8 b b1 b2).trans ((K7 b b2).trans (K6 b b2))
  refine ⟨_, rfl, q x m1 m2 m3 _ (fun b hb => ?_) d1 d2 d3 (Ne.symm n21) (Ne.symm n31) (Ne.symm n32) ((all m1 a1 b1).trans e1'') ((all m2 a2 b2).trans e2') ((all m3 a3 b3).trans e3)⟩
  have z1 : b ≠ x := fun e => by rw [e, ox] at hb; cases hb
  have z2 : b ≠ dx := fun e => by rw [e, od] at hb; cases hb
  have z3 : b ≠ m1 := fun e => by rw [e, d1] at hb; cases hb
  have z4 : b ≠ m2 := fun e => by rw [e, d2] at hb; cases hb
  have z5 : b ≠ m3 := fun e => by rw [e, d3] at hb; cases hb
  exact (all b z1 z2).trans ((K5 b z2 z5).trans ((K4 b z2 z4).trans ((K3 b z2 z3).trans (K2' b z1 z2))))
end
end Mine

namespace Mine

/-! put_term: the plain invariant -/
noncomputable def enc : T → AV
  | .v n => .tup [.str (Str.ofString "v"), .int (n : Nat)]
  | .a k => .tup [.str (Str.ofString "a"), .int (k : Nat)]
  | .i k => .tup [.str (Str.ofString "i"), .int (k : Nat)]
  | .s1 f x => .tup [.str (Str.ofString "s"), .int (f : Nat), .tup [enc x]]
  | .s2 f x y => .tup [.str (Str.ofString "s"), .int (f : Nat), .tup [enc x, enc y]]
inductive IsS : T → Nat → List T → Prop
  | s1 (f : Nat) (x : T) : IsS (.s1 f x) f [x]
  | s2 (f : Nat) (x y : T) : IsS (.s2 f x y) f [x, y]
noncomputable def gr : T → Nat
  | .v _ => 0
  | .a _ => 0
  | .i _ => 0
  | .s1 _ x => gr x + 2
  | .s2 _ x y => gr x + gr y + 3
noncomputable def gsum : List T → Nat
  | [] => 0
  | u :: us => gr u + gsum us
noncomputable def ssum : List T → Nat
  | [] => 0
  | u :: us => u.size + ssum us
theorem gsum_app (l m : List T) : gsum (l ++ m) = gsum l + gsum m := by
  induction l with
  | nil => simp [gsum]
  | cons x l ih => simp [gsum, ih]; omega
noncomputable def pd : Nat → List T → List (Nat × T)
  | _, [] => []
  | pl, u :: us => (pl, u) :: pd (pl + 1) us
theorem pd_snd : ∀ (pl : Nat) (us : List T), (pd pl us).map (·.2) = us
  | _, [] => rfl
  | pl, u :: us => by simp [pd, pd_snd]
theorem pd_len : ∀ (pl : Nat) (us : List T), (pd pl us).length = us.length
  | _, [] => rfl
  | pl, u :: us => by simp [pd, pd_len]
theorem pd_mem : ∀ (pl : Nat) (us : List T) (p : Nat × T), p ∈ pd pl us → pl ≤ p.1 ∧ p.1 < pl + us.length ∧ p.2 ∈ us
  | _, [], p, m => by simp [pd] at m
  | pl, u :: us, p, m => by
    simp only [pd, List.mem_cons] at m
    rcases m with rfl | m
    · simp
    · have := pd_mem (pl + 1) us p m
      refine ⟨by omega, by simp; omega, List.mem_cons_of_mem _ this.2.2⟩
theorem pd_nd : ∀ (pl : Nat) (us : List T), ((pd pl us).map (·.1)).Nodup
  | _, [] => .nil
  | pl, u :: us => by
    simp only [pd, List.map_cons, List.nodup_cons]
    refine ⟨fun m => ?_, pd_nd _ _⟩
    obtain ⟨p, m, e⟩ := List.mem_map.mp m
    have := pd_mem (pl + 1) us p m
    have e : p.1 = pl := e
    omega
noncomputable def slots (b m : Nat) : Hp := (List.range m).map fun i => (0, b + i)
theorem slots_len (b m : Nat) : (slots b m).length = m := by simp [slots]
theorem slots_get (b m k : Nat) (h : k < m) : (slots b m)[k]? = some (0, b + k) := by simp [slots, h]

theorem den_bl {H : Hp} {ρ : Nat → Nat} {u : T} {f b : Nat} {us : List T} (s : IsS u f us) (e : H[b]? = some (6, f)) (k : ∀ p ∈ pd (b + 1) us, ∃ q, H[p.1]? = some q ∧ den H q (ren ρ p.2)) : den H (2, b) (ren ρ u) := by
  cases s with
  | s1 f x =>
    obtain ⟨q, e1, d1⟩ := k (b + 1, x) (by simp [pd])
    exact ⟨b, q, rfl, e, e1, d1⟩
  | s2 f x y =>
    obtain ⟨q, e1, d1⟩ := k (b + 1, x) (by simp [pd])
    obtain ⟨r, e2, d2⟩ := k (b + 1 + 1, y) (by simp [pd])
    exact ⟨b, q, r, rfl, e, e1, e2, d1, d2⟩
theorem gr_bl {u : T} {f : Nat} {us : List T} (s : IsS u f us) : gr u = 1 + us.length + gsum us := by cases s <;> simp [gr, gsum] <;> omega
theorem sz_bl {u : T} {f : Nat} {us : List T} (s : IsS u f us) : u.size = ssum us + 1 := by cases s <;> simp [T.size, ssum]
theorem vars_bl {u : T} {f : Nat} {us : List T} (s : IsS u f us) {n : Nat} (m : n ∈ vars u) : ∃ x ∈ us, n ∈ vars x := by
  cases s with
  | s1 f x => exact ⟨x, by simp, by simpa [vars] using m⟩
  | s2 f x y =>
    simp [vars] at m
    rcases m with m | m
    · exact ⟨x, by simp, m⟩
    · exact ⟨y, by simp, m⟩

structure PI (h0 : Hp) (t : T) (r : Nat × Nat) (h : Hp) (F : List (Nat × Nat)) (P : List (Nat × T)) : Prop where
  pre : ∀ k, k < h0.length → h[k]? = h0[k]?
  le : h0.length ≤ h.length
  slot : ∀ p ∈ P, h[p.1]? = some (0, p.1) ∧ h0.length ≤ p.1
  nd : (P.map (·.1)).Nodup
  fk : ∀ x y z, (x, y) ∈ F → (x, z) ∈ F → y = z
  fi : ∀ x y z, (x, z) ∈ F → (y, z) ∈ F → x = y
  fs : ∀ p ∈ F, h[p.2]? = some (0, p.2) ∧ h0.length ≤ p.2 ∧ p.2 ∉ P.map (·.1)
  cov : ∀ n ∈ vars t, (∃ y, (n, y) ∈ F) ∨ ∃ p ∈ P, n ∈ vars p.2
  sz : h.length + gsum (P.map (·.2)) = h0.length + gr t
  ln : F.length + P.length ≤ h.length
  res : ∀ H : Hp, (∀ k, k < h.length → k ∉ P.map (·.1) → H[k]? = h[k]?) → ∀ ρ : Nat → Nat, (∀ p ∈ F, ρ p.1 = p.2) → (∀ p ∈ P, ∃ q, H[p.1]? = some q ∧ den H q (ren ρ p.2)) → den H r (ren ρ t)

section
variable {h0 h : Hp} {t u : T} {r : Nat × Nat} {F : List (Nat × Nat)} {P : List (Nat × T)} {pl : Nat}

theorem PI.fill (I : PI h0 t r h F ((pl, u) :: P)) {q : Nat × Nat} (g0 : gr u = 0) (hv : ∀ n ∈ vars u, ∃ y, (n, y) ∈ F)
    (hq : ∀ H : Hp, (∀ p ∈ F, H[p.2]? = some (0, p.2)) → ∀ ρ : Nat → Nat, (∀ p ∈ F, ρ p.1 = p.2) → den H q (ren ρ u)) : PI h0 t r (h.set pl q) F P := by
  have s0 := I.slot (pl, u) List.mem_cons_self
  have nd := I.nd
  simp only [List.map_cons, List.nodup_cons] at nd
  have lp : pl < h.length := (List.getElem?_eq_some_iff.mp s0.1).1
  have keep : ∀ k, k ≠ pl → (h.set pl q)[k]? = h[k]? := fun k e => List.getElem?_set_ne (Ne.symm e)
  have fne : ∀ p ∈ F, p.2 ≠ pl ∧ p.2 ∉ P.map (·.1) := fun p m => by
    have := (I.fs p m).2.2
    simp only [List.map_cons, List.mem_cons, not_or] at this
    exact this
  refine ⟨fun k hk => ?_, by simpa using I.le, fun p m => ?_, nd.2, I.fk, I.fi, fun p m => ?_, fun n m => ?_, ?_, ?_, fun H hH ρ hρ hP => ?_⟩
  · rw [keep k (by have := s0.2; omega)]; exact I.pre k hk
  · rw [keep p.1 fun e => nd.1 (List.mem_map.mpr ⟨p, m, e⟩)]
    exact I.slot p (List.mem_cons_of_mem _ m)
  · rw [keep _ (fne p m).1]
    exact ⟨(I.fs p m).1, (I.fs p m).2.1, (fne p m).2⟩
  · rcases I.cov n m with x | ⟨p, mp, x⟩
    · exact .inl x
    · rcases List.mem_cons.mp mp with rfl | mp
      · exact .inl (hv n x)
      · exact .inr ⟨p, mp, x⟩
  · have := I.sz
    simp only [List.map_cons, gsum, g0] at this
    simp only [List.length_set]; omega
  · have := I.ln
    simp only [List.length_cons] at this
    simp only [List.length_set]; omega
  · have hF : ∀ p ∈ F, H[p.2]? = some (0, p.2) := fun p m => by
      have l2 : p.2 < h.length := (List.getElem?_eq_some_iff.mp (I.fs p m).1).1
      rw [hH p.2 (by simpa using l2) (fne p m).2, keep _ (fne p m).1]
      exact (I.fs p m).1
    refine I.res H (fun k hk nk => ?_) ρ hρ fun p m => ?_
    · simp only [List.map_cons, List.mem_cons, not_or] at nk
      rw [hH k (by simpa using hk) nk.2, keep k nk.1]
    · rcases List.mem_cons.mp m with rfl | m
      · refine ⟨q, ?_, hq H hF ρ hρ⟩
        show H[pl]? = some q
        rw [hH pl (by simpa using lp) nd.1, List.getElem?_set_self lp]
      · exact hP p m
theorem PI.fresh {n : Nat} (I : PI h0 t r h F ((pl, .v n) :: P)) (hn : ∀ y, (n, y) ∉ F) : PI h0 t r h (F ++ [(n, pl)]) P := by
  have s0 := I.slot (pl, .v n) List.mem_cons_self
  have nd := I.nd
  simp only [List.map_cons, List.nodup_cons] at nd
  have lp : pl < h.length := (List.getElem?_eq_some_iff.mp s0.1).1
  have fne : ∀ p ∈ F, p.2 ≠ pl ∧ p.2 ∉ P.map (·.1) := fun p m => by
    have := (I.fs p m).2.2
    simp only [List.map_cons, List.mem_cons, not_or] at this
    exact this
  refine ⟨I.pre, I.le, fun p m => I.slot p (List.mem_cons_of_mem _ m), nd.2, fun x y z m m' => ?_, fun x y z m m' => ?_, fun p m => ?_, fun k m => ?_, ?_, ?_, fun H hH ρ hρ hP => ?_⟩
  · simp only [List.mem_append, List.mem_singleton, Prod.mk.injEq] at m m'
    rcases m with m | ⟨rfl, rfl⟩ <;> rcases m' with m' | ⟨e, e'⟩
    · exact I.fk _ _ _ m m'
    · subst e; exact absurd m (hn _)
    · exact absurd m' (hn _)
    · exact e'.symm
  · simp only [List.mem_append, List.mem_singleton, Prod.mk.injEq] at m m'
    rcases m with m | ⟨rfl, rfl⟩ <;> rcases m' with m' | ⟨e, e'⟩
    · exact I.fi _ _ _ m m'
    · subst e'; exact absurd rfl (fne _ m).1
    · exact absurd rfl (fne _ m').1
    · exact e.symm
  · simp only [List.mem_append, List.mem_singleton] at m
    rcases m with m | rfl
    · exact ⟨(I.fs p m).1, (I.fs p m).2.1, (fne p m).2⟩
    · exact ⟨s0.1, s0.2, nd.1⟩
  · rcases I.cov k m with ⟨y, x⟩ | ⟨p, mp, x⟩
    · exact .inl ⟨y, List.mem_append_left _ x⟩
    · rcases List.mem_cons.mp mp with rfl | mp
      · simp [vars] at x
        subst x
        exact .inl ⟨pl, by simp⟩
      · exact .inr ⟨p, mp, x⟩
  · have := I.sz
    simpa [gsum, gr] using this
  · have := I.ln
    simp at this ⊢; omega
  · have eH : H[pl]? = some (0, pl) := by rw [hH pl lp nd.1]; exact s0.1
    refine I.res H (fun k hk nk => ?_) ρ (fun p m => hρ p (List.mem_append_left _ m)) fun p m => ?_
    · simp only [List.map_cons, List.mem_cons, not_or] at nk
      exact hH k hk nk.2
    · rcases List.mem_cons.mp m with rfl | m
      · have := hρ (n, pl) (by simp)
        refine ⟨(0, pl), eH, ?_⟩
        simp only at this
        simp only [ren, den, this]
        exact ⟨trivial, eH⟩
      · exact hP p m
theorem PI.block {f : Nat} {us : List T} (I : PI h0 t r h F ((pl, u) :: P)) (s : IsS u f us) : PI h0 t r ((h ++ (6, f) :: slots (h.length + 1) us.length).set pl (2, h.length)) F (P ++ pd (h.length + 1) us) := by
  have s0 := I.slot (pl, u) List.mem_cons_self
  have nd := I.nd
  simp only [List.map_cons, List.nodup_cons] at nd
  have lp : pl < h.length := (List.getElem?_eq_some_iff.mp s0.1).1
  have keep : ∀ k, k < h.length → k ≠ pl → ((h ++ (6, f) :: slots (h.length + 1) us.length).set pl (2, h.length))[k]? = h[k]? := fun k hk e => by
    rw [List.getElem?_set_ne (Ne.symm e), List.getElem?_append_left hk]
  have top : ((h ++ (6, f) :: slots (h.length + 1) us.length).set pl (2, h.length))[h.length]? = some (6, f) := by
    rw [List.getElem?_set_ne (by omega), List.getElem?_append_right (Nat.le_refl _)]; simp
  have slt : ∀ k, h.length + 1 ≤ k → k < h.length + 1 + us.length → ((h ++ (6, f) :: slots (h.length + 1) us.length).set pl (2, h.length))[k]? = some (0, k) := fun k h1 h2 => by
    rw [List.getElem?_set_ne (by omega), List.getElem?_append_right (by omega), show k - h.length = (k - (h.length + 1)) + 1 by omega, List.getElem?_cons_succ, slots_get _ _ _ (by omega)]
    rw [show h.length + 1 + (k - (h.length + 1)) = k by omega]
  have at0 : ((h ++ (6, f) :: slots (h.length + 1) us.length).set pl (2, h.length))[pl]? = some (2, h.length) := List.getElem?_set_self (by simp; omega)
  have len : ((h ++ (6, f) :: slots (h.length + 1) us.length).set pl (2, h.length)).length = h.length + 1 + us.length := by simp [slots_len]; omega
  generalize (h ++ (6, f) :: slots (h.length + 1) us.length).set pl (2, h.length) = h' at *
  have fne : ∀ p ∈ F, p.2 ≠ pl ∧ p.2 ∉ P.map (·.1) := fun p m => by
    have := (I.fs p m).2.2
    simp only [List.map_cons, List.mem_cons, not_or] at this
    exact this
  have pls : ∀ p ∈ P, p.1 < h.length := fun p m => (List.getElem?_eq_some_iff.mp (I.slot p (List.mem_cons_of_mem _ m)).1).1
  have npd : ∀ k, k < h.length + 1 → k ∉ (pd (h.length + 1) us).map (·.1) := fun k hk m => by
    obtain ⟨p, m, e⟩ := List.mem_map.mp m
    have := pd_mem _ _ _ m
    have e : p.1 = k := e
    omega
  have le := I.le
  refine ⟨fun k hk => ?_, by omega, fun p m => ?_, ?_, I.fk, I.fi, fun p m => ?_, fun n m => ?_, ?_, ?_, fun H hH ρ hρ hP => ?_⟩
  · rw [keep k (by omega) (by have := s0.2; omega)]; exact I.pre k hk
  · rcases List.mem_append.mp m with m | m
    · rw [keep p.1 (pls p m) fun e => nd.1 (List.mem_map.mpr ⟨p, m, e⟩)]
      exact I.slot p (List.mem_cons_of_mem _ m)
    · have := pd_mem _ _ _ m
      exact ⟨slt _ this.1 this.2.1, by omega⟩
  · rw [List.map_append, List.nodup_append]
    refine ⟨nd.2, pd_nd _ _, fun x mx y my e => ?_⟩
    obtain ⟨p, m, ep⟩ := List.mem_map.mp mx
    have := pls p m
    have ep : p.1 = x := ep
    exact npd x (by omega) (e ▸ my)
  · have lf : p.2 < h.length := (List.getElem?_eq_some_iff.mp (I.fs p m).1).1
    rw [keep _ lf (fne p m).1]
    refine ⟨(I.fs p m).1, (I.fs p m).2.1, fun mm => ?_⟩
    rw [List.map_append] at mm
    rcases List.mem_append.mp mm with mm | mm
    · exact (fne p m).2 mm
    · exact npd _ (by omega) mm
  · rcases I.cov n m with x | ⟨p, mp, x⟩
    · exact .inl x
    · rcases List.mem_cons.mp mp with rfl | mp
      · obtain ⟨z, mz, hz⟩ := vars_bl s x
        rw [← pd_snd (h.length + 1) us] at mz
        obtain ⟨p, m, e⟩ := List.mem_map.mp mz
        exact .inr ⟨p, List.mem_append_right _ m, by rw [e]; exact hz⟩
      · exact .inr ⟨p, List.mem_append_left _ mp, x⟩
  · have := I.sz
    simp only [List.map_cons, gsum, gr_bl s] at this
    rw [List.map_append, gsum_app, pd_snd]; omega
  · have := I.ln
    simp only [List.length_cons] at this
    rw [List.length_append, pd_len]; omega
  · refine I.res H (fun k hk nk => ?_) ρ hρ fun p m => ?_
    · simp only [List.map_cons, List.mem_cons, not_or] at nk
      rw [hH k (by omega) (by rw [List.map_append, List.mem_append, not_or]; exact ⟨nk.2, npd k (by omega)⟩), keep k hk nk.1]
    · rcases List.mem_cons.mp m with rfl | m
      · refine ⟨(2, h.length), ?_, den_bl s ?_ fun p m => hP p (List.mem_append_right _ m)⟩
        · show H[pl]? = _
          rw [hH pl (by omega) (by rw [List.map_append, List.mem_append, not_or]; exact ⟨nd.1, npd pl (by omega)⟩), at0]
        · rw [hH h.length (by omega) (by
            rw [List.map_append, List.mem_append, not_or]
            refine ⟨fun m => ?_, npd _ (by omega)⟩
            obtain ⟨p, m, e⟩ := List.mem_map.mp m
            have := pls p m
            have e : p.1 = h.length := e
            omega), top]
      · exact hP p (List.mem_append_left _ m)
theorem PI.init {f : Nat} {us : List T} (s : IsS t f us) : PI h0 t (2, h0.length) (h0 ++ (6, f) :: slots (h0.length + 1) us.length) [] (pd (h0.length + 1) us) := by
  have keep : ∀ k, k < h0.length → (h0 ++ (6, f) :: slots (h0.length + 1) us.length)[k]? = h0[k]? := fun k hk => List.getElem?_append_left hk
  have top : (h0 ++ (6, f) :: slots (h0.length + 1) us.length)[h0.length]? = some (6, f) := by
    rw [List.getElem?_append_right (Nat.le_refl _)]; simp
  have slt : ∀ k, h0.length + 1 ≤ k → k < h0.length + 1 + us.length → (h0 ++ (6, f) :: slots (h0.length + 1) us.length)[k]? = some (0, k) := fun k h1 h2 => by
    rw [List.getElem?_append_right (by omega), show k - h0.length = (k - (h0.length + 1)) + 1 by omega, List.getElem?_cons_succ, slots_get _ _ _ (by omega)]
    rw [show h0.length + 1 + (k - (h0.length + 1)) = k by omega]
  have len : (h0 ++ (6, f) :: slots (h0.length + 1) us.length).length = h0.length + 1 + us.length := by simp [slots_len]; omega
  generalize h0 ++ (6, f) :: slots (h0.length + 1) us.length = h' at *
  refine ⟨keep, by omega, fun p m => ?_, pd_nd _ _, (fun x y z m => nomatch m), (fun x y z m => nomatch m), (fun p m => nomatch m), fun n m => ?_, ?_, ?_, fun H hH ρ hρ hP => ?_⟩
  · have := pd_mem _ _ _ m
    exact ⟨slt _ this.1 this.2.1, by omega⟩
  · obtain ⟨z, mz, hz⟩ := vars_bl s m
    rw [← pd_snd (h0.length + 1) us] at mz
    obtain ⟨p, m, e⟩ := List.mem_map.mp mz
    exact .inr ⟨p, m, by rw [e]; exact hz⟩
  · rw [pd_snd, len, gr_bl s]; omega
  · rw [pd_len]; simp; omega
  · refine den_bl s ?_ hP
    rw [hH h0.length (by omega) fun m => ?_, top]
    obtain ⟨p, m, e⟩ := List.mem_map.mp m
    have := pd_mem _ _ _ m
    have e : p.1 = h0.length := e
    omega
/-- what stands at the end -/
structure Put (h0 : Hp) (t : T) (h : Hp) (r : Nat × Nat) : Prop where
  pre : ∀ k, k < h0.length → h[k]? = h0[k]?
  len : h.length = h0.length + gr t
  den : ∃ ρ, den h r (ren ρ t) ∧ (∀ n ∈ vars t, h0.length ≤ ρ n ∧ ρ n < h.length) ∧ InjOn ρ (vars t)
theorem PI.done (I : PI h0 t r h F []) : Put h0 t h r := by
  refine ⟨I.pre, by simpa [gsum] using I.sz, look F, I.res h (fun _ _ _ => rfl) _ (fun p m => look_of I.fk m) (fun p m => nomatch m), fun n m => ?_, fun x mx y my e => ?_⟩
  · rcases I.cov n m with ⟨y, x⟩ | ⟨p, mp, x⟩
    · rw [look_of I.fk x]
      have := I.fs _ x
      exact ⟨this.2.1, (List.getElem?_eq_some_iff.mp this.1).1⟩
    · cases mp
  · rcases I.cov x mx with ⟨a, ha⟩ | ⟨p, mp, _⟩
    · rcases I.cov y my with ⟨b, hb⟩ | ⟨p, mp, _⟩
      · rw [look_of I.fk ha, look_of I.fk hb] at e
        subst e
        exact I.fi _ _ _ ha hb
      · cases mp
    · cases mp
end
end Mine

namespace Mine

theorem hpV_app (h k : Hp) : hpV (h ++ k) = hpV h ++ hpV k := by unfold hpV; simp
theorem hpV_set (h : Hp) (i : Nat) (q : Nat × Nat) : hpV (h.set i q) = (hpV h).set i (cl q) := by unfold hpV; rw [List.map_set]
theorem seq_rng2 (O : Objs) : seqOf O (.rng 0 2 1) = some [.int 0, .int 1] := rfl
theorem seq_rng3 (O : Objs) : seqOf O (.rng 0 3 1) = some [.int 0, .int 1, .int 2] := rfl
theorem bif_rng1 (O : Objs) (x : Int) (Q : AV → Objs → Prop) : bifA O .range [.int x] Q = (okR x = true ∧ Q (.rng 0 x 1) O) := rfl

section
variable {c : Cx} {n : Nat} {a : SA} {ts : List Str} {fs : List (Nat × Nat)} {h : Hp} {O : Objs} {Q : AV → Objs → Prop}

theorem k_reserve (ok : c.Ok) (C : Code c.K) (W : World a ts fs h O) {m : Nat} (hm : m = 2 ∨ m = 3) (q : Q (.int h.length) (up O a.hp (.list (hpV (h ++ slots h.length m))))) : CallOK c (n + 1) 215 [stoV a, .int m] O Q := by
  have lh := W.lh
  rw [hpV_app] at q
  have L0 : (hpV h).length < 80000 := by rw [hpV_len]; omega
  have nb : decide ((100000 : Int) < (h.length : Int) + (m : Int)) = false := decide_eq_false (by omega)
  refine fn_call ok C.Store_reserve C.b_Store_reserve rfl (fun _ => .nil) ?_
  refine rAsg (.int h.length) (vLen W.hp (hpV_len h) (Nat.lt_trans lh (by decide)) (vAtr1 rfl rfl)) ?_
  refine rIfF (tCmp (o := .Gt) (x := .int ((h.length : Int) + (m : Int))) (y := .int 100000) (congrArg some nb) (fun _ h => h) (vAtr1 rfl rfl)) (rNx ?_)
  have e2 : ∀ x y : AV, up (up O a.hp (.list (hpV h ++ [x]))) a.hp (.list (hpV h ++ [x] ++ [y])) = up O a.hp (.list (hpV h ++ [x, y])) := fun x y => by rw [up_up, List.append_assoc]; rfl
  rcases hm with rfl | rfl
  · refine rFor (rBif (a1 (fun _ h => h) (bRng1 (x := 2) rfl (forI (seq_rng2 O) (by decide) (flC (rEx ?_))))))
    refine rApp (y := cl (0, h.length)) W.hp (lim_of' L0) (vAtr1 rfl rfl) (vTup2 (fun _ h => h) fun _ h => h) (flN (seq_rng2 _) (flC (rEx ?_)))
    refine rApp (y := cl (0, h.length + 1)) (up_at O a.hp _) (lim_snoc L0) (vAtr1 rfl rfl) (vTup2 (fun _ h => h) fun _ h => h) (flN (seq_rng2 _) (flX ?_))
    rw [e2]
    exact rRet (.int h.length) (fun _ h => h) q
  · refine rFor (rBif (a1 (fun _ h => h) (bRng1 (x := 3) rfl (forI (seq_rng3 O) (by decide) (flC (rEx ?_))))))
    refine rApp (y := cl (0, h.length)) W.hp (lim_of' L0) (vAtr1 rfl rfl) (vTup2 (fun _ h => h) fun _ h => h) (flN (seq_rng3 _) (flC (rEx ?_)))
    refine rApp (y := cl (0, h.length + 1)) (up_at O a.hp _) (lim_snoc L0) (vAtr1 rfl rfl) (vTup2 (fun _ h => h) fun _ h => h) (flN (seq_rng3 _) (flC (rEx ?_)))
    rw [e2]
    refine rApp (y := cl (0, h.length + 2)) (up_at O a.hp _) (by rw [List.length_append, hpV_len]; show h.length + 2 < lim; exact Nat.lt_trans (Nat.add_lt_add_right lh 2) (by decide)) (vAtr1 rfl rfl) (vTup2 (fun _ h => h) fun _ h => h) (flN (seq_rng3 _) (flX ?_))
    rw [up_up, List.append_assoc]
    exact rRet (.int h.length) (fun _ h => h) q
theorem sit_hp {O : Objs} {w : Addr} {h : Hp} (e : O w = some (.list (hpV h))) {i : Nat} (hi : i < h.length) (hl : h.length < 2000) (p : Nat × Nat) (Q : Objs → Prop) (q : Q (up O w (.list (hpV (h.set i p))))) : sitA O (.ref w) (.int i) (cl p) Q := by
  show sitM (O w) (.int i) (cl p) (fun m => Q (up O w m))
  rw [e]
  show _ ∧ Q (up O w (.list ((hpV h).set (i : Int).toNat (cl p))))
  rw [Int.toNat_natCast, ← hpV_set, hpV_len]
  exact ⟨⟨by omega, by omega, by unfold lim; omega⟩, q⟩

theorem slots_set (h : Hp) (m f : Nat) : (h ++ slots h.length (1 + m)).set h.length (6, f) = h ++ (6, f) :: slots (h.length + 1) m := by
  rw [List.set_append_right _ _ (Nat.le_refl _), Nat.sub_self]
  congr 1
  unfold slots
  rw [Nat.add_comm, List.range_succ_eq_map]
  simp only [List.map_cons, List.set_cons_zero, List.map_map]
  congr 1
  apply List.map_congr_left
  intro x m
  simp; omega

theorem k_new_block (ok : c.Ok) (C : Code c.K) (W : World a ts fs h O) {f at' m : Nat} (f0 : f ≠ 0) (ef : fs[f]? = some (at', m)) (hm : m = 1 ∨ m = 2)
    (q : Q (cl (2, h.length)) (up O a.hp (.list (hpV (h ++ (6, f) :: slots (h.length + 1) m))))) : CallOK c (n + 2) 320 [stoV a, .int f] O Q := by
  have lh := W.lh
  have sl : (h ++ slots h.length (1 + m)).length = h.length + (1 + m) := by rw [List.length_append, slots_len]
  refine fn_call ok C.Store_new_block C.b_Store_new_block rfl (fun _ => .nil) ?_
  refine rIfF (tEq (x := .int f) (y := .int 0) (congrArg some (decide_eq_false fun e => f0 (Int.ofNat.inj e))) (fun _ h => h) fun _ h => h) (rNx (rAsgC (rMth rfl (fun _ h => h) (aC (rBinV (x := .int 1) (fun _ h => h) (rMth rfl (vAtr1 rfl rfl) (a1 (fun _ h => h) (k_arity ok C W ef ?_))))))))
  refine a0 (k_reserve (m := 1 + m) ok C W (by omega) ?_)
  refine rSit (v := cl (6, f)) (vTup2 (fun _ h => h) fun _ h => h) (vAtr1 rfl rfl) (fun _ h => h) (sit_hp (up_at _ _ _) (by omega) (by omega) (6, f) _ ?_)
  rw [up_up, slots_set]
  exact rRet (cl (2, h.length)) (vTup2 (fun _ h => h) fun _ h => h) q
theorem sv_a : (Str.ofString "a" = Str.ofString "v") = False := eq_false (by decide +kernel)
theorem sv_i : (Str.ofString "i" = Str.ofString "v") = False := eq_false (by decide +kernel)
theorem sa_i : (Str.ofString "i" = Str.ofString "a") = False := eq_false (by decide +kernel)
theorem sv_s : (Str.ofString "s" = Str.ofString "v") = False := eq_false (by decide +kernel)
theorem sa_s : (Str.ofString "s" = Str.ofString "a") = False := eq_false (by decide +kernel)
theorem si_s : (Str.ofString "s" = Str.ofString "i") = False := eq_false (by decide +kernel)

noncomputable def itemB : S := (.cons (.asg 87 (.sub (.var 152) (.int 0)))
 (.cons (.iff (.cmp .Eq (.var 87) (.str (Str.ofString "v"))) (.cons (.iff (.cmp .In (.sub (.var 152) (.int 1)) (.var 105)) (.cons (.sit (.atr (.var 0) 121 373) (.var 77) (.sub (.var 105) (.sub (.var 152) (.int 1))))
 .nil) (.cons (.sit (.var 105) (.sub (.var 152) (.int 1)) (.tup (.cons (.glb 41 0) (.cons (.var 77) .nil))))
 .nil))
 .nil) (.cons (.iff (.cmp .Eq (.var 87) (.str (Str.ofString "a"))) (.cons (.sit (.atr (.var 0) 121 373) (.var 77) (.tup (.cons (.glb 45 4) (.cons (.sub (.var 152) (.int 1)) .nil))))
 .nil) (.cons (.iff (.cmp .Eq (.var 87) (.str (Str.ofString "i"))) (.cons (.sit (.atr (.var 0) 121 373) (.var 77) (.tup (.cons (.glb 46 5) (.cons (.sub (.var 152) (.int 1)) .nil))))
 .nil) (.cons (.asg 163 (.mth (.var 0) 65 373 320 (.cons (.sub (.var 152) (.int 1)) .nil)))
 (.cons (.sit (.atr (.var 0) 121 373) (.var 77) (.var 163))
 (.cons (.ex (.app (.var 134) (.tup (.cons (.mth (.var 0) 63 373 306 (.cons (.var 163) .nil)) (.cons (.sub (.var 152) (.int 2)) .nil)))))
 .nil))))
 .nil))
 .nil))
 (.cons (.aug 77 .Add (.int 1))
 .nil)))
noncomputable def tabV (F : List (Nat × Nat)) : List (Int × AV) := F.map fun p => ((p.1 : Int), cl (0, p.2))
structure Blk where
  pl : Nat
  us : List T
noncomputable def blkV (b : Blk) : AV := .tup [.int (b.pl : Nat), .tup (b.us.map enc)]
noncomputable def pdB (b : Blk) : List (Nat × T) := pd b.pl b.us
noncomputable def wsum : List Blk → Nat
  | [] => 0
  | b :: R => ssum b.us + 1 + wsum R
theorem wsum_app (l m : List Blk) : wsum (l ++ m) = wsum l + wsum m := by
  induction l with
  | nil => simp [wsum]
  | cons x l ih => simp [wsum, ih]; omega
theorem tabV_any {F : List (Nat × Nat)} {k : Nat} : (tabV F).any (fun p => decide (p.1 = (k : Int))) = true ↔ ∃ y, (k, y) ∈ F := by
  unfold tabV
  rw [List.any_map, List.any_eq_true]
  constructor
  · rintro ⟨⟨x, y⟩, m, e⟩
    simp at e
    exact ⟨y, by rwa [← show x = k by omega]⟩
  · rintro ⟨y, m⟩
    exact ⟨(k, y), m, by simp⟩
theorem tabV_get {F : List (Nat × Nat)} (fn : ∀ x y z, (x, y) ∈ F → (x, z) ∈ F → y = z) {x y : Nat} (m : (x, y) ∈ F) : dget (tabV F) (x : Int) = some (cl (0, y)) := by
  refine dget_some (List.mem_map.mpr ⟨(x, y), m, rfl⟩) fun w mw => ?_
  obtain ⟨⟨x', z⟩, mm, e⟩ := List.mem_map.mp mw
  simp at e
  obtain ⟨e1, e2⟩ := e
  have : x' = x := by omega
  subst this
  rw [← e2, fn _ _ _ m mm]
theorem tabV_len (F : List (Nat × Nat)) : (tabV F).length = F.length := by simp [tabV]
noncomputable def tok (ts : List Str) (fs : List (Nat × Nat)) : T → Prop
  | .v n => n < 4
  | .a k => k < 2
  | .i k => k < 2
  | .s1 f x => (f ≠ 0 ∧ ∃ at', fs[f]? = some (at', 1) ∧ at' < ts.length) ∧ tok ts fs x
  | .s2 f x y => (f ≠ 0 ∧ ∃ at', fs[f]? = some (at', 2) ∧ at' < ts.length) ∧ tok ts fs x ∧ tok ts fs y
theorem tok_bl {u : T} {f : Nat} {us : List T} (k : tok ts fs u) (s : IsS u f us) : f ≠ 0 ∧ (∃ at', fs[f]? = some (at', us.length)) ∧ (us.length = 1 ∨ us.length = 2) ∧ ∀ x ∈ us, tok ts fs x := by
  cases s with
  | s1 f x =>
    obtain ⟨⟨a1, b, c, d⟩, k⟩ := k
    exact ⟨a1, ⟨b, c⟩, .inl rfl, by simpa using k⟩
  | s2 f x y =>
    obtain ⟨⟨a1, b, c, d⟩, k⟩ := k
    exact ⟨a1, ⟨b, c⟩, .inr rfl, by simpa using k⟩
theorem enc_bl {u : T} {f : Nat} {us : List T} (s : IsS u f us) : enc u = .tup [.str (Str.ofString "s"), .int (f : Nat), .tup (us.map enc)] := by cases s <;> rfl

structure Mem (a : SA) (ts : List Str) (fs : List (Nat × Nat)) (h : Hp) (tb wt : Addr) (F : List (Nat × Nat)) (L : List AV) (O : Objs) : Prop where
  W : World a ts fs h O
  eT : O tb = some (.dictI (tabV F))
  eW : O wt = some (.list L)
  n1 : tb ≠ a.hp ∧ tb ≠ a.tx ∧ tb ≠ a.fu
  n2 : wt ≠ a.hp ∧ wt ≠ a.tx ∧ wt ≠ a.fu
  n3 : tb ≠ wt
  n4 : a.hp ≠ a.tx ∧ a.hp ≠ a.fu
variable {tb wt : Addr} {F : List (Nat × Nat)} {L : List AV}
theorem Mem.heap (M : Mem a ts fs h tb wt F L O) {h' : Hp} (l : h'.length < 1000) : Mem a ts fs h' tb wt F L (up O a.hp (.list (hpV h'))) :=
  ⟨⟨up_at _ _ _, (up_ne (Ne.symm M.n4.1)).trans M.W.tx, (up_ne (Ne.symm M.n4.2)).trans M.W.fu, l, M.W.lt, M.W.lf⟩, (up_ne M.n1.1).trans M.eT, (up_ne M.n2.1).trans M.eW, M.n1, M.n2, M.n3, M.n4⟩
theorem Mem.table (M : Mem a ts fs h tb wt F L O) {F' : List (Nat × Nat)} : Mem a ts fs h tb wt F' L (up O tb (.dictI (tabV F'))) :=
  ⟨M.W.upd M.n1, up_at _ _ _, (up_ne (Ne.symm M.n3)).trans M.eW, M.n1, M.n2, M.n3, M.n4⟩
theorem Mem.wait (M : Mem a ts fs h tb wt F L O) {L' : List AV} : Mem a ts fs h tb wt F L' (up O wt (.list L')) :=
  ⟨M.W.upd M.n2, (up_ne M.n3).trans M.eT, up_at _ _ _, M.n1, M.n2, M.n3, M.n4⟩

variable {h0 : Hp} {t u : T} {r : Nat × Nat} {P : List (Nat × T)} {pl : Nat}
theorem item_step (ok : c.Ok) (C : Code c.K) {σ : St} {K : Fl → St → Prop} (M : Mem a ts fs h tb wt F L σ.O) (I : PI h0 t r h F ((pl, u) :: P)) (tk : tok ts fs u) (sz : h0.length + gr t < 1000) (lL : L.length ≤ h.length)
    (f0 : σ.fr 0 = some (stoV a)) (f1 : σ.fr 105 = some (.ref tb)) (f2 : σ.fr 134 = some (.ref wt)) (f3 : σ.fr 77 = some (.int pl))
    (q : ∀ σ' h' F' nb, Mem a ts fs h' tb wt F' (L ++ nb.map blkV) σ'.O → PI h0 t r h' F' (P ++ nb.flatMap pdB) → (∀ b ∈ nb, ∀ x ∈ b.us, tok ts fs x) → nb.length + h.length ≤ h'.length → wsum nb ≤ u.size → σ'.fr 77 = some (.int (pl + 1 : Nat)) → (∀ j, j ≠ 77 → j ≠ 87 → j ≠ 152 → j ≠ 163 → σ'.fr j = σ.fr j) → ExtD [a.hp, tb, wt] σ.O σ'.O → K .next σ') :
    wpS c (n + 3) itemB ⟨σ.O, setf σ.fr 152 (enc u)⟩ K := by
  have lh := M.W.lh
  have lp : pl < h.length := (List.getElem?_eq_some_iff.mp (I.slot (pl, u) List.mem_cons_self).1).1
  have len := I.sz
  have ln := I.ln
  simp only [List.length_cons] at ln
  unfold itemB
  have fin : ∀ (fr : Nat → Option AV) (h' : Hp) (F' : List (Nat × Nat)) (nb : List Blk) (O' : Objs), (∀ j, j ≠ 77 → j ≠ 87 → j ≠ 152 → j ≠ 163 → fr j = σ.fr j) → fr 77 = some (.int pl) → Mem a ts fs h' tb wt F' (L ++ nb.map blkV) O' → PI h0 t r h' F' (P ++ nb.flatMap pdB) → (∀ b ∈ nb, ∀ x ∈ b.us, tok ts fs x) → nb.length + h.length ≤ h'.length → wsum nb ≤ u.size → ExtD [a.hp, tb, wt] σ.O O' →
      wpS c (n + 3) (.cons (.aug 77 .Add (.int 1)) .nil) ⟨O', fr⟩ K := by
    intro fr h' F' nb O' hj h77 M' I' ht hn hw x
    simp only [wS_nil, wS_cons, wS_asg, wS_asc, wS_asg2, wS_sat, wS_sit, wS_aug, wS_ex, wS_iff, wS_whl, wS_for, wS_ret, wS_cnt, wS_wild, wS_frz, wE_var, wE_glb, wE_int, wE_str, wE_bol, wE_neg, wE_not, wE_bin, wE_cmp, wE_and, wE_or, wE_ite, wE_sub, wE_slc, wE_atr, wE_tup, wE_lst, wE_dct, wE_call, wE_new, wE_mth, wE_bif, wE_app, wE_pop, wE_rev, wE_get, wE_sad, wE_cpr, h77]
    refine q ⟨O', setf fr 77 (.int ((pl : Int) + 1))⟩ h' F' nb M' I' ht hn hw (by simp [setf]) (fun j a1 a2 a3 a4 => ?_) x
    show setf fr 77 _ j = _
    unfold setf
    rw [if_neg a1]
    exact hj j a1 a2 a3 a4
  generalize hR : (S.cons (.aug 77 .Add (.int 1)) .nil) = R at *
  have fr0 : ∀ (z : AV) (s : AV) (j : Nat), j ≠ 77 → j ≠ 87 → j ≠ 152 → j ≠ 163 → setf (setf σ.fr 152 z) 87 s j = σ.fr j := fun z s j a1 a2 a3 a4 => (if_neg a2).trans (if_neg a3)
  have nil0 : L = L ++ ([] : List Blk).map blkV := (List.append_nil L).symm
  have pil0 : P = P ++ ([] : List Blk).flatMap pdB := (List.append_nil P).symm
  by_cases hs : ∃ f us, IsS u f us
  · obtain ⟨f, us, s⟩ := hs
    obtain ⟨k1, ⟨at', k2⟩, k3, k4⟩ := tok_bl tk s
    have fr0 := fr0 (enc u) (.str (Str.ofString "s"))
    rw [enc_bl s] at fr0 ⊢
    refine rAsg (.str (Str.ofString "s")) (fun _ h => h) (rIfF (tSne sv_s (fun _ h => h) fun _ h => h) (rIfF (tSne sa_s (fun _ h => h) fun _ h => h) (rIfF (tSne si_s (fun _ h => h) fun _ h => h) (rAsgC (rMth rfl (vVar f0) (a1 (fun _ h => h) (k_new_block (h := h) (m := us.length) ok C M.W k1 k2 k3 ?_)))))))
    have I' := I.block s
    have l2 : (h ++ (6, f) :: slots (h.length + 1) us.length).length < 1000 := by
      have := I'.sz
      simp only [List.length_set] at this
      omega
    have l3 : h.length + 1 ≤ (h ++ (6, f) :: slots (h.length + 1) us.length).length := by rw [List.length_append, List.length_cons]; omega
    have M2 := (M.heap l2).heap (h' := (h ++ (6, f) :: slots (h.length + 1) us.length).set pl (2, h.length)) (by rw [List.length_set]; exact l2)
    refine rSit (v := cl (2, h.length)) (fun _ h => h) (vAtr1 f0 rfl) (vVar f3) (sit_hp (up_at _ _ _) (by omega) (by omega) (2, h.length) _ ?_)
    refine rEx (rAppC M2.eW (vVar f2) (rTup (aC (rMth rfl (vVar f0) (a1 (fun _ h => h) (k_base (p := (2, h.length)) ok C rfl ?_))))))
    refine a1 (fun _ h => h) (appI M2.eW (by unfold lim; omega) ?_)
    refine fin _ _ F [⟨h.length + 1, us⟩] _ (fun j a1 a2 a3 a4 => (if_neg a4).trans (fr0 j a1 a2 a3 a4)) f3 M2.wait ?_ (fun b mb => ?_) (by rw [List.length_set, List.length_singleton, Nat.add_comm]; exact l3) (by rw [show wsum [(⟨h.length + 1, us⟩ : Blk)] = ssum us + 1 from rfl, sz_bl s]; omega) ?_
    · have e : P ++ [(⟨h.length + 1, us⟩ : Blk)].flatMap pdB = P ++ pd (h.length + 1) us := by rw [List.flatMap_singleton]; rfl
      rw [e]; exact I'
    · cases List.mem_singleton.mp mb; exact k4
    · exact ((ExtD.up List.mem_cons_self).trans (ExtD.up List.mem_cons_self)).trans (ExtD.up (List.mem_cons_of_mem _ (List.mem_cons_of_mem _ List.mem_cons_self)))
  have hp' : ∀ q : Nat × Nat, Mem a ts fs (h.set pl q) tb wt F (L ++ ([] : List Blk).map blkV) (up σ.O a.hp (.list (hpV (h.set pl q)))) := fun q => nil0 ▸ M.heap (by rw [List.length_set]; exact lh)
  have ln' : ∀ q : Nat × Nat, ([] : List Blk).length + h.length ≤ (h.set pl q).length := fun q => by rw [List.length_set, List.length_nil, Nat.zero_add]; exact Nat.le_refl _
  cases u with
  | v n =>
    refine rAsg (.str (Str.ofString "v")) (fun _ h => h) (rIfT (tSeq (fun _ h => h) fun _ h => h) ?_)
    by_cases hn : ∃ y, (n, y) ∈ F
    · have e1 : inA σ.O (.int n) (.ref tb) = some true := (inA_dict M.eT n).trans (congrArg some (tabV_any.mpr hn))
      obtain ⟨y, hy⟩ := hn
      refine rIfT (tCmp (o := .In) e1 (fun _ h => h) (vVar f1)) (rSit (vSub ((sub_dict M.eT n).trans (tabV_get I.fk hy)) (vVar f1) fun _ h => h) (vAtr1 f0 rfl) (vVar f3) (sit_hp M.W.hp lp (by omega) (0, y) _ ?_))
      have I' := I.fill (q := (0, y)) rfl (fun k mk => by cases List.mem_singleton.mp mk; exact ⟨y, hy⟩) fun H hF ρ hρ => by
        have e1 := hρ _ hy
        have e2 := hF _ hy
        simp only at e1 e2
        simp only [ren, den, e1]
        exact ⟨trivial, e2⟩
      exact fin _ _ F [] _ (fr0 _ _) f3 (hp' _) (pil0 ▸ I') (fun b m => nomatch m) (ln' _) (Nat.zero_le _) (.up List.mem_cons_self)
    · have e0 : (tabV F).any (fun p => decide (p.1 = (n : Int))) = false := by rw [← Bool.not_eq_true, tabV_any]; exact hn
      refine rIfF (tCmp (o := .In) ((inA_dict M.eT n).trans (congrArg some e0)) (fun _ h => h) (vVar f1)) (rSit (v := cl (0, pl)) (vTup2 (fun _ h => h) (vVar f3)) (vVar f1) (fun _ h => h) ?_)
      rw [sit_dict M.eT, dput_new e0]
      refine ⟨by rw [tabV_len]; unfold lim; omega, ?_⟩
      have e3 : tabV F ++ [((n : Int), cl (0, pl))] = tabV (F ++ [(n, pl)]) := by unfold tabV; rw [List.map_append]; rfl
      rw [e3]
      exact fin _ h _ [] _ (fr0 _ _) f3 (nil0 ▸ M.table) (pil0 ▸ I.fresh fun y m => hn ⟨y, m⟩) (fun b m => nomatch m) (Nat.le_of_eq (Nat.zero_add _)) (Nat.zero_le _) (.up (List.mem_cons_of_mem _ List.mem_cons_self))
  | a k =>
    refine rAsg (.str (Str.ofString "a")) (fun _ h => h) (rIfF (tSne sv_a (fun _ h => h) fun _ h => h) (rIfT (tSeq (fun _ h => h) fun _ h => h) (rSit (v := cl (4, k)) (vTup2 (fun _ h => h) fun _ h => h) (vAtr1 f0 rfl) (vVar f3) (sit_hp M.W.hp lp (by omega) (4, k) _ ?_))))
    exact fin _ _ F [] _ (fr0 _ _) f3 (hp' _) (pil0 ▸ I.fill (q := (4, k)) rfl (fun k mk => nomatch mk) fun H hF ρ hρ => rfl) (fun b m => nomatch m) (ln' _) (Nat.zero_le _) (.up List.mem_cons_self)
  | i k =>
    refine rAsg (.str (Str.ofString "i")) (fun _ h => h) (rIfF (tSne sv_i (fun _ h => h) fun _ h => h) (rIfF (tSne sa_i (fun _ h => h) fun _ h => h) (rIfT (tSeq (fun _ h => h) fun _ h => h) (rSit (v := cl (5, k)) (vTup2 (fun _ h => h) fun _ h => h) (vAtr1 f0 rfl) (vVar f3) (sit_hp M.W.hp lp (by omega) (5, k) _ ?_)))))
    exact fin _ _ F [] _ (fr0 _ _) f3 (hp' _) (pil0 ▸ I.fill (q := (5, k)) rfl (fun k mk => nomatch mk) fun H hF ρ hρ => rfl) (fun b m => nomatch m) (ln' _) (Nat.zero_le _) (.up List.mem_cons_self)
  | s1 f x => exact absurd ⟨_, _, .s1 f x⟩ hs
  | s2 f x y => exact absurd ⟨_, _, .s2 f x y⟩ hs
end
end Mine

namespace Mine
section
variable {c : Cx} {n : Nat} {a : SA} {ts : List Str} {fs : List (Nat × Nat)} {O : Objs} {Q : AV → Objs → Prop} {tb wt : Addr}
variable {h0 : Hp} {t u : T} {r : Nat × Nat}

theorem items_loop (ok : c.Ok) (C : Code c.K) (sz : h0.length + gr t < 1000) (full : List AV) : ∀ (us : List T) (pl : Nat) (σ : St) (K : Fl → St → Prop) (h : Hp) (F : List (Nat × Nat)) (L : List AV) (P : List (Nat × T)),
    Mem a ts fs h tb wt F L σ.O → PI h0 t r h F (pd pl us ++ P) → (∀ x ∈ us, tok ts fs x) → L.length ≤ h.length →
    σ.fr 0 = some (stoV a) → σ.fr 105 = some (.ref tb) → σ.fr 134 = some (.ref wt) → σ.fr 77 = some (.int pl) →
    (∀ σ' h' F' nb, Mem a ts fs h' tb wt F' (L ++ nb.map blkV) σ'.O → PI h0 t r h' F' (P ++ nb.flatMap pdB) → (∀ b ∈ nb, ∀ x ∈ b.us, tok ts fs x) → nb.length + h.length ≤ h'.length → wsum nb ≤ ssum us → (∀ j, j ≠ 77 → j ≠ 87 → j ≠ 152 → j ≠ 163 → σ'.fr j = σ.fr j) → ExtD [a.hp, tb, wt] σ.O σ'.O → K .next σ') →
    forL 152 (.tup full) full (fun σ K => wpS c (n + 3) itemB σ K) (us.map enc) σ K
  | [], pl, σ, K, h, F, L, P, M, I, tk, lL, f0, f1, f2, f3, q => by
    exact q σ h F [] (by simpa using M) (by simpa [pd] using I) (fun b m => nomatch m) (by simp) (by simp [wsum]) (fun _ _ _ _ _ => rfl) (.refl _ _)
  | u :: us, pl, σ, K, h, F, L, P, M, I, tk, lL, f0, f1, f2, f3, q => by
    show wpS c (n + 3) itemB ⟨σ.O, setf σ.fr 152 (enc u)⟩ _
    refine item_step (P := pd (pl + 1) us ++ P) ok C M I (tk u List.mem_cons_self) sz lL f0 f1 f2 f3 fun σ1 h1 F1 nb1 M1 I1 k1 l1 w1 f77 fj x1 => ?_
    refine ⟨rfl, ?_⟩
    refine items_loop ok C sz full us (pl + 1) σ1 K h1 F1 (L ++ nb1.map blkV) (P ++ nb1.flatMap pdB) M1 (by simpa using I1) (fun x m => tk x (List.mem_cons_of_mem _ m)) (by simp; omega) ?_ ?_ ?_ f77 fun σ2 h2 F2 nb2 M2 I2 k2 l2 w2 fj2 x2 => ?_
    · rw [fj 0 (by decide) (by decide) (by decide) (by decide)]; exact f0
    · rw [fj 105 (by decide) (by decide) (by decide) (by decide)]; exact f1
    · rw [fj 134 (by decide) (by decide) (by decide) (by decide)]; exact f2
    · refine q σ2 h2 F2 (nb1 ++ nb2) (by simpa using M2) (by simpa using I2) (fun b m => ?_) (by simp; omega) (by rw [wsum_app]; simp [ssum]; omega) (fun j a1 a2 a3 a4 => (fj2 j a1 a2 a3 a4).trans (fj j a1 a2 a3 a4)) (x1.trans x2)
      rcases List.mem_append.mp m with m | m
      · exact k1 b m
      · exact k2 b m

structure Inv (a : SA) (ts : List Str) (fs : List (Nat × Nat)) (h0 : Hp) (t : T) (r : Nat × Nat) (tb wt : Addr) (O0 : Objs) (k : Nat) (σ : St) : Prop where
  ex : ∃ (h : Hp) (F : List (Nat × Nat)) (D R : List Blk), Mem a ts fs h tb wt F ((D ++ R).map blkV) σ.O ∧ PI h0 t r h F (R.flatMap pdB) ∧ (∀ b ∈ R, ∀ x ∈ b.us, tok ts fs x) ∧ D.length + R.length ≤ h.length ∧ σ.fr 135 = some (.int D.length) ∧ wsum R = k
  f0 : σ.fr 0 = some (stoV a)
  f1 : σ.fr 105 = some (.ref tb)
  f2 : σ.fr 134 = some (.ref wt)
  f3 : σ.fr 133 = some (cl r)
  x : ExtD [a.hp, tb, wt] O0 σ.O

theorem sub_list {O : Objs} {w : Addr} {l : List AV} (e : O w = some (.list l)) {i : Nat} (hi : i < 2 ^ 40) : subA O (.ref w) (.int i) = l[i]? := by
  rw [sub_at e]
  exact idx_nat hi

noncomputable def whlB : S := (.cons (.asg2 77 153 (.sub (.var 134) (.var 135)))
 (.cons (.aug 135 .Add (.int 1))
 (.cons (.for 152 (.var 153) itemB)
 .nil)))
theorem k_put_term (ok : c.Ok) (C : Code c.K) {h : Hp} (W : World a ts fs h O) (n4 : a.hp ≠ a.tx ∧ a.hp ≠ a.fu) (tb0 : O tb = some (.dictI [])) {f : Nat} {us : List T} (s : IsS t f us) (tk : tok ts fs t) (sz : h.length + gr t < 1000)
    (q : ∀ h' r O', World a ts fs h' O' → Put h t h' r → ExtD [a.hp, tb] O O' → Q (cl r) O') : CallOK c (n + 4) 363 [stoV a, enc t, .ref tb] O Q := by
  refine fn_call ok C.Store_put_term C.b_Store_put_term rfl (fun _ => .nil) ?_
  have n1 : tb ≠ a.hp ∧ tb ≠ a.tx ∧ tb ≠ a.fu := ⟨(fun e => by rw [e, W.hp] at tb0; cases tb0), (fun e => by rw [e, W.tx] at tb0; cases tb0), (fun e => by rw [e, W.fu] at tb0; cases tb0)⟩
  obtain ⟨k1, ⟨at', k2⟩, k3, k4⟩ := tok_bl tk s
  rw [enc_bl s]
  obtain ⟨B1, hB1⟩ : ∃ B : S, B = (.cons (.iff (.cmp .Eq (.sub (.sub (.var 105) (.var 72)) (.int 0)) (.glb 42 1)) (.cons (.sit (.var 105) (.var 72) (.mth (.var 0) 56 373 257 (.cons (.sub (.var 105) (.var 72)) .nil)))
 .nil) .nil)
 .nil) := ⟨_, rfl⟩
  obtain ⟨Z, hZ⟩ : ∃ Z : S, Z = .cons (.whl (.cmp .Lt (.var 135) (.bif .len (.cons (.var 134) .nil))) whlB) (.cons (.ret (.var 133)) .nil) := ⟨_, rfl⟩
  rw [show ir_Store_put_term = (.cons (.for 72 (.bif .list (.cons (.var 105) .nil)) B1)
 (.cons (.asg 87 (.sub (.var 132) (.int 0)))
 (.cons (.iff (.cmp .Eq (.var 87) (.str (Str.ofString "v"))) (.cons (.iff (.cmp .NotIn (.sub (.var 132) (.int 1)) (.var 105)) (.cons (.sit (.var 105) (.sub (.var 132) (.int 1)) (.mth (.var 0) 49 373 208 .nil))
 .nil) .nil)
 (.cons (.ret (.sub (.var 105) (.sub (.var 132) (.int 1))))
 .nil)) .nil)
 (.cons (.iff (.cmp .Eq (.var 87) (.str (Str.ofString "a"))) (.cons (.ret (.tup (.cons (.glb 45 4) (.cons (.sub (.var 132) (.int 1)) .nil))))
 .nil) .nil)
 (.cons (.iff (.cmp .Eq (.var 87) (.str (Str.ofString "i"))) (.cons (.ret (.tup (.cons (.glb 46 5) (.cons (.sub (.var 132) (.int 1)) .nil))))
 .nil) .nil)
 (.cons (.asg 133 (.mth (.var 0) 65 373 320 (.cons (.sub (.var 132) (.int 1)) .nil)))
 (.cons (.asg 134 (.lst (.cons (.tup (.cons (.mth (.var 0) 63 373 306 (.cons (.var 133) .nil)) (.cons (.sub (.var 132) (.int 2)) .nil))) .nil)))
 (.cons (.asg 135 (.int 0)) Z)))))))) by rw [hB1, hZ]; rfl]
  have bl : ∀ Q : AV → Objs → Prop, bifA O .list [.ref tb] Q = newM O (.list []) Q := fun Q => by show lisA (O tb) _ = _; rw [tb0]; rfl
  refine rFor (rBif (a1 (fun _ h => h) (Eq.mpr (bl _) fun l0 hl0 => forI (seq_list (up_at _ _ _)) (by decide) (flX ?_))))
  have x1 : Ext O (up O l0 (.list [])) := .new hl0
  have W1 := W.ext x1
  refine rAsg (.str (Str.ofString "s")) (fun _ h => h) (rIfF (tSne sv_s (fun _ h => h) fun _ h => h) (rNx (rIfF (tSne sa_s (fun _ h => h) fun _ h => h) (rNx (rIfF (tSne si_s (fun _ h => h) fun _ h => h) (rNx (rAsgC (rMth rfl (fun _ h => h) (a1 (fun _ h => h) (k_new_block (h := h) (m := us.length) ok C W1 k1 k2 k3 ?_))))))))))
  refine rAsgC (rLst (aC (rTup (aC (rMth rfl (fun _ h => h) (a1 (fun _ h => h) (k_base (p := (2, h.length)) ok C rfl (a1 (fun _ h => h) (a0 fun wt hw => ?_)))))))))
  have I0 := PI.init (h0 := h) s
  have l2 : (h ++ (6, f) :: slots (h.length + 1) us.length).length < 1000 := by
    have := I0.sz
    omega
  have tb1 : (up O l0 (.list [])) tb = some (.dictI []) := x1.get tb0
  have e0 : (up (up O l0 (.list [])) a.hp (.list (hpV (h ++ (6, f) :: slots (h.length + 1) us.length)))) tb = some (.dictI []) := (up_ne n1.1).trans tb1
  have wtb : tb ≠ wt := fun e => by rw [← e, e0] at hw; cases hw
  have e1 : wt ≠ a.hp := fun e => by rw [e, up_at] at hw; cases hw
  have hw1 : (up O l0 (.list [])) wt = none := (up_ne e1).symm.trans hw
  have e2 := W1.apart hw1
  have hwO := ext_none x1 hw1
  have M0 : Mem a ts fs (h ++ (6, f) :: slots (h.length + 1) us.length) tb wt [] [blkV ⟨h.length + 1, us⟩] (up (up (up O l0 (.list [])) a.hp (.list (hpV (h ++ (6, f) :: slots (h.length + 1) us.length)))) wt (.list [blkV ⟨h.length + 1, us⟩])) := by
    refine ⟨⟨?_, ?_, ?_, l2, W.lt, W.lf⟩, ?_, up_at _ _ _, n1, e2, wtb, n4⟩
    · rw [up_ne (Ne.symm e1)]; exact up_at _ _ _
    · rw [up_ne (Ne.symm e2.2.1), up_ne (Ne.symm n4.1)]; exact W1.tx
    · rw [up_ne (Ne.symm e2.2.2), up_ne (Ne.symm n4.2)]; exact W1.fu
    · rw [up_ne wtb]; exact e0
  have X0 : ExtD [a.hp, tb, wt] O (up (up (up O l0 (.list [])) a.hp (.list (hpV (h ++ (6, f) :: slots (h.length + 1) us.length)))) wt (.list [blkV ⟨h.length + 1, us⟩])) :=
    (ExtD.new hl0).trans ((ExtD.up List.mem_cons_self).trans (ExtD.up (List.mem_cons_of_mem _ (List.mem_cons_of_mem _ List.mem_cons_self))))
  refine rAsg (.int 0) (fun _ h => h) ?_
  rw [hZ]
  refine rWhl (Inv a ts fs h t (2, h.length) tb wt O) (wsum [⟨h.length + 1, us⟩]) ⟨⟨_, [], [], [⟨h.length + 1, us⟩], M0, (by rw [List.flatMap_singleton, show pdB ⟨h.length + 1, us⟩ = pd (h.length + 1) us from rfl]; exact I0), (fun b m => by cases List.mem_singleton.mp m; exact k4), (by show 0 + 1 ≤ _; rw [List.length_append, List.length_cons]; omega), rfl, rfl⟩, rfl, rfl, rfl, rfl, X0⟩ fun k σ V => ?_
  obtain ⟨⟨h1, F, D, R, M, I, tkR, lD, f135, hk⟩, f0, f1, f2, f3, X⟩ := V
  have lh := M.W.lh
  have ll : ((D ++ R).map blkV).length = D.length + R.length := by rw [List.length_map, List.length_append]
  have ltv := fun z e => tCmp (c := c) (n := n + 3) (fr := σ.fr) (O := σ.O) (o := .Lt) (x := .int D.length) (y := .int (D.length + R.length : Nat)) (z := z) (a := .var 135) (b := .bif .len (.cons (.var 134) .nil)) e (vVar f135) (vLen M.eW ll (by unfold lim; omega) (vVar f2))
  cases R with
  | nil =>
    refine ⟨false, ltv _ (congrArg some (decide_eq_false (by simp))), nofun, fun _ => rRet (cl (2, h.length)) (vVar f3) (q h1 (2, h.length) σ.O M.W (PI.done I) fun b nb eb => ?_)⟩
    refine X b (fun m => ?_) eb
    rcases List.mem_cons.mp m with m | m
    · exact nb (m ▸ List.mem_cons_self)
    rcases List.mem_cons.mp m with m | m
    · exact nb (m ▸ List.mem_cons_of_mem _ List.mem_cons_self)
    · rw [List.mem_singleton.mp m, hwO] at eb; cases eb
  | cons b R =>
    have hd : decide ((D.length : Int) < ((D.length + (b :: R).length : Nat) : Int)) = true := decide_eq_true (by simp; omega)
    refine ⟨true, ltv _ (congrArg some hd), fun _ => ?_, nofun⟩
    have eD : ((D ++ b :: R).map blkV)[D.length]? = some (blkV b) := by simp
    have ln := I.ln
    simp only [List.flatMap_cons, List.length_append, pdB, pd_len] at ln
    refine rAsg2 (.int b.pl) (.tup (b.us.map enc)) (vSub ((sub_list M.eW (by omega)).trans eD) (vVar f2) (vVar f135)) (rAug (p := D.length) (q := 1) f135 (fun _ h => h) (rForV (full := b.us.map enc) rfl (by rw [List.length_map]; unfold lim; omega) (fun _ h => h) ?_))
    refine items_loop (n := n) ok C sz _ b.us b.pl _ _ h1 F _ (R.flatMap pdB) M I (tkR b List.mem_cons_self) (by rw [ll]; exact lD) f0 f1 f2 rfl fun σ2 h2 F2 nb M2 I2 k2' l2' w2 fj x2 => ?_
    have hw2 : wsum (R ++ nb) < k := by
      rw [wsum_app, ← hk]
      show wsum R + wsum nb < ssum b.us + 1 + wsum R
      omega
    refine ⟨_, hw2, ⟨h2, F2, D ++ [b], R ++ nb, (by rw [List.append_assoc, List.singleton_append, ← List.cons_append, ← List.append_assoc, List.map_append]; exact M2), (by rw [List.flatMap_append]; exact I2), fun b' m => ?_, ?_, ?_, rfl⟩, ?_, ?_, ?_, ?_, X.trans x2⟩
    · rcases List.mem_append.mp m with m | m
      · exact tkR b' (List.mem_cons_of_mem _ m)
      · exact k2' b' m
    · rw [List.length_append, List.length_append, List.length_singleton]; rw [List.length_cons] at lD; omega
    · rw [fj 135 (by decide) (by decide) (by decide) (by decide), List.length_append]; rfl
    · rw [fj 0 (by decide) (by decide) (by decide) (by decide)]; exact f0
    · rw [fj 105 (by decide) (by decide) (by decide) (by decide)]; exact f1
    · rw [fj 134 (by decide) (by decide) (by decide) (by decide)]; exact f2
    · rw [fj 133 (by decide) (by decide) (by decide) (by decide)]; exact f3
end
end Mine

namespace Mine

noncomputable def rowV (ks : List Int) : List AV := ks.map .int
structure RowI (ks : List Int) : Prop where
  pos : ∀ k ∈ ks, 0 ≤ k
  len : ks.length < 1000
theorem rowV_len (ks : List Int) : (rowV ks).length = ks.length := by simp [rowV]
theorem revA_ref {O : Objs} {w : Addr} {l : List AV} (e : O w = some (.list l)) (Q : AV → Objs → Prop) : revA O (.ref w) Q = (l.length < lim ∧ Q .none (up O w (.list l.reverse))) := by
  show oP (asLst (O w)) _ = _
  rw [e]; rfl
theorem popA_ref {O : Objs} {w : Addr} {l : List AV} (e : O w = some (.list l)) (Q : AV → Objs → Prop) : popA O (.ref w) Q = (l.length < lim ∧ ∃ x, l[l.length - 1]? = some x ∧ Q x (up O w (.list l.dropLast))) := by
  show oP (asLst (O w)) _ = _
  rw [e]; rfl

section
variable {c : Cx} {n : Nat} {y : YA} {ts : List Str} {fs : List (Nat × Nat)} {O O' : Objs} {Q : AV → Objs → Prop} {w : Addr} {ks : List Int}

noncomputable def opB : S := (.cons (.asg 139 (.bif .abs (.cons (.var 75) .nil)))
 (.cons (.ex (.app (.var 100) (.bin .Mod (.var 139) (.int 420))))
 (.cons (.iff (.cmp .GtE (.var 139) (.int 420)) (.cons (.ex (.app (.var 100) (.bin .Mod (.bin .FloorDiv (.var 139) (.int 420)) (.int 420))))
 .nil) .nil)
 .nil)))
theorem rowV_snoc (ks : List Int) (k : Int) : rowV ks ++ [.int k] = rowV (ks ++ [k]) := by unfold rowV; rw [List.map_append]; rfl
theorem vMod {a : X} {m : Int} {fr : Nat → Option AV} (ha : V c n a fr O (.int m)) : V c n (.bin .Mod a (.int 420)) fr O (.int (m % 420)) := vBin (o := .Mod) (x := .int m) (y := .int 420) ((bin_mod m 420).trans (if_pos (by decide))) ha fun _ h => h
theorem open_loop {full : List AV} {sl : Addr} (wsl : w ≠ sl) (l : List Int) (ks : List Int) (σ : St) (K : Fl → St → Prop) (e1 : σ.O w = some (.list (rowV ks))) (e2 : σ.O sl = some (.list full)) (f1 : σ.fr 100 = some (.ref w)) (h1 : ∀ k ∈ ks, 0 ≤ k) (h2 : ks.length + 2 * l.length ≤ 90)
    (q : ∀ σ' ks', σ'.O w = some (.list (rowV ks')) → σ'.fr 100 = some (.ref w) → (∀ k ∈ ks', 0 ≤ k) → ks'.length ≤ 90 → ExtD [w] σ.O σ'.O → K .next σ') :
    forL 75 (.ref sl) full (fun σ K => wpS c n opB σ K) (rowV l) σ K := by
  induction l generalizing ks σ with
  | nil => exact q σ ks e1 f1 h1 (by omega) (.refl _ _)
  | cons k l ih =>
    rw [List.length_cons] at h2
    refine flC ?_
    obtain ⟨m, hm⟩ : ∃ m : Int, m = if k < 0 then -k else k := ⟨_, rfl⟩
    have pos : 0 ≤ m := by rw [hm]; split <;> omega
    have va : V c n (.bif .abs (.cons (.var 75) .nil)) (setf σ.fr 75 (.int k)) σ.O (.int m) := hm ▸ fun _ h => h
    have e3 : up σ.O w (.list (rowV (ks ++ [m % 420]))) w = some (.list (rowV (ks ++ [m % 420]))) := up_at _ _ _
    have n2 : ∀ x, up (up σ.O w (.list (rowV (ks ++ [m % 420])))) w (.list x) sl = some (.list full) := fun x => (up_ne (Ne.symm wsl)).trans ((up_ne (Ne.symm wsl)).trans e2)
    have p1 : ∀ x ∈ ks ++ [m % 420], 0 ≤ x := fun x mx => by
      rcases List.mem_append.mp mx with mx | mx
      · exact h1 x mx
      · rw [List.mem_singleton.mp mx]; omega
    have ln : ∀ (ks' : List Int), ks'.length ≤ 91 → (rowV ks').length < lim := fun ks' h => by rw [rowV_len]; exact Nat.lt_of_le_of_lt h (by decide)
    refine rAsg (.int m) va (sApp (y := .int (m % 420)) e1 (ln ks (by omega)) (vVar f1) (vMod fun _ h => h) ?_)
    rw [rowV_snoc]
    refine rIf (decide ((420 : Int) ≤ m)) (fun _ h => h) (fun _ => sApp (y := .int (m / 420 % 420)) e3 (ln _ (by rw [List.length_append, List.length_singleton]; omega)) (vVar f1) (vMod (vBin (o := .FloorDiv) (x := .int m) (y := .int 420) ((bin_div m 420).trans (if_pos (by decide))) (fun _ h => h) fun _ h => h)) ?_) (fun _ => ?_)
    · rw [rowV_snoc]
      refine rNx (flN (seq_list (n2 _)) (ih _ ⟨_, _⟩ (up_at _ _ _) (n2 _) f1 (fun x mx => ?_) (by rw [List.length_append, List.length_append, List.length_singleton, List.length_singleton]; omega) fun σ' ks' a1 a2 a3 a4 a5 => q σ' ks' a1 a2 a3 a4 (((ExtD.up List.mem_cons_self).trans (ExtD.up List.mem_cons_self)).trans a5)))
      rcases List.mem_append.mp mx with mx | mx
      · exact p1 x mx
      · rw [List.mem_singleton.mp mx]; omega
    · have n1 : up σ.O w (.list (rowV (ks ++ [m % 420]))) sl = some (.list full) := (up_ne (Ne.symm wsl)).trans e2
      exact rNx (flN (seq_list n1) (ih _ ⟨_, _⟩ e3 n1 f1 p1 (by rw [List.length_append, List.length_singleton]; omega) fun σ' ks' a1 a2 a3 a4 a5 => q σ' ks' a1 a2 a3 a4 ((ExtD.up List.mem_cons_self).trans a5)))

theorem k_law_open (ok : c.Ok) (C : Code c.K) {l : List Int} (ll : l.length < 90000) (q : ∀ w ks O', Ext O O' → O w = none → O' w = some (.list (rowV ks)) → RowI ks → Q (.ref w) O') : CallOK c (n + 1) 515 [.lst (rowV l)] O Q := by
  refine fn_call ok C.law_open C.b_law_open rfl (fun _ => .nil) ?_
  refine rAsgC (rLst (a0 fun w hw => ?_))
  refine rFor (rSlc (l := rowV l) rfl (by decide) (by rw [rowV_len]; exact Nat.lt_trans ll (by decide)) fun sl hsl => ?_)
  have ne : w ≠ sl := fun e => by rw [← e, up_at] at hsl; cases hsl
  have e1 : up (up O w (.list [])) sl (.list ((rowV l).take 45)) w = some (.list (rowV [])) := (up_ne ne).trans (up_at _ _ _)
  have x1 : Ext O (up (up O w (.list [])) sl (.list ((rowV l).take 45))) := (Ext.new hw).trans (.new hsl)
  have ht : (rowV l).take 45 = rowV (l.take 45) := by unfold rowV; rw [List.map_take]
  have e2 : up (up O w (.list [])) sl (.list ((rowV l).take 45)) sl = some (.list ((rowV l).take 45)) := up_at _ _ _
  generalize up (up O w (.list [])) sl (.list ((rowV l).take 45)) = O1 at *
  generalize hf : (rowV l).take 45 = full at *
  subst ht
  refine forI (seq_list e2) (by rw [rowV_len, List.length_take]; unfold lim; omega) (open_loop (w := w) ne (l.take 45) [] _ _ e1 e2 rfl (fun k m => nomatch m) (by rw [List.length_take, List.length_nil]; omega) fun σ' ks' a1 a2 a3 a4 a5 => ?_)
  show wpS c n (.cons (.ex (.rev (.var 100))) (.cons (.ret (.var 100)) .nil)) ⟨σ'.O, σ'.fr⟩ _
  refine sRev a1 (by rw [rowV_len]; exact Nat.lt_of_le_of_lt a4 (by decide)) (vVar a2) (rRet (.ref w) (vVar a2) ?_)
  refine q w ks'.reverse _ (fun b hb => ?_) hw ?_ ⟨fun k m => a3 k (by simpa using m), by simp; omega⟩
  · have nb : b ≠ w := fun e => by rw [e, hw] at hb; cases hb
    have h1 := x1 b hb
    exact (up_ne nb).trans ((a5 b (fun m => nb (List.mem_singleton.mp m)) (by show (O1 b).isSome = true; rw [h1]; exact hb)).trans h1)
  · exact (up_at _ _ _).trans (by unfold rowV; rw [List.map_reverse])

theorem k_pull (ok : c.Ok) (C : Code c.K) (e : O w = some (.list (rowV ks))) (R : RowI ks) {m : Nat} (hm : 0 < m ∧ m < 1000)
    (q : ∀ (v : Nat) ks' O', v < m → RowI ks' → O' w = some (.list (rowV ks')) → ExtD [w] O O' → Q (.int v) O') : CallOK c (n + 1) 522 [.ref w, .int m] O Q := by
  refine fn_call ok C.law_pull C.b_law_pull rfl (fun _ => .nil) ?_
  refine rRetC (iteC (tCmpV (vVar (v := .ref w) rfl) (rLst (a0 fun z hz => ?_))))
  have zw : w ≠ z := fun e' => by rw [← e', e] at hz; cases hz
  have e1 : up O z (.list []) w = some (.list (rowV ks)) := (up_ne zw).trans e
  have x1 : ExtD [w] O (up O z (.list [])) := .new hz
  have eq : cmpA (up O z (.list [])) .NotEq (.ref w) (.ref z) = some (!decide (ks = [])) := by
    show ((asLst (up O z (.list []) w)).bind fun l => (asLst (up O z (.list []) z)).bind fun m => eqL l m).map _ = _
    rw [e1, up_at]
    cases ks <;> rfl
  show (match cmpA (up O z (.list [])) .NotEq (.ref w) (.ref z) with | some z => _ | none => False)
  rw [eq]
  rcases List.eq_nil_or_concat ks with h | ⟨ks', k, h⟩
  · subst h
    exact q 0 [] _ hm.1 ⟨(fun k m => nomatch m), by decide⟩ e1 x1
  · rw [List.concat_eq_append] at h
    have rl := R.len
    subst h
    rw [← rowV_snoc] at e1
    have hne : decide (ks' ++ [k] = []) = false := decide_eq_false (by simp)
    rw [hne]
    have k0 : 0 ≤ k := R.pos k (List.mem_append_right _ List.mem_cons_self)
    have m0 : (0 : Int) < m ∧ (m : Int) < 2 ^ 20 := ⟨Int.ofNat_lt.mpr hm.1, Int.lt_trans (Int.ofNat_lt.mpr hm.2) (by decide)⟩
    have kn := Int.emod_nonneg k (Int.ne_of_gt m0.1)
    have := q (k % m).toNat ks' (up (up O z (.list [])) w (.list (rowV ks'))) (by
      have := Int.emod_lt_of_pos k m0.1
      omega) ⟨fun x mx => R.pos x (List.mem_append_left _ mx), by rw [List.length_append] at rl; exact Nat.lt_of_le_of_lt (Nat.le_add_right _ _) rl⟩ (up_at _ _ _) (x1.trans (.up List.mem_cons_self))
    rw [Int.toNat_of_nonneg kn] at this
    exact rBinC (rPop e1 (by rw [List.length_append, rowV_len]; rw [List.length_append] at rl; exact Nat.lt_trans rl (by decide)) (vVar rfl) ((binI (o := .Mod) ((bin_mod k m).trans (if_pos m0)) (fun _ h => h) this)))
end
end Mine

namespace Mine

structure Grow (y : YA) (w : Addr) (ts : List Str) (fs : List (Nat × Nat)) (O : Objs) (ks' : List Int) (ts' : List Str) (fs' : List (Nat × Nat)) (O' : Objs) : Prop where
  row : O' w = some (.list (rowV ks'))
  ri : RowI ks'
  sy : SymS y ts' fs' O'
  sg : SymG ts' fs'
  pt : ts <+: ts'
  pf : fs <+: fs'
  x : ExtD (w :: y.l) O O'
theorem Grow.trans {y : YA} {w : Addr} {ts ts' ts'' : List Str} {fs fs' fs'' : List (Nat × Nat)} {O O' O'' : Objs} {ks' ks'' : List Int} (g : Grow y w ts fs O ks' ts' fs' O') (g' : Grow y w ts' fs' O' ks'' ts'' fs'' O'') : Grow y w ts fs O ks'' ts'' fs'' O'' :=
  ⟨g'.row, g'.ri, g'.sy, g'.sg, g.pt.trans g'.pt, g.pf.trans g'.pf, g.x.trans g'.x⟩
theorem tok_mono {ts ts' : List Str} {fs fs' : List (Nat × Nat)} (p : ts <+: ts') (p' : fs <+: fs') : ∀ t, tok ts fs t → tok ts' fs' t
  | .v _, k => k
  | .a _, k => k
  | .i _, k => k
  | .s1 f x, ⟨⟨a, b, c, d⟩, k⟩ => ⟨⟨a, b, pre_get p' c, Nat.lt_of_lt_of_le d p.length_le⟩, tok_mono p p' x k⟩
  | .s2 f x y, ⟨⟨a, b, c, d⟩, k, l⟩ => ⟨⟨a, b, pre_get p' c, Nat.lt_of_lt_of_le d p.length_le⟩, tok_mono p p' x k, tok_mono p p' y l⟩
theorem SymS.ext {y : YA} {ts : List Str} {fs : List (Nat × Nat)} {O O' : Objs} (s : SymS y ts fs O) {D : List Addr} (x : ExtD D O O') (d : ∀ b ∈ D, b ∉ y.l) : SymS y ts fs O' :=
  ⟨x.get (fun m => d _ m (by simp [YA.l])) s.tx, x.get (fun m => d _ m (by simp [YA.l])) s.an, x.get (fun m => d _ m (by simp [YA.l])) s.fu, x.get (fun m => d _ m (by simp [YA.l])) s.fn, s.ap, s.nt, s.nf, s.ut, s.uf⟩
theorem pf_u : Str.ofString "p" ∈ univ ∧ Str.ofString "f" ∈ univ := ⟨by decide +kernel, by decide +kernel⟩

theorem sub_l0 {O : Objs} {w : Addr} {x : AV} {l : List AV} (e : O w = some (.list (x :: l))) : subA O (.ref w) (.int 0) = some x := by
  rw [sub_at e]; rfl
theorem sub_l1 {O : Objs} {w : Addr} {x z : AV} {l : List AV} (e : O w = some (.list (x :: z :: l))) : subA O (.ref w) (.int 1) = some z := by
  rw [sub_at e]; rfl
section
variable {c : Cx} {n : Nat} {y : YA} {ts : List Str} {fs : List (Nat × Nat)} {O O' : Objs} {Q : AV → Objs → Prop} {w : Addr} {ks : List Int}

/-- a draw from the row -/
theorem g_pull (ok : c.Ok) (C : Code c.K) (e : O w = some (.list (rowV ks))) (R : RowI ks) (S : SymS y ts fs O) (G : SymG ts fs) (wy : w ∉ y.l) {m : Nat} (hm : 0 < m ∧ m < 1000)
    (q : ∀ (v : Nat) ks' O', v < m → Grow y w ts fs O ks' ts fs O' → Q (.int v) O') : CallOK c (n + 1) 522 [.ref w, .int m] O Q :=
  k_pull ok C e R hm fun v ks' O' hv R' e' x => q v ks' O' hv ⟨e', R', S.ext x (fun b m => by simp at m; subst m; exact wy), G, List.prefix_refl _, List.prefix_refl _, x.wide (by simp)⟩
/-- a new functor -/
theorem g_func (ok : c.Ok) (C : Code c.K) (e : O w = some (.list (rowV ks))) (R : RowI ks) (S : SymS y ts fs O) (G : SymG ts fs) (wy : w ∉ y.l) {s : Str} {r : Nat} (us : s ∈ univ) (hr : r < 9) (nd : s ≠ Str.ofString ".")
    (q : ∀ ts' fs' (f : Nat) O', Grow y w ts fs O ks ts' fs' O' → (f ≠ 0 ∧ ∃ at', fs'[f]? = some (at', r) ∧ at' < ts'.length) → Q (.int f) O') : CallOK c (n + 2) 109 [y.v, .str s, .int r] O Q := by
  refine k_func ok C S us hr fun ts' fs' i j O' S' pt pf lf hi hj x => ?_
  refine q ts' fs' j O' ⟨x.get wy e, R, S', G.mono pt pf, pt, pf, x.wide (fun b m => List.mem_cons_of_mem _ m)⟩ ⟨fun j0 => ?_, i, hj, (List.getElem?_eq_some_iff.mp hi).1⟩
  subst j0
  obtain ⟨i', e1, e2⟩ := (G.mono pt pf).dot
  rw [hj] at e1
  simp at e1
  obtain ⟨rfl, _⟩ := e1
  rw [hi] at e2
  exact nd (by simpa using e2)

theorem seq_rng1 (O : Objs) : seqOf O (.rng 0 1 1) = some [.int 0] := rfl
theorem seq_rng4 (O : Objs) : seqOf O (.rng 0 4 1) = some [.int 0, .int 1, .int 2, .int 3] := rfl
theorem bif_tuple {O : Objs} {w : Addr} {l : List AV} (e : O w = some (.list l)) (Q : AV → Objs → Prop) : bifA O .tuple [.ref w] Q = (l.length < lim ∧ Q (.tup l) O) := by
  show oP (asLst (O w)) _ = _
  rw [e]; rfl
theorem Grow.new {O1 : Objs} (g : Grow y w ts fs O ks ts fs' O1) {z : Addr} (d : O1 z = none) {m : MO} : Grow y w ts fs O ks ts fs' (up O1 z m) := by
  have x : ExtD [] O1 (up O1 z m) := .new d
  exact ⟨x.get (fun m => nomatch m) g.row, g.ri, g.sy.ext x (fun b m => nomatch m), g.sg, g.pt, g.pf, g.x.trans (x.wide (fun b m => nomatch m))⟩

theorem k_tree3 (ok : c.Ok) (C : Code c.K) (e : O w = some (.list (rowV ks))) (R : RowI ks) (S : SymS y ts fs O) (G : SymG ts fs) (wy : w ∉ y.l)
    (q : ∀ ks' t O', Grow y w ts fs O ks' ts fs O' → tok ts fs t → t.size = 1 → Q (enc t) O') : CallOK c (n + 2) 527 [.ref w, y.v, .int 3] O Q := by
  refine fn_call ok C.law_tree C.b_law_tree rfl (fun _ => .nil) (rAsgC (rCall (a2 (fun _ h => h) (v2 := .int 3) (fun _ h => h) (g_pull (m := 3) ok C e R S G wy (by decide) fun v ks1 O1 hv g1 => ?_))))
  have hv : v = 0 ∨ v = 1 ∨ v = 2 := by omega
  rcases hv with rfl | rfl | rfl
  · exact rIfT (fun _ h => h) (rRetC (rTup (aV (fun _ h => h) (aC (rCall (a2 (fun _ h => h) (fun _ h => h) (g_pull (m := 4) ok C g1.row g1.ri g1.sy g1.sg wy (by decide) fun v ks2 O2 hv g2 => a0 (q ks2 (.v v) O2 (g1.trans g2) hv rfl))))))))
  · refine rIfF (fun _ h => h) (rNx (rIfT (fun _ h => h) (rRetC (rTup (aC (rSubC (rLst (a2 (fun _ h => h) (fun _ h => h) fun z hz => ?_))))))))
    have zw : w ≠ z := fun e => by rw [← e, g1.row] at hz; cases hz
    exact subI (y := .int 0) (sub_l0 (up_at _ _ _)) (fun _ h => h) (aC (rCall (a2 (fun _ h => h) (fun _ h => h) (g_pull (m := 2) ok C (g1.new hz).row g1.ri (g1.new hz).sy g1.sg wy (by decide) fun v ks2 O2 hv g2 => a0 (q ks2 (.i v) O2 ((g1.new hz).trans g2) hv rfl)))))
  · refine rIfF (fun _ h => h) (rNx (rIfT (fun _ h => h) (rRetC (rTup (aC (rSubC (rLst (a2 (fun _ h => h) (fun _ h => h) fun z hz => ?_))))))))
    exact subI (y := .int 1) (sub_l1 (up_at _ _ _)) (fun _ h => h) (aC (rCall (a2 (fun _ h => h) (fun _ h => h) (g_pull (m := 2) ok C (g1.new hz).row g1.ri (g1.new hz).sy g1.sg wy (by decide) fun v ks2 O2 hv g2 => a0 (q ks2 (.a v) O2 ((g1.new hz).trans g2) hv rfl)))))
theorem k_tree2 (ok : c.Ok) (C : Code c.K) (e : O w = some (.list (rowV ks))) (R : RowI ks) (S : SymS y ts fs O) (G : SymG ts fs) (wy : w ∉ y.l)
    (q : ∀ ks' ts' fs' t O', Grow y w ts fs O ks' ts' fs' O' → tok ts' fs' t → t.size ≤ 3 → Q (enc t) O') : CallOK c (n + 3) 527 [.ref w, y.v, .int 2] O Q := by
  refine fn_call ok C.law_tree C.b_law_tree rfl (fun _ => .nil) (rAsgC (rCall (a2 (fun _ h => h) (v2 := .int 5) (fun _ h => h) (g_pull (m := 5) ok C e R S G wy (by decide) fun v ks1 O1 hv g1 => ?_))))
  have hv : v = 0 ∨ v = 1 ∨ v = 2 ∨ v = 3 ∨ v = 4 := by omega
  rcases hv with rfl | rfl | rfl | rfl | rfl
  · exact rIfT (fun _ h => h) (rRetC (rTup (aV (fun _ h => h) (aC (rCall (a2 (fun _ h => h) (fun _ h => h) (g_pull (m := 4) ok C g1.row g1.ri g1.sy g1.sg wy (by decide) fun v ks2 O2 hv g2 => a0 (q ks2 ts fs (.v v) O2 (g1.trans g2) hv (show 1 ≤ 3 by decide)))))))))
  · refine rIfF (fun _ h => h) (rNx (rIfT (fun _ h => h) (rRetC (rTup (aC (rSubC (rLst (a2 (fun _ h => h) (fun _ h => h) fun z hz => ?_))))))))
    exact subI (y := .int 0) (sub_l0 (up_at _ _ _)) (fun _ h => h) (aC (rCall (a2 (fun _ h => h) (fun _ h => h) (g_pull (m := 2) ok C (g1.new hz).row g1.ri (g1.new hz).sy g1.sg wy (by decide) fun v ks2 O2 hv g2 => a0 (q ks2 ts fs (.i v) O2 ((g1.new hz).trans g2) hv (show 1 ≤ 3 by decide))))))
  · refine rIfF (fun _ h => h) (rNx (rIfT (fun _ h => h) (rRetC (rTup (aC (rSubC (rLst (a2 (fun _ h => h) (fun _ h => h) fun z hz => ?_))))))))
    exact subI (y := .int 1) (sub_l1 (up_at _ _ _)) (fun _ h => h) (aC (rCall (a2 (fun _ h => h) (fun _ h => h) (g_pull (m := 2) ok C (g1.new hz).row g1.ri (g1.new hz).sy g1.sg wy (by decide) fun v ks2 O2 hv g2 => a0 (q ks2 ts fs (.a v) O2 ((g1.new hz).trans g2) hv (show 1 ≤ 3 by decide))))))
  · refine rIfF (fun _ h => h) (rNx (rIfF (fun _ h => h) (rNx (rRetC (rTup (aV (fun _ h => h) (aC (rMth rfl (fun _ h => h) (a2 (fun _ h => h) (v2 := .int 1) (fun _ h => h) (g_func (y := y) (r := 1) ok C g1.row g1.ri g1.sy g1.sg wy pf_u.2 (by decide) (by decide +kernel) fun ts2 fs2 f O2 g2 hf => ?_))))))))))
    refine aC (rBif (aC (rCpr rfl (seq_rng1 _) (by decide) (vRng1 (x := 1) rfl fun _ h => h) (cpC (rCall (a3 (fun _ h => h) (fun _ h => h) (fun _ h => h) (k_tree3 (y := y) ok C g2.row g2.ri g2.sy g2.sg wy fun ks3 t O3 g3 kt st => ⟨seq_rng1 _, fun z hz => ?_⟩)))))))
    exact a0 (bTup (up_at _ _ _) (show 1 < lim by decide) (a0 (q ks3 ts2 fs2 (.s1 f t) _ (g1.trans (g2.trans (g3.new hz))) ⟨hf, kt⟩ (by show t.size + 1 ≤ 3; omega))))
  · refine rIfF (fun _ h => h) (rNx (rIfF (fun _ h => h) (rNx (rRetC (rTup (aV (fun _ h => h) (aC (rMth rfl (fun _ h => h) (a2 (fun _ h => h) (v2 := .int 2) (fun _ h => h) (g_func (y := y) (r := 2) ok C g1.row g1.ri g1.sy g1.sg wy pf_u.2 (by decide) (by decide +kernel) fun ts2 fs2 f O2 g2 hf => ?_))))))))))
    refine aC (rBif (aC (rCpr rfl (seq_rng2 _) (by decide) (vRng1 (x := 2) rfl fun _ h => h) (cpC (rCall (a3 (fun _ h => h) (fun _ h => h) (fun _ h => h) (k_tree3 (y := y) ok C g2.row g2.ri g2.sy g2.sg wy fun ks3 t O3 g3 kt st => ⟨seq_rng2 _, ?_⟩)))))))
    refine cpC (rCall (a3 (fun _ h => h) (fun _ h => h) (fun _ h => h) (k_tree3 (y := y) ok C g3.row g3.ri g3.sy g3.sg wy fun ks4 u O4 g4 ku su => ⟨seq_rng2 _, fun z hz => ?_⟩)))
    exact a0 (bTup (up_at _ _ _) (show 2 < lim by decide) (a0 (q ks4 ts2 fs2 (.s2 f t u) _ (g1.trans (g2.trans (g3.trans (g4.new hz)))) ⟨hf, kt, ku⟩ (by show t.size + u.size + 1 ≤ 3; omega))))
theorem k_pair (ok : c.Ok) (C : Code c.K) (e : O w = some (.list (rowV ks))) (R : RowI ks) (S : SymS y ts fs O) (G : SymG ts fs) (wy : w ∉ y.l)
    (q : ∀ ks' ts' fs' t O', Grow y w ts fs O ks' ts' fs' O' → tok ts' fs' t → t.size ≤ 7 → (∃ f us, IsS t f us) → Q (enc t) O') : CallOK c (n + 4) 534 [.ref w, y.v] O Q := by
  refine fn_call ok C.law_pair C.b_law_pair rfl (fun _ => .nil) (rRetC (rTup (aV (fun _ h => h) (aC (rMth rfl (fun _ h => h) (a2 (fun _ h => h) (v2 := .int 2) (fun _ h => h) (g_func (y := y) (r := 2) ok C e R S G wy pf_u.1 (by decide) (by decide +kernel) fun ts2 fs2 f O2 g2 hf => ?_)))))))
  refine aC (rTup (aC (rCall (a3 (fun _ h => h) (fun _ h => h) (fun _ h => h) (k_tree2 (y := y) ok C g2.row g2.ri g2.sy g2.sg wy fun ks3 ts3 fs3 t O3 g3 kt st => ?_)))))
  refine aC (rCall (a3 (fun _ h => h) (fun _ h => h) (fun _ h => h) (k_tree2 (y := y) ok C g3.row g3.ri g3.sy g3.sg wy fun ks4 ts4 fs4 u O4 g4 ku su => ?_)))
  have hp := (g3.pt.trans g4.pt)
  exact a0 (a0 (q ks4 ts4 fs4 (.s2 f t u) _ (g2.trans (g3.trans g4)) ⟨⟨hf.1, hf.2.choose, pre_get (g3.pf.trans g4.pf) hf.2.choose_spec.1, Nat.lt_of_lt_of_le hf.2.choose_spec.2 hp.length_le⟩, tok_mono g4.pt g4.pf t kt, ku⟩ (by show t.size + u.size + 1 ≤ 7; omega) ⟨_, _, .s2 f t u⟩))
end
end Mine

namespace Mine

noncomputable def sgm (us : List T) : Nat → T := fun n => us.getD n (.v 0)
section
variable {c : Cx} {n : Nat} {y : YA} {ts : List Str} {fs : List (Nat × Nat)} {O O' : Objs} {Q : AV → Objs → Prop} {w : Addr} {ks : List Int}

theorem sa_s' : (Str.ofString "a" = Str.ofString "s") = False := eq_false (by decide +kernel)
theorem si_s' : (Str.ofString "i" = Str.ofString "s") = False := eq_false (by decide +kernel)
theorem k_filled (ok : c.Ok) (C : Code c.K) {tl : Addr} {us : List T} (h4 : us.length = 4) (t : T) (n : Nat) (O : Objs) (Q : AV → Objs → Prop) (e : O tl = some (.list (us.map enc))) (tk : tok ts fs t)
    (q : ∀ O', Ext O O' → Q (enc (tsub (sgm us) t)) O') : CallOK c (n + t.size) 539 [enc t, .ref tl] O Q := by
  induction t generalizing n O Q with
  | v k =>
    have tk : k < 4 := tk
    have ek : (us.map enc)[k]? = some (enc (sgm us k)) := by
      rw [List.getElem?_map, List.getElem?_eq_getElem (h4 ▸ tk)]
      exact congrArg (fun z => some (enc z)) ((List.getD_eq_getElem?_getD ..).trans (by rw [List.getElem?_eq_getElem (h4 ▸ tk)]; rfl)).symm
    exact fn_call (n := n) ok C.law_filled C.b_law_filled rfl (fun _ => .nil) (rIfT (tSeq (fun _ h => h) fun _ h => h) (rRet (enc (sgm us k)) (vSub ((sub_list e (Nat.lt_trans tk (by decide))).trans ek) (fun _ h => h) fun _ h => h) (q O (.refl _))))
  | a k => exact fn_call (n := n) ok C.law_filled C.b_law_filled rfl (fun _ => .nil) (rIfF (tSne sv_a (fun _ h => h) fun _ h => h) (rNx (rIfF (tSne sa_s' (fun _ h => h) fun _ h => h) (rNx (rRet (enc (.a k)) (fun _ h => h) (q O (.refl _)))))))
  | i k => exact fn_call (n := n) ok C.law_filled C.b_law_filled rfl (fun _ => .nil) (rIfF (tSne sv_i (fun _ h => h) fun _ h => h) (rNx (rIfF (tSne si_s' (fun _ h => h) fun _ h => h) (rNx (rRet (enc (.i k)) (fun _ h => h) (q O (.refl _)))))))
  | s1 f x ih =>
    refine fn_call (n := n + x.size) ok C.law_filled C.b_law_filled rfl (fun _ => .nil) (rIfF (tSne sv_s (fun _ h => h) fun _ h => h) (rNx (rIfT (tSeq (fun _ h => h) fun _ h => h) (rRetC (rTup (aV (fun _ h => h) (aV (fun _ h => h) (aC (rBif (aC (rCpr (v := .tup [enc x]) (full := [enc x]) rfl rfl (show 1 < lim by decide) (fun _ h => h) (cpC (rCall (a2 (fun _ h => h) (fun _ h => h) (ih n O _ e tk.2 fun O1 x1 => ⟨rfl, fun z hz => ?_⟩)))))))))))))))
    exact a0 (bTup (up_at _ _ _) (show 1 < lim by decide) (a0 (q _ (x1.trans (.new hz)))))
  | s2 f x y ihx ihy =>
    refine fn_call (n := n + (x.size + y.size)) ok C.law_filled C.b_law_filled rfl (fun _ => .nil) (rIfF (tSne sv_s (fun _ h => h) fun _ h => h) (rNx (rIfT (tSeq (fun _ h => h) fun _ h => h) (rRetC (rTup (aV (fun _ h => h) (aV (fun _ h => h) (aC (rBif (aC (rCpr (v := .tup [enc x, enc y]) (full := [enc x, enc y]) rfl rfl (show 2 < lim by decide) (fun _ h => h) (cpC (rCall (a2 (fun _ h => h) (fun _ h => h) ?_))))))))))))))
    have e1 : n + (x.size + y.size) = (n + y.size) + x.size := by omega
    have e2 : n + (x.size + y.size) = (n + x.size) + y.size := by omega
    refine e1 ▸ ihx (n + y.size) O _ e tk.2.1 fun O1 x1 => ⟨rfl, e1 ▸ cpC (rCall (a2 (fun _ h => h) (fun _ h => h) (e2 ▸ ihy (n + x.size) O1 _ (x1.get e) tk.2.2 fun O2 x2 => ⟨rfl, fun z hz => ?_⟩)))⟩
    exact a0 (bTup (up_at _ _ _) (show 2 < lim by decide) (a0 (q _ (x1.trans (x2.trans (.new hz))))))

theorem tok_sub {us : List T} (h4 : us.length = 4) (hu : ∀ u ∈ us, tok ts fs u) : ∀ t, tok ts fs t → tok ts fs (tsub (sgm us) t)
  | .v k, h => by
    have h : k < 4 := h
    have e : sgm us k = us[k]'(by omega) := by simp [sgm, List.getElem?_eq_getElem (show k < us.length by omega)]
    show tok ts fs (sgm us k)
    rw [e]; exact hu _ (List.getElem_mem _)
  | .a k, h => h
  | .i k, h => h
  | .s1 f x, ⟨h, k⟩ => ⟨h, tok_sub h4 hu x k⟩
  | .s2 f x y, ⟨h, k, l⟩ => ⟨h, tok_sub h4 hu x k, tok_sub h4 hu y l⟩
theorem size_sub {us : List T} (hu : ∀ u ∈ us, u.size ≤ 3) : ∀ t : T, (tsub (sgm us) t).size ≤ 3 * t.size
  | .v k => by
    show (sgm us k).size ≤ 3 * 1
    unfold sgm
    rw [List.getD_eq_getElem?_getD]
    cases e : us[k]? with
    | none => simp [T.size]
    | some u => exact hu u (List.mem_of_getElem? e)
  | .a k => by simp [tsub, T.size]
  | .i k => by simp [tsub, T.size]
  | .s1 f x => by have := size_sub hu x; simp [tsub, T.size]; omega
  | .s2 f x y => by have := size_sub hu x; have := size_sub hu y; simp [tsub, T.size]; omega
theorem IsS.tsub {σ : Nat → T} {t : T} (h : ∃ f us, IsS t f us) : ∃ f us, IsS (tsub σ t) f us := by
  obtain ⟨f, us, h⟩ := h
  cases h with
  | s1 f x => exact ⟨_, _, .s1 f _⟩
  | s2 f x y => exact ⟨_, _, .s2 f _ _⟩

/-- what one step of the chain gives -/
structure Nx (ts : List Str) (fs : List (Nat × Nat)) (t t' : T) (b : Bool) : Prop where
  tk : tok ts fs t'
  is : ∃ f us, IsS t' f us
  sz : t'.size ≤ 3 * t.size ∨ t'.size ≤ 7
  sub : b = true → Sub t t'

theorem all4 {P : T → Prop} {a b d e : T} (ha : P a) (hb : P b) (hd : P d) (he : P e) : ∀ u ∈ [a, b, d, e], P u := fun u m => by
  rcases List.mem_cons.mp m with rfl | m
  · exact ha
  rcases List.mem_cons.mp m with rfl | m
  · exact hb
  rcases List.mem_cons.mp m with rfl | m
  · exact hd
  cases List.mem_singleton.mp m; exact he
theorem k_next (ok : c.Ok) (C : Code c.K) (e : O w = some (.list (rowV ks))) (R : RowI ks) (S : SymS y ts fs O) (G : SymG ts fs) (wy : w ∉ y.l) {t : T} (tk : tok ts fs t) (is : ∃ f us, IsS t f us) (lt : t.size ≤ 30)
    (q : ∀ ks' ts' fs' t' b O', Grow y w ts fs O ks' ts' fs' O' → Nx ts' fs' t t' b → Q (.tup [enc t', .bool b]) O') : CallOK c (n + 31) 544 [.ref w, y.v, enc t] O Q := by
  refine fn_call ok C.law_next C.b_law_next rfl (fun _ => .nil) (rAsgC (rCall (a2 (fun _ h => h) (v2 := .int 4) (fun _ h => h) (g_pull (m := 4) ok C e R S G wy (by decide) fun v ks1 O1 hv g1 => ?_))))
  have hv : v = 0 ∨ v = 1 ∨ v = 2 ∨ v = 3 := by omega
  have fill : ∀ {us : List T} {ks1 : List Int} {ts1 fs1 : _} {O1 : Objs} (g : Grow y w ts fs O ks1 ts1 fs1 O1), us.length = 4 → (∀ u ∈ us, tok ts1 fs1 u) → (∀ u ∈ us, u.size ≤ 3) → ∀ z, O1 z = none → CallOK c (n + 30) 539 [enc t, .ref z] (up O1 z (.list (us.map enc))) fun v O => Q (.tup [v, .bool true]) O := by
    intro us ks1 ts1 fs1 O1 g h4 hu hs z hz
    rw [show n + 30 = (n + 30 - t.size) + t.size by omega]
    have tk1 := tok_mono g.pt g.pf t tk
    refine k_filled ok C h4 t _ _ _ (up_at _ _ _) tk1 fun O2 x2 => ?_
    have x : ExtD [] O1 O2 := fun b _ eb => by
      have := up_ne (O := O1) (a := z) (m := .list (us.map enc)) (b := b) (fun e => by rw [e, hz] at eb; cases eb)
      rw [x2 b (by rw [this]; exact eb), this]
    exact q ks1 ts1 fs1 _ true O2 ⟨x.get (fun m => nomatch m) g.row, g.ri, g.sy.ext x (fun b m => nomatch m), g.sg, g.pt, g.pf, g.x.trans (x.wide (fun b m => nomatch m))⟩ ⟨tok_sub h4 hu t tk1, IsS.tsub is, .inl (size_sub hs t), fun _ => ⟨_, rfl⟩⟩
  rcases hv with rfl | rfl | rfl | rfl
  · refine rIfT (fun _ h => h) (rRetC (rTup (aC (rCall (aV (fun _ h => h) (aC (rCpr rfl (seq_rng4 _) (by decide) (vRng1 (x := 4) rfl fun _ h => h) (cpC (rCall (a3 (fun _ h => h) (fun _ h => h) (fun _ h => h) (k_tree2 (n := n + 27) (y := y) ok C g1.row g1.ri g1.sy g1.sg wy fun ks2 ts2 fs2 t2 O2 g2 k2 s2 => ⟨seq_rng4 _, ?_⟩)))))))))))
    refine cpC (rCall (a3 (fun _ h => h) (fun _ h => h) (fun _ h => h) (k_tree2 (n := n + 27) (y := y) ok C g2.row g2.ri g2.sy g2.sg wy fun ks3 ts3 fs3 t3 O3 g3 k3 s3 => ⟨seq_rng4 _, ?_⟩)))
    refine cpC (rCall (a3 (fun _ h => h) (fun _ h => h) (fun _ h => h) (k_tree2 (n := n + 27) (y := y) ok C g3.row g3.ri g3.sy g3.sg wy fun ks4 ts4 fs4 t4 O4 g4 k4 s4 => ⟨seq_rng4 _, ?_⟩)))
    refine cpC (rCall (a3 (fun _ h => h) (fun _ h => h) (fun _ h => h) (k_tree2 (n := n + 27) (y := y) ok C g4.row g4.ri g4.sy g4.sg wy fun ks5 ts5 fs5 t5 O5 g5 k5 s5 => ⟨seq_rng4 _, fun z hz => ?_⟩)))
    exact a0 (fill (us := [t2, t3, t4, t5]) (g1.trans (g2.trans (g3.trans (g4.trans g5)))) rfl (all4 (tok_mono (g3.pt.trans (g4.pt.trans g5.pt)) (g3.pf.trans (g4.pf.trans g5.pf)) _ k2) (tok_mono (g4.pt.trans g5.pt) (g4.pf.trans g5.pf) _ k3) (tok_mono g5.pt g5.pf _ k4) k5) (all4 s2 s3 s4 s5) z hz)
  · refine rIfF (fun _ h => h) (rNx (rIfT (fun _ h => h) (rRetC (rTup (aC (rCall (aV (fun _ h => h) (aC (rCpr rfl (seq_rng4 _) (by decide) (vRng1 (x := 4) rfl fun _ h => h) (cpV (enc (.v 1)) (seq_rng4 _) (fun _ h => h) (cpV (enc (.v 2)) (seq_rng4 _) (fun _ h => h) (cpV (enc (.v 3)) (seq_rng4 _) (fun _ h => h) (cpV (enc (.v 0)) (seq_rng4 _) (fun _ h => h) fun z hz => ?_)))))))))))))
    exact a0 (fill (us := [.v 1, .v 2, .v 3, .v 0]) g1 rfl (all4 (by decide : 1 < 4) (by decide : 2 < 4) (by decide : 3 < 4) (by decide : 0 < 4)) (all4 (by decide) (by decide) (by decide) (by decide)) z hz)
  · exact rIfF (fun _ h => h) (rNx (rIfF (fun _ h => h) (rNx (rIfT (fun _ h => h) (rRetC (rTup (aC (rCall (a2 (fun _ h => h) (fun _ h => h) (k_pair (n := n + 26) (y := y) ok C g1.row g1.ri g1.sy g1.sg wy fun ks2 ts2 fs2 t2 O2 g2 k2 s2 i2 => a1 (fun _ h => h) (q ks2 ts2 fs2 t2 false O2 (g1.trans g2) ⟨k2, i2, .inr s2, nofun⟩)))))))))))
  · refine rIfF (fun _ h => h) (rNx (rIfF (fun _ h => h) (rNx (rIfF (fun _ h => h) (rNx (rRetC (rTup (aC (rCall (aV (fun _ h => h) (aC (rCpr rfl (seq_rng4 _) (by decide) (vRng1 (x := 4) rfl fun _ h => h) (cpV (enc (.v 0)) (seq_rng4 _) (fun _ h => h) (cpV (enc (.v 1)) (seq_rng4 _) (fun _ h => h) (cpV (enc (.v 1)) (seq_rng4 _) (fun _ h => h) (cpV (enc (.v 1)) (seq_rng4 _) (fun _ h => h) fun z hz => ?_))))))))))))))))
    exact a0 (fill (us := [.v 0, .v 1, .v 1, .v 1]) g1 rfl (all4 (by decide : 0 < 4) (by decide : 1 < 4) (by decide : 1 < 4) (by decide : 1 < 4)) (all4 (by decide) (by decide) (by decide) (by decide)) z hz)
end
end Mine

namespace Mine

/-! the plain law of subsumption -/
theorem tsub_ext {σ τ : Nat → T} : ∀ t : T, (∀ n ∈ vars t, σ n = τ n) → tsub σ t = tsub τ t
  | .v n, h => h n (by simp [vars])
  | .a _, _ => rfl
  | .i _, _ => rfl
  | .s1 f x, h => by simp only [tsub]; rw [tsub_ext x fun n m => h n (by simpa [vars] using m)]
  | .s2 f x y, h => by simp only [tsub]; rw [tsub_ext x fun n m => h n (by simp [vars, m]), tsub_ext y fun n m => h n (by simp [vars, m])]
theorem tsub_comp (σ τ : Nat → T) : ∀ t : T, tsub τ (tsub σ t) = tsub (fun n => tsub τ (σ n)) t
  | .v _ => rfl
  | .a _ => rfl
  | .i _ => rfl
  | .s1 f x => by simp only [tsub]; rw [tsub_comp σ τ x]
  | .s2 f x y => by simp only [tsub]; rw [tsub_comp σ τ x, tsub_comp σ τ y]
theorem tsub_v : ∀ t : T, tsub .v t = t
  | .v _ => rfl
  | .a _ => rfl
  | .i _ => rfl
  | .s1 f x => by simp only [tsub]; rw [tsub_v x]
  | .s2 f x y => by simp only [tsub]; rw [tsub_v x, tsub_v y]
theorem ren_tsub (ρ : Nat → Nat) : ∀ t : T, ren ρ t = tsub (fun n => .v (ρ n)) t
  | .v _ => rfl
  | .a _ => rfl
  | .i _ => rfl
  | .s1 f x => by simp only [tsub, ren]; rw [ren_tsub ρ x]
  | .s2 f x y => by simp only [tsub, ren]; rw [ren_tsub ρ x, ren_tsub ρ y]
theorem tsub_fix {σ : Nat → T} : ∀ t : T, tsub σ t = t → ∀ n ∈ vars t, σ n = .v n
  | .v k, h, n, m => by simp [vars] at m; subst m; exact h
  | .s1 f x, h, n, m => by simp only [tsub, T.s1.injEq] at h; exact tsub_fix x h.2 n (by simpa [vars] using m)
  | .s2 f x y, h, n, m => by
    simp only [tsub, T.s2.injEq] at h
    simp [vars] at m
    rcases m with m | m
    · exact tsub_fix x h.2.1 n m
    · exact tsub_fix y h.2.2 n m
theorem Sub.rfl' (t : T) : Sub t t := ⟨.v, tsub_v t⟩
theorem Sub.trans {t u v : T} : Sub t u → Sub u v → Sub t v := by
  rintro ⟨σ, rfl⟩ ⟨τ, rfl⟩
  exact ⟨_, (tsub_comp σ τ t).symm⟩
theorem Sub.ren (ρ : Nat → Nat) (t : T) : Sub t (ren ρ t) := ⟨_, (ren_tsub ρ t).symm⟩
theorem inv_ex {ρ : Nat → Nat} {l : List Nat} (I : InjOn ρ l) : ∃ μ : Nat → Nat, ∀ n ∈ l, μ (ρ n) = n := by
  refine ⟨fun m => (l.find? fun n => decide (ρ n = m)).getD 0, fun n hn => ?_⟩
  cases e : l.find? fun k => decide (ρ k = ρ n) with
  | none => have := List.find?_eq_none.mp e n hn; simp at this
  | some k =>
    have h1 := List.find?_some e
    have h2 := List.mem_of_find?_eq_some e
    simp at h1
    show (l.find? fun k => decide (ρ k = ρ n)).getD 0 = n
    rw [e]; exact I k h2 n hn h1
theorem Sub.unren {ρ : Nat → Nat} {t : T} (I : InjOn ρ (vars t)) : Sub (Mine.ren ρ t) t := by
  obtain ⟨μ, hμ⟩ := inv_ex I
  refine ⟨fun n => .v (μ n), ?_⟩
  rw [ren_tsub, tsub_comp]
  refine (tsub_ext t fun n m => ?_).trans (tsub_v t)
  show T.v (μ (ρ n)) = .v n
  rw [hμ n m]
theorem var_iff {t u : T} : Var t u ↔ Sub t u ∧ Sub u t := by
  constructor
  · rintro ⟨ρ, rfl, I⟩
    exact ⟨.ren ρ t, .unren I⟩
  · rintro ⟨⟨σ, rfl⟩, ⟨τ, h⟩⟩
    rw [tsub_comp] at h
    have fx := tsub_fix t h
    have hv : ∀ n ∈ vars t, ∃ m, σ n = .v m ∧ τ m = .v n := fun n hn => by
      have := fx n hn
      cases e : σ n with
      | v m => rw [e] at this; exact ⟨m, rfl, this⟩
      | a k => rw [e] at this; cases this
      | i k => rw [e] at this; cases this
      | s1 f x => rw [e] at this; cases this
      | s2 f x y => rw [e] at this; cases this
    refine ⟨fun n => match σ n with | .v m => m | _ => 0, ?_, fun x mx y my e => ?_⟩
    · rw [ren_tsub]
      refine tsub_ext t fun n hn => ?_
      obtain ⟨m, e, _⟩ := hv n hn
      simp only [e]
    · obtain ⟨m, e1, e2⟩ := hv x mx
      obtain ⟨m', e3, e4⟩ := hv y my
      simp only [e1, e3] at e
      subst e
      rw [e2] at e4
      exact T.v.inj e4
theorem ground_sub {t u : T} (g : vars t = []) : Sub t u ↔ t = u := by
  constructor
  · rintro ⟨σ, rfl⟩
    exact ((tsub_ext t fun n m => by rw [g] at m; cases m).trans (tsub_v t)).symm
  · rintro rfl
    exact .rfl' t
theorem sub_ren {ρ μ : Nat → Nat} {t u : T} (I : InjOn ρ (vars t)) (J : InjOn μ (vars u)) : Sub (ren ρ t) (ren μ u) ↔ Sub t u :=
  ⟨fun h => (Sub.ren ρ t).trans (h.trans (.unren J)), fun h => (Sub.unren I).trans (h.trans (.ren μ u))⟩
theorem vars_ren (ρ : Nat → Nat) : ∀ t : T, ∀ n ∈ vars (ren ρ t), ∃ k ∈ vars t, ρ k = n
  | .v k, n, m => by simp [vars, ren] at m ⊢; exact m.symm
  | .a _, n, m => nomatch m
  | .i _, n, m => nomatch m
  | .s1 f x, n, m => by simpa [vars] using vars_ren ρ x n (by simpa [vars, ren] using m)
  | .s2 f x y, n, m => by
    simp [vars, ren] at m
    rcases m with m | m
    · obtain ⟨k, h1, h2⟩ := vars_ren ρ x n m
      exact ⟨k, by simp [vars, h1], h2⟩
    · obtain ⟨k, h1, h2⟩ := vars_ren ρ y n m
      exact ⟨k, by simp [vars, h1], h2⟩
theorem size_ren (ρ : Nat → Nat) : ∀ t : T, (ren ρ t).size = t.size
  | .v _ => rfl
  | .a _ => rfl
  | .i _ => rfl
  | .s1 f x => by simp [ren, T.size, size_ren ρ x]
  | .s2 f x y => by simp [ren, T.size, size_ren ρ x, size_ren ρ y]
theorem wf_ren {ts : List Str} {fs : List (Nat × Nat)} (h2 : 2 ≤ ts.length) (ρ : Nat → Nat) : ∀ t : T, tok ts fs t → wf ts fs (ren ρ t)
  | .v _, _ => trivial
  | .a k, h => Nat.lt_of_lt_of_le h h2
  | .i _, _ => trivial
  | .s1 f x, ⟨⟨_, h⟩, k⟩ => ⟨h, wf_ren h2 ρ x k⟩
  | .s2 f x y, ⟨⟨_, h⟩, k, l⟩ => ⟨h, wf_ren h2 ρ x k, wf_ren h2 ρ y l⟩
theorem gr_size : ∀ t : T, gr t + 1 ≤ 2 * t.size
  | .v _ => by simp [gr, T.size]
  | .a _ => by simp [gr, T.size]
  | .i _ => by simp [gr, T.size]
  | .s1 f x => by have := gr_size x; simp [gr, T.size]; omega
  | .s2 f x y => by have := gr_size x; have := gr_size y; simp [gr, T.size]; omega
theorem den_pre {h h' : Hp} (k : ∀ i, i < h.length → h'[i]? = h[i]?) : ∀ (t : T) (p : Nat × Nat), den h p t → den h' p t := by
  have g : ∀ {i : Nat} {q : Nat × Nat}, h[i]? = some q → h'[i]? = some q := fun e => (k _ (List.getElem?_eq_some_iff.mp e).1).trans e
  intro t
  induction t with
  | v n => rintro p ⟨e, d⟩; exact ⟨e, g d⟩
  | a k => exact fun p e => e
  | i k => exact fun p e => e
  | s1 f x ih => rintro p ⟨b, q, e, e1, e2, d⟩; exact ⟨b, q, e, g e1, g e2, ih q d⟩
  | s2 f x y ih1 ih2 => rintro p ⟨b, q, r, e, e1, e2, e3, d1, d2⟩; exact ⟨b, q, r, e, g e1, g e2, g e3, ih1 q d1, ih2 r d2⟩
end Mine

namespace Mine

theorem forL_inv {x : Nat} {v : AV} {full : List AV} {body : St → (Fl → St → Prop) → Prop} {Q : Fl → St → Prop} (hv : ∀ O, seqOf O v = some full) (I : St → Prop)
    (step : ∀ i ∈ full, ∀ σ K, I σ → (∀ σ', I σ' → K .next σ') → body ⟨σ.O, setf σ.fr x i⟩ K) : ∀ (l : List AV), (∀ i ∈ l, i ∈ full) → ∀ σ, I σ → (∀ σ', I σ' → Q .next σ') → forL x v full body l σ Q
  | [], _, σ, i, q => q σ i
  | k :: l, m, σ, i, q => step k (m k List.mem_cons_self) σ _ i fun σ' i' => ⟨hv _, forL_inv hv I step l (fun j mj => m j (List.mem_cons_of_mem _ mj)) σ' i' q⟩

theorem sub_3 {O : Objs} {w : Addr} {x : Nat → AV} (e : O w = some (.list [x 0, x 1, x 2])) {i : Nat} (hi : i < 3) : subA O (.ref w) (.int i) = some (x i) := by
  rw [sub_list e (by omega)]
  have : i = 0 ∨ i = 1 ∨ i = 2 := by omega
  rcases this with rfl | rfl | rfl <;> rfl

structure LI (a : SA) (ts : List Str) (fs : List (Nat × Nat)) (h : Hp) (ce co hb ab : Addr) (rr : Nat → Addr) (cp dp : Nat → Nat × Nat) (AB : Nat → Nat → Bool) (σ : St) : Prop where
  W : World a ts fs h σ.O
  eT : σ.O a.trl = some (.list [])
  eC : σ.O ce = some (.list [cl (cp 0), cl (cp 1), cl (cp 2)])
  eD : σ.O co = some (.list [cl (dp 0), cl (dp 1), cl (dp 2)])
  eH : σ.O hb = some (.list (hpV h))
  eA : σ.O ab = some (.list [.ref (rr 0), .ref (rr 1), .ref (rr 2)])
  eR : ∀ i, i < 3 → σ.O (rr i) = some (.list [.bool (AB i 0), .bool (AB i 1), .bool (AB i 2)])
  f74 : σ.fr 74 = some (stoV a)
  f109 : σ.fr 109 = some (.ref ce)
  f110 : σ.fr 110 = some (.ref co)
  f111 : σ.fr 111 = some (.ref hb)
  f112 : σ.fr 112 = some (.ref ab)

/-- the facts on the three terms and their copies -/
structure Facts (ts : List Str) (fs : List (Nat × Nat)) (h : Hp) (cp dp : Nat → Nat × Nat) (tt A B : Nat → T) : Prop where
  S : Sy ts fs
  dA : ∀ i, i < 3 → den h (cp i) (A i)
  dB : ∀ i, i < 3 → den h (dp i) (B i)
  wA : ∀ i, i < 3 → wf ts fs (A i)
  wB : ∀ i, i < 3 → wf ts fs (B i)
  zA : ∀ i, i < 3 → (A i).size < 1000
  zB : ∀ i, i < 3 → (B i).size < 1000
  dj : ∀ i j, i < 3 → j < 3 → ∀ n ∈ vars (A i), n ∉ vars (B j)
  sub : ∀ i j, i < 3 → j < 3 → (Sub (A i) (B j) ↔ Sub (tt i) (tt j))
  ab : ∀ i j, i < 3 → j < 3 → (Sub (B j) (A i) ↔ Sub (tt j) (tt i))

section
variable {c : Cx} {n : Nat} {a : SA} {ts : List Str} {fs : List (Nat × Nat)} {h : Hp} {ce co hb ab : Addr} {rr : Nat → Addr} {cp dp : Nat → Nat × Nat} {AB : Nat → Nat → Bool} {tt A B : Nat → T} {Q : AV → Objs → Prop}

theorem LI.mk' {σ : St} (L : LI a ts fs h ce co hb ab rr cp dp AB σ) {O' : Objs} {fr' : Nat → Option AV} (x : Ext σ.O O') (hj : ∀ j, j = 74 ∨ j = 109 ∨ j = 110 ∨ j = 111 ∨ j = 112 → fr' j = σ.fr j) : LI a ts fs h ce co hb ab rr cp dp AB ⟨O', fr'⟩ :=
  ⟨L.W.ext x, x.get L.eT, x.get L.eC, x.get L.eD, x.get L.eH, x.get L.eA, fun i hi => x.get (L.eR i hi), (hj 74 (by simp)).trans L.f74, (hj 109 (by simp)).trans L.f109, (hj 110 (by simp)).trans L.f110, (hj 111 (by simp)).trans L.f111, (hj 112 (by simp)).trans L.f112⟩
theorem LI.cells {σ : St} (L : LI a ts fs h ce co hb ab rr cp dp AB σ) {i : Nat} (hi : i < 3) : subA σ.O (.ref ce) (.int i) = some (cl (cp i)) := sub_3 (x := fun i => cl (cp i)) L.eC hi
theorem LI.copies {σ : St} (L : LI a ts fs h ce co hb ab rr cp dp AB σ) {i : Nat} (hi : i < 3) : subA σ.O (.ref co) (.int i) = some (cl (dp i)) := sub_3 (x := fun i => cl (dp i)) L.eD hi
theorem LI.rows {σ : St} (L : LI a ts fs h ce co hb ab rr cp dp AB σ) {i : Nat} (hi : i < 3) : subA σ.O (.ref ab) (.int i) = some (.ref (rr i)) := sub_3 (x := fun i => .ref (rr i)) L.eA hi
theorem LI.ent {σ : St} (L : LI a ts fs h ce co hb ab rr cp dp AB σ) {i j : Nat} (hi : i < 3) (hj : j < 3) : subA σ.O (.ref (rr i)) (.int j) = some (.bool (AB i j)) := sub_3 (x := fun j => .bool (AB i j)) (L.eR i hi) hj

noncomputable def law3 : S := (.cons (.iff (.and3 (.sub (.sub (.var 112) (.var 113)) (.var 146)) (.sub (.sub (.var 112) (.var 146)) (.var 159)) (.not (.sub (.sub (.var 112) (.var 113)) (.var 159)))) (.cons (.ret (.bol false))
 .nil) .nil)
 .nil)
noncomputable def law2b : S := (.cons (.iff (.and (.call 18 487 (.cons (.var 74) (.cons (.sub (.var 109) (.var 113)) .nil))) (.cmp .NotEq (.sub (.sub (.var 112) (.var 113)) (.var 146)) (.call 16 473 (.cons (.var 74) (.cons (.sub (.var 109) (.var 113)) (.cons (.sub (.var 110) (.var 146)) .nil)))))) (.cons (.ret (.bol false))
 .nil) .nil)
 (.cons (.for 159 (.bif .range (.cons (.int 3) .nil)) law3)
 .nil))
noncomputable def law2 : S := (.cons (.asg 158 (.call 20 501 (.cons (.var 74) (.cons (.sub (.var 109) (.var 113)) (.cons (.sub (.var 110) (.var 146)) .nil)))))
 (.cons (.iff (.or (.cmp .NotEq (.var 158) (.and (.sub (.sub (.var 112) (.var 113)) (.var 146)) (.sub (.sub (.var 112) (.var 146)) (.var 113)))) (.cmp .NotEq (.var 158) (.call 20 501 (.cons (.var 74) (.cons (.sub (.var 110) (.var 146)) (.cons (.sub (.var 109) (.var 113)) .nil)))))) (.cons (.ret (.bol false))
 .nil) .nil)
 law2b))
noncomputable def law1 : S := (.cons (.iff (.not (.sub (.sub (.var 112) (.var 113)) (.var 113))) (.cons (.ret (.bol false))
 .nil) .nil)
 (.cons (.for 146 (.bif .range (.cons (.int 3) .nil)) law2)
 .nil))
noncomputable def lawC : S := (.cons (.for 113 (.bif .range (.cons (.int 3) .nil)) law1)
 (.cons (.ret (.and (.cmp .Eq (.atr (.var 74) 121 373) (.var 111)) (.cmp .Eq (.atr (.var 74) 123 373) (.lst .nil))))
 .nil))

theorem mem3 {i : AV} (m : i ∈ [AV.int 0, AV.int 1, AV.int 2]) : ∃ k : Nat, i = .int (k : Nat) ∧ k < 3 := by
  simp at m
  rcases m with rfl | rfl | rfl
  · exact ⟨0, rfl, by omega⟩
  · exact ⟨1, rfl, by omega⟩
  · exact ⟨2, rfl, by omega⟩

theorem law3_ok (hAB : ∀ i j, i < 3 → j < 3 → (AB i j = true ↔ Sub (tt i) (tt j))) {i j : Nat} (hi : i < 3) (hj : j < 3) {σ : St} {K : Fl → St → Prop} (L : LI a ts fs h ce co hb ab rr cp dp AB σ) (e1 : σ.fr 113 = some (.int i)) (e2 : σ.fr 146 = some (.int j))
    (q : ∀ σ', LI a ts fs h ce co hb ab rr cp dp AB σ' → σ'.fr 113 = some (.int i) → σ'.fr 146 = some (.int j) → K .next σ') : forL 159 (.rng 0 3 1) [.int 0, .int 1, .int 2] (fun σ K => wpS c n law3 σ K) [.int 0, .int 1, .int 2] σ K := by
  refine forL_inv seq_rng3 (fun σ => LI a ts fs h ce co hb ab rr cp dp AB σ ∧ σ.fr 113 = some (.int i) ∧ σ.fr 146 = some (.int j)) (fun k mk σ K V q => ?_) _ (fun _ m => m) σ ⟨L, e1, e2⟩ fun σ' V => q σ' V.1 V.2.1 V.2.2
  obtain ⟨k, rfl, hk⟩ := mem3 mk
  obtain ⟨L, e1, e2⟩ := V
  have fin : K .next ⟨σ.O, setf σ.fr 159 (.int (k : Nat))⟩ := q _ ⟨L.mk' (.refl _) fun j hj => if_neg (by omega), e1, e2⟩
  have t := @Sub.trans (tt i) (tt j) (tt k)
  rw [← hAB i j hi hj, ← hAB j k hj hk, ← hAB i k hi hk] at t
  have hz : (AB i j && (AB j k && !AB i k)) = false := by
    cases x1 : AB i j
    · rfl
    · cases x2 : AB j k
      · rfl
      · rw [t x1 x2]; rfl
  exact rIfF (hz ▸ tAnd3 (tSub (L.ent hi hj) (vSub (L.rows hi) (vVar L.f112) (vVar e1)) (vVar e2)) (tSub (L.ent hj hk) (vSub (L.rows hj) (vVar L.f112) (vVar e2)) fun _ h => h) (tNot (tSub (L.ent hi hk) (vSub (L.rows hi) (vVar L.f112) (vVar e1)) fun _ h => h))) (rNx (rNil fin))

theorem law2b_ok (ok : c.Ok) (C : Code c.K) (F : Facts ts fs h cp dp tt A B) (hAB : ∀ i j, i < 3 → j < 3 → (AB i j = true ↔ Sub (tt i) (tt j))) {i j : Nat} (hi : i < 3) (hj : j < 3) {σ : St} {K : Fl → St → Prop} (L : LI a ts fs h ce co hb ab rr cp dp AB σ) (e1 : σ.fr 113 = some (.int i)) (e2 : σ.fr 146 = some (.int j))
    (q : ∀ σ', LI a ts fs h ce co hb ab rr cp dp AB σ' → σ'.fr 113 = some (.int i) → K .next σ') : wpS c (n + 6) law2b σ K := by
  have fin : ∀ O1, LI a ts fs h ce co hb ab rr cp dp AB ⟨O1, σ.fr⟩ → wpS c (n + 6) (.cons (.for 159 (.bif .range (.cons (.int 3) .nil)) law3) .nil) ⟨O1, σ.fr⟩ K := fun O1 L' =>
    rForV (seq_rng3 _) (by decide) (vRng1 (x := 3) rfl fun _ h => h) (law3_ok hAB hi hj L' e1 e2 fun σ' L'' e1' e2' => q σ' L'' e1')
  refine rIfC (tAndC (tCall (a2 (vVar L.f74) (vSub (L.cells hi) (vVar L.f109) (vVar e1)) (k_ground (n := n + 1) ok C L.W (F.dA i hi) (F.wA i hi) (F.zA i hi) fun g O1 x1 hg => ?_))))
  have L1 : LI a ts fs h ce co hb ab rr cp dp AB ⟨O1, σ.fr⟩ := L.mk' x1 fun _ _ => rfl
  cases g with
  | false => exact rNx (fin O1 L1)
  | true =>
    refine tCmpV (o := .NotEq) (vSub (L1.ent hi hj) (vSub (L1.rows hi) (vVar L1.f112) (vVar e1)) (vVar e2)) (rCall (a3 (vVar L1.f74) (vSub (L1.cells hi) (vVar L1.f109) (vVar e1)) (vSub (L1.copies hj) (vVar L1.f110) (vVar e2)) (k_identical (n := n) ok C L1.W F.S (F.dA i hi) (F.dB j hj) (F.wA i hi) (F.wB j hj) (F.zA i hi) fun O2 x2 => ?_)))
    have L2 : LI a ts fs h ce co hb ab rr cp dp AB ⟨O2, σ.fr⟩ := L1.mk' x2 fun _ _ => rfl
    have key : decide (A i = B j) = AB i j := Bool.eq_iff_iff.mpr (decide_eq_true_iff.trans ((hAB i j hi hj).trans ((F.sub i j hi hj).symm.trans (ground_sub (hg rfl)))).symm)
    have e3 : cmpA O2 .NotEq (.bool (AB i j)) (.bool (decide (A i = B j))) = some false := by rw [key, cmp_ne, eqA_bool, Option.map_some]; cases AB i j <;> rfl
    rw [e3]
    exact rNx (fin O2 L2)

theorem law2_ok (ok : c.Ok) (C : Code c.K) (F : Facts ts fs h cp dp tt A B) (hAB : ∀ i j, i < 3 → j < 3 → (AB i j = true ↔ Sub (tt i) (tt j))) {i : Nat} (hi : i < 3) {σ : St} {K : Fl → St → Prop} (L : LI a ts fs h ce co hb ab rr cp dp AB σ) (e1 : σ.fr 113 = some (.int i))
    (q : ∀ σ', LI a ts fs h ce co hb ab rr cp dp AB σ' → σ'.fr 113 = some (.int i) → K .next σ') : forL 146 (.rng 0 3 1) [.int 0, .int 1, .int 2] (fun σ K => wpS c (n + 6) law2 σ K) [.int 0, .int 1, .int 2] σ K := by
  refine forL_inv seq_rng3 (fun σ => LI a ts fs h ce co hb ab rr cp dp AB σ ∧ σ.fr 113 = some (.int i)) (fun k mk σ K V q => ?_) _ (fun _ m => m) σ ⟨L, e1⟩ fun σ' V => q σ' V.1 V.2
  obtain ⟨j, rfl, hj⟩ := mem3 mk
  obtain ⟨L, e1⟩ := V
  have L1 := L.mk' (O' := σ.O) (fr' := setf σ.fr 146 (.int (j : Nat))) (.refl _) fun j hj => by unfold setf; rw [if_neg (by omega)]
  have h146 : setf σ.fr 146 (.int (j : Nat)) 146 = some (.int (j : Nat)) := rfl
  have h113 : setf σ.fr 146 (.int (j : Nat)) 113 = some (.int (i : Nat)) := e1
  generalize setf σ.fr 146 (.int (j : Nat)) = fr at *
  have rest : ∀ σ' : St, LI a ts fs h ce co hb ab rr cp dp AB σ' → σ'.fr 113 = some (.int i) → σ'.fr 146 = some (.int j) → wpS c (n + 6) law2b σ' K := fun σ' L' e1 e2 => law2b_ok ok C F hAB hi hj L' e1 e2 fun σ'' L'' e'' => q σ'' ⟨L'', e''⟩
  refine rAsgC (rCall (a3 (vVar L1.f74) (vSub (L1.cells hi) (vVar L1.f109) (vVar h113)) (vSub (L1.copies hj) (vVar L1.f110) (vVar h146)) (k_variant (n := n + 1) ok C L1.W F.S (F.dA i hi) (F.dB j hj) (F.wA i hi) (F.wB j hj) (F.zA i hi) fun b O1 x1 hb1 => ?_)))
  have key : b = (AB i j && AB j i) := by
    have := hb1.trans (var_iff.trans (and_congr ((F.sub i j hi hj).trans (hAB i j hi hj).symm) ((F.ab i j hi hj).trans (hAB j i hj hi).symm)))
    rw [← Bool.and_eq_true] at this
    exact Bool.eq_iff_iff.mpr this
  have L2 : LI a ts fs h ce co hb ab rr cp dp AB ⟨O1, setf fr 158 (.bool b)⟩ := L1.mk' x1 fun j hj => if_neg (by omega)
  have e2 : ∀ x : Bool, x = b → cmpA O1 .NotEq (.bool b) (.bool x) = some false := fun x e => by rw [e, cmp_ne, eqA_bool, Option.map_some]; cases b <;> rfl
  refine rIfC (tOrF (tCmp (o := .NotEq) (e2 _ key.symm) (fun _ h => h) (vAnd (vSub (L2.ent hi hj) (vSub (L2.rows hi) (vVar L2.f112) (vVar h113)) (vVar h146)) (vSub (L2.ent hj hi) (vSub (L2.rows hj) (vVar L2.f112) (vVar h146)) (vVar h113)))) (tCmpV (o := .NotEq) (x := .bool b) (fun _ h => h) (rCall (a3 (vVar L2.f74) (vSub (L2.copies hj) (vVar L2.f110) (vVar h146)) (vSub (L2.cells hi) (vVar L2.f109) (vVar h113)) (k_variant (n := n + 1) ok C L2.W F.S (F.dB j hj) (F.dA i hi) (F.wB j hj) (F.wA i hi) (F.zB j hj) fun b' O2 x2 hb2 => ?_)))))
  have key2 : b' = b := by
    have := hb2.trans (var_iff.trans (and_congr ((F.ab i j hi hj).trans (hAB j i hj hi).symm) ((F.sub i j hi hj).trans (hAB i j hi hj).symm)))
    rw [key]
    apply Bool.eq_iff_iff.mpr
    rw [this, Bool.and_eq_true]
    exact and_comm
  have e3 : cmpA O2 .NotEq (.bool b) (.bool b') = some false := by rw [key2, cmp_ne, eqA_bool, Option.map_some]; cases b <;> rfl
  rw [e3]
  exact rNx (rest _ (L2.mk' x2 fun _ _ => rfl) h113 h146)

theorem law1_ok (ok : c.Ok) (C : Code c.K) (F : Facts ts fs h cp dp tt A B) (hAB : ∀ i j, i < 3 → j < 3 → (AB i j = true ↔ Sub (tt i) (tt j))) {σ : St} {K : Fl → St → Prop} (L : LI a ts fs h ce co hb ab rr cp dp AB σ)
    (q : ∀ σ', LI a ts fs h ce co hb ab rr cp dp AB σ' → K .next σ') : forL 113 (.rng 0 3 1) [.int 0, .int 1, .int 2] (fun σ K => wpS c (n + 6) law1 σ K) [.int 0, .int 1, .int 2] σ K := by
  refine forL_inv seq_rng3 (fun σ => LI a ts fs h ce co hb ab rr cp dp AB σ) (fun k mk σ K L q => ?_) _ (fun _ m => m) σ L q
  obtain ⟨i, rfl, hi⟩ := mem3 mk
  have L1 := L.mk' (O' := σ.O) (fr' := setf σ.fr 113 (.int (i : Nat))) (.refl _) fun j hj => by unfold setf; rw [if_neg (by omega)]
  have h113 : setf σ.fr 113 (.int (i : Nat)) 113 = some (.int (i : Nat)) := rfl
  generalize setf σ.fr 113 (.int (i : Nat)) = fr at *
  have : AB i i = true := (hAB i i hi hi).mpr (.rfl' _)
  exact rIfF (tNot (z := true) (this ▸ tSub (L1.ent hi hi) (vSub (L1.rows hi) (vVar L1.f112) (vVar h113)) (vVar h113))) (rNx (rForV (seq_rng3 _) (by decide) (vRng1 (x := 3) rfl fun _ h => h) (law2_ok ok C F hAB hi L1 h113 fun σ' L' e' => q σ' L')))

theorem eqs_hp : ∀ h : Hp, eqs (hpV h) (hpV h) = some true
  | [] => rfl
  | p :: h => by
    have := eqs_hp h
    unfold hpV at this ⊢
    show ((some (decide ([(p.1 : Int), (p.2 : Int)] = [(p.1 : Int), (p.2 : Int)]))).bind fun x => (eqs (h.map cl) (h.map cl)).bind fun y => some (x && y)) = some true
    rw [this, decide_eq_true rfl]; rfl

theorem eqA_ll {O : Objs} {w z : Addr} {l m : List AV} (e1 : O w = some (.list l)) (e2 : O z = some (.list m)) : eqA O (.ref w) (.ref z) = eqL l m := by
  show ((asLst (O w)).bind fun l => (asLst (O z)).bind fun m => eqL l m) = _
  rw [e1, e2]; rfl
theorem eqL_hp (h : Hp) : eqL (hpV h) (hpV h) = some true := (if_pos rfl).trans (eqs_hp h)
theorem lawC_ok (ok : c.Ok) (C : Code c.K) (F : Facts ts fs h cp dp tt A B) (hAB : ∀ i j, i < 3 → j < 3 → (AB i j = true ↔ Sub (tt i) (tt j))) {σ : St} {K : Fl → St → Prop} (L : LI a ts fs h ce co hb ab rr cp dp AB σ)
    (q : ∀ σ', K (.ret (.bool true)) σ') : wpS c (n + 6) lawC σ K := by
  refine rForV (seq_rng3 _) (by decide) (vRng1 (x := 3) rfl fun _ h => h) (law1_ok ok C F hAB L fun σ' L' => ?_)
  show wpS c (n + 6) (.cons (.ret _) .nil) ⟨σ'.O, σ'.fr⟩ K
  refine rRetC (rAndT (vEq ((eqA_ll L'.W.hp L'.eH).trans (eqL_hp h)) (vAtr1 L'.f74 rfl) (vVar L'.f111)) (rCmpV (o := .Eq) (vAtr1 L'.f74 rfl) (rLst (a0 fun z hz => ?_))))
  have e3 : cmpA (up σ'.O z (.list [])) .Eq (.ref a.trl) (.ref z) = some true := eqA_ll ((Ext.new hz).get L'.eT) (up_at _ _ _)
  show (match cmpA (up σ'.O z (.list [])) .Eq (.ref a.trl) (.ref z) with | some z => K (.ret (.bool z)) _ | none => False)
  rw [e3]; exact q _
end
end Mine

namespace Mine
section
variable {c : Cx} {n : Nat} {a : SA} {ts : List Str} {fs : List (Nat × Nat)} {h : Hp} {ce co : Addr} {cp dp : Nat → Nat × Nat} {tt A B : Nat → T} {Q : AV → Objs → Prop}

noncomputable def lawB : S := (.cons (.asg 111 (.bif .list (.cons (.atr (.var 74) 121 373) .nil)))
 (.cons (.asc 112 (.cpr (.call 21 508 (.cons (.var 74) (.cons (.var 113) (.cons (.var 146) .nil)))) 146 [74, 113] (.var 110)) 113 [110, 74] (.var 109))
 (.cons (.iff (.or (.and (.var 142) (.not (.sub (.sub (.var 112) (.int 0)) (.int 1)))) (.and (.var 144) (.not (.sub (.sub (.var 112) (.int 1)) (.int 2))))) (.cons (.ret (.bol false))
 .nil) .nil)
 lawC)))

noncomputable def ABf (A B : Nat → T) : Nat → Nat → Bool := fun i j => @decide (Sub (A i) (B j)) (Classical.propDecidable _)
theorem ABf_iff {A B : Nat → T} {i j : Nat} : ABf A B i j = true ↔ Sub (A i) (B j) := by unfold ABf; exact @decide_eq_true_iff _ (Classical.propDecidable _)

theorem row_ok (ok : c.Ok) (C : Code c.K) (F : Facts ts fs h cp dp tt A B) {i : Nat} (hi : i < 3) {O : Objs} {fr : Nat → Option AV} (W : World a ts fs h O) (eD : O co = some (.list [cl (dp 0), cl (dp 1), cl (dp 2)]))
    (f74 : fr 74 = some (stoV a)) (f110 : fr 110 = some (.ref co)) (f113 : fr 113 = some (cl (cp i)))
    (q : ∀ z O', Ext O O' → O' z = some (.list [.bool (ABf A B i 0), .bool (ABf A B i 1), .bool (ABf A B i 2)]) → Q (.ref z) O') :
    wpE c (n + 7) (.cpr (.call 21 508 (.cons (.var 74) (.cons (.var 113) (.cons (.var 146) .nil)))) 146 [74, 113] (.var 110)) fr O Q := by
  have e : ∀ {b : Bool} {j : Nat}, (b = true ↔ Sub (A i) (B j)) → b = ABf A B i j := fun h => Bool.eq_iff_iff.mpr (h.trans ABf_iff.symm)
  have hs : ([74, 113] : List Nat).all (fun i => (fr i).isSome) = true := by
    show ((fr 74).isSome && ((fr 113).isSome && true)) = true
    rw [f74, f113]; rfl
  have sub := fun {j : Nat} (hj : j < 3) {O' : Objs} (W : World a ts fs h O') {K : AV → Objs → Prop} (q : ∀ b O'', Ext O' O'' → (b = true ↔ Sub (A i) (B j)) → K (.bool b) O'') => k_subsumes (n := n) (Q := K) ok C W F.S (F.dA i hi) (F.dB j hj) (F.wA i hi) (F.wB j hj) (F.zA i hi) (F.zB j hj) (F.dj i j hi hj) q
  refine rCpr hs (seq_list eD) (show 3 < lim by decide) (vVar f110) (cpC (rCall (a3 (vVar f74) (vVar f113) (fun _ h => h) (sub (j := 0) (by decide) W fun b0 O1 x1 h0 => ⟨seq_list (x1.get eD), ?_⟩))))
  refine cpC (rCall (a3 (vVar f74) (vVar f113) (fun _ h => h) (sub (j := 1) (by decide) (W.ext x1) fun b1 O2 x2 h1 => ⟨seq_list ((x1.trans x2).get eD), ?_⟩)))
  have x12 := x1.trans x2
  refine cpC (rCall (a3 (vVar f74) (vVar f113) (fun _ h => h) (sub (j := 2) (by decide) (W.ext x12) fun b2 O3 x3 h2 => ⟨seq_list ((x12.trans x3).get eD), fun z hz => ?_⟩)))
  refine q z _ ((x12.trans x3).trans (.new hz)) ?_
  rw [up_at, ← e h0, ← e h1, ← e h2]; rfl

theorem lawB_ok (ok : c.Ok) (C : Code c.K) (F : Facts ts fs h cp dp tt A B) {σ : St} {K : Fl → St → Prop} {m1 m2 : Bool} (W : World a ts fs h σ.O) (eT : σ.O a.trl = some (.list [])) (eC : σ.O ce = some (.list [cl (cp 0), cl (cp 1), cl (cp 2)])) (eD : σ.O co = some (.list [cl (dp 0), cl (dp 1), cl (dp 2)]))
    (f74 : σ.fr 74 = some (stoV a)) (f109 : σ.fr 109 = some (.ref ce)) (f110 : σ.fr 110 = some (.ref co)) (f142 : σ.fr 142 = some (.bool m1)) (f144 : σ.fr 144 = some (.bool m2))
    (h1 : m1 = true → Sub (tt 0) (tt 1)) (h2 : m2 = true → Sub (tt 1) (tt 2)) (q : ∀ σ', K (.ret (.bool true)) σ') : wpS c (n + 7) lawB σ K := by
  have hAB : ∀ i j, i < 3 → j < 3 → (ABf A B i j = true ↔ Sub (tt i) (tt j)) := fun i j hi hj => ABf_iff.trans (F.sub i j hi hj)
  have lC : ∀ {σ : St} {hb ab : Addr} {rr : Nat → Addr}, LI a ts fs h ce co hb ab rr cp dp (ABf A B) σ → wpS c (n + 7) lawC σ K := fun L => lawC_ok (n := n + 1) ok C F hAB L q
  have lh := W.lh
  have bl : ∀ Q : AV → Objs → Prop, bifA σ.O .list [.ref a.hp] Q = ((hpV h).length < lim ∧ newM σ.O (.list (hpV h)) Q) := fun Q => by show lisA (σ.O a.hp) _ = _; rw [W.hp]; rfl
  refine rAsgC (rBif (a1 (vAtr1 f74 rfl) (Eq.mpr (bl _) ⟨by rw [hpV_len]; unfold lim; omega, fun hb hhb => ?_⟩)))
  have x0 : Ext σ.O (up σ.O hb (.list (hpV h))) := .new hhb
  have eH : up σ.O hb (.list (hpV h)) hb = some (.list (hpV h)) := up_at _ _ _
  have eC0 := x0.get eC
  have eD0 := x0.get eD
  have W0 := W.ext x0
  have eT0 := x0.get eT
  generalize up σ.O hb (.list (hpV h)) = O0 at *
  have hs : ([110, 74] : List Nat).all (fun i => (setf σ.fr 111 (.ref hb) i).isSome) = true := by
    show ((σ.fr 110).isSome && ((σ.fr 74).isSome && true)) = true
    rw [f74, f110]; rfl
  refine rAsc (rCpr hs (seq_list eC0) (show 3 < lim by decide) (vVar f109) (cpC (row_ok (i := 0) ok C F (by decide) W0 eD0 f74 f110 rfl fun r0 O1 x1 e0 => ⟨seq_list (x1.get eC0), ?_⟩)))
  refine cpC (row_ok (i := 1) ok C F (by decide) (W0.ext x1) (x1.get eD0) f74 f110 rfl fun r1 O2 x2 e1 => ⟨seq_list ((x1.trans x2).get eC0), ?_⟩)
  have x12 := x1.trans x2
  refine cpC (row_ok (i := 2) ok C F (by decide) (W0.ext x12) (x12.get eD0) f74 f110 rfl fun r2 O3 x3 e2 => ⟨seq_list ((x12.trans x3).get eC0), fun ab hab => ?_⟩)
  have x13 := x12.trans x3
  have x4 : Ext O3 (up O3 ab (.list [.ref r0, .ref r1, .ref r2])) := .new hab
  have x14 := x13.trans x4
  have eA : up O3 ab (.list [.ref r0, .ref r1, .ref r2]) ab = some (.list [.ref r0, .ref r1, .ref r2]) := up_at _ _ _
  have L : LI a ts fs h ce co hb ab (fun i => if i = 0 then r0 else if i = 1 then r1 else r2) cp dp (ABf A B) ⟨up O3 ab (.list [.ref r0, .ref r1, .ref r2]), setf (setf σ.fr 111 (.ref hb)) 112 (.ref ab)⟩ := by
    refine ⟨W0.ext x14, x14.get eT0, x14.get eC0, x14.get eD0, x14.get eH, eA, fun i hi => ?_, f74, f109, f110, rfl, rfl⟩
    have : i = 0 ∨ i = 1 ∨ i = 2 := by omega
    rcases this with rfl | rfl | rfl
    · exact (x2.trans (x3.trans x4)).get e0
    · exact (x3.trans x4).get e1
    · exact x4.get e2
  have fin := lC L
  have c0 := L.rows (i := 0) (by decide)
  have c1 := L.rows (i := 1) (by decide)
  have d0 := L.ent (i := 0) (j := 1) (by decide) (by decide)
  have d1 := L.ent (i := 1) (j := 2) (by decide) (by decide)
  have z : ((m1 && !ABf A B 0 1) || (m2 && !ABf A B 1 2)) = false := by
    have g1 : m1 = true → ABf A B 0 1 = true := fun h => (hAB 0 1 (by decide) (by decide)).mpr (h1 h)
    have g2 : m2 = true → ABf A B 1 2 = true := fun h => (hAB 1 2 (by decide) (by decide)).mpr (h2 h)
    cases m1 <;> cases m2 <;> first | rfl | (rw [g1 rfl, g2 rfl]; rfl) | (rw [g1 rfl]; rfl) | (rw [g2 rfl]; rfl)
  exact rIfF (z ▸ tOr (tAnd2 (tVar f142) (tNot (tSub d0 (vSub c0 (fun _ h => h) fun _ h => h) fun _ h => h))) (tAnd2 (tVar f144) (tNot (tSub d1 (vSub c1 (fun _ h => h) fun _ h => h) fun _ h => h)))) (rNx fin)

noncomputable def pick3 {α : Type} (x y z : α) : Nat → α
  | 0 => x
  | 1 => y
  | _ => z
theorem lt3 {P : Nat → Prop} (h0 : P 0) (h1 : P 1) (h2 : P 2) : ∀ i, i < 3 → P i := fun i hi => by
  have : i = 0 ∨ i = 1 ∨ i = 2 := by omega
  rcases this with rfl | rfl | rfl
  · exact h0
  · exact h1
  · exact h2
structure Piece (ts : List Str) (fs : List (Nat × Nat)) (H : Hp) (p : Nat × Nat) (t X : T) (lo hi : Nat) : Prop where
  d : den H p X
  b : ∀ n ∈ vars X, lo ≤ n ∧ n < hi
  z : X.size = t.size
  w : wf ts fs X
  r : ∃ ρ, X = ren ρ t ∧ InjOn ρ (vars t)
theorem Put.piece {h h' H : Hp} {t : T} {p : Nat × Nat} (P : Put h t h' p) (k : ∀ i, i < h'.length → H[i]? = h'[i]?) (h2 : 2 ≤ ts.length) (tk : tok ts fs t) : ∃ X, Piece ts fs H p t X h.length h'.length := by
  obtain ⟨ρ, d, b, I⟩ := P.den
  refine ⟨ren ρ t, den_pre k _ _ d, fun n m => ?_, size_ren ρ t, wf_ren h2 ρ t tk, ρ, rfl, I⟩
  obtain ⟨k, mk, rfl⟩ := vars_ren ρ t n m
  exact b k mk

theorem facts_of {h0 h1 h2 h3 h4 h5 h6 : Hp} {t0 t1 t2 : T} {p0 p1 p2 d0 d1 d2 : Nat × Nat} (S : Sy ts fs) (l2 : 2 ≤ ts.length) (k0 : tok ts fs t0) (k1 : tok ts fs t1) (k2 : tok ts fs t2) (s0 : t0.size < 1000) (s1 : t1.size < 1000) (s2 : t2.size < 1000)
    (P0 : Put h0 t0 h1 p0) (P1 : Put h1 t1 h2 p1) (P2 : Put h2 t2 h3 p2) (P3 : Put h3 t0 h4 d0) (P4 : Put h4 t1 h5 d1) (P5 : Put h5 t2 h6 d2) : ∃ A B, Facts ts fs h6 (pick3 p0 p1 p2) (pick3 d0 d1 d2) (pick3 t0 t1 t2) A B := by
  have l0 := P0.len
  have l1 := P1.len
  have l2' := P2.len
  have l3 := P3.len
  have l4 := P4.len
  have l5 := P5.len
  have e5 := P5.pre
  have e4 : ∀ i, i < h4.length → h6[i]? = h4[i]? := fun i hi => (e5 i (by omega)).trans (P4.pre i hi)
  have e3 : ∀ i, i < h3.length → h6[i]? = h3[i]? := fun i hi => (e4 i (by omega)).trans (P3.pre i hi)
  have e2 : ∀ i, i < h2.length → h6[i]? = h2[i]? := fun i hi => (e3 i (by omega)).trans (P2.pre i hi)
  have e1 : ∀ i, i < h1.length → h6[i]? = h1[i]? := fun i hi => (e2 i (by omega)).trans (P1.pre i hi)
  obtain ⟨A0, a0⟩ := P0.piece e1 l2 k0
  obtain ⟨A1, a1⟩ := P1.piece e2 l2 k1
  obtain ⟨A2, a2⟩ := P2.piece e3 l2 k2
  obtain ⟨B0, b0⟩ := P3.piece e4 l2 k0
  obtain ⟨B1, b1⟩ := P4.piece e5 l2 k1
  obtain ⟨B2, b2⟩ := P5.piece (fun _ _ => rfl) l2 k2
  have iA : ∀ i, i < 3 → ∃ lo hi, Piece ts fs h6 (pick3 p0 p1 p2 i) (pick3 t0 t1 t2 i) (pick3 A0 A1 A2 i) lo hi ∧ hi ≤ h3.length := lt3 ⟨_, _, a0, by omega⟩ ⟨_, _, a1, by omega⟩ ⟨_, _, a2, by omega⟩
  have iB : ∀ i, i < 3 → ∃ lo hi, Piece ts fs h6 (pick3 d0 d1 d2 i) (pick3 t0 t1 t2 i) (pick3 B0 B1 B2 i) lo hi ∧ h3.length ≤ lo := lt3 ⟨_, _, b0, by omega⟩ ⟨_, _, b1, by omega⟩ ⟨_, _, b2, by omega⟩
  have sz : ∀ i, i < 3 → (pick3 t0 t1 t2 i).size < 1000 := lt3 s0 s1 s2
  refine ⟨pick3 A0 A1 A2, pick3 B0 B1 B2, S, fun i hi => ?_, fun i hi => ?_, fun i hi => ?_, fun i hi => ?_, fun i hi => ?_, fun i hi => ?_, fun i j hi hj n m m' => ?_, fun i j hi hj => ?_, fun i j hi hj => ?_⟩
  · obtain ⟨_, _, P, _⟩ := iA i hi; exact P.d
  · obtain ⟨_, _, P, _⟩ := iB i hi; exact P.d
  · obtain ⟨_, _, P, _⟩ := iA i hi; exact P.w
  · obtain ⟨_, _, P, _⟩ := iB i hi; exact P.w
  · obtain ⟨_, _, P, _⟩ := iA i hi; rw [P.z]; exact sz i hi
  · obtain ⟨_, _, P, _⟩ := iB i hi; rw [P.z]; exact sz i hi
  · obtain ⟨_, _, P, z⟩ := iA i hi
    obtain ⟨_, _, P', z'⟩ := iB j hj
    have := P.b n m
    have := P'.b n m'
    omega
  · obtain ⟨_, _, P, z⟩ := iA i hi
    obtain ⟨_, _, P', z'⟩ := iB j hj
    obtain ⟨ρ, e, I⟩ := P.r
    obtain ⟨μ, e', J⟩ := P'.r
    rw [e, e']
    exact sub_ren I J
  · obtain ⟨_, _, P, z⟩ := iA i hi
    obtain ⟨_, _, P', z'⟩ := iB j hj
    obtain ⟨ρ, e, I⟩ := P.r
    obtain ⟨μ, e', J⟩ := P'.r
    rw [e, e']
    exact sub_ren J I
end
end Mine

namespace Mine
section
variable {c : Cx} {n : Nat} {a : SA} {ts : List Str} {fs : List (Nat × Nat)} {h : Hp} {Q : AV → Objs → Prop}

theorem puts_ok (ok : c.Ok) (C : Code c.K) (n4 : a.hp ≠ a.tx ∧ a.hp ≠ a.fu) {t0 t1 t2 : T} (k0 : tok ts fs t0) (k1 : tok ts fs t1) (k2 : tok ts fs t2) (i0 : ∃ f us, IsS t0 f us) (i1 : ∃ f us, IsS t1 f us) (i2 : ∃ f us, IsS t2 f us)
    {O : Objs} {fr : Nat → Option AV} {L : Addr} (W : World a ts fs h O) (eL : O L = some (.list [enc t0, enc t1, enc t2])) (Lhp : L ≠ a.hp) (f74 : fr 74 = some (stoV a)) (f108 : fr 108 = some (.ref L)) (sz : h.length + gr t0 + gr t1 + gr t2 < 1000)
    (q : ∀ z h1 h2 h3 p0 p1 p2 O', World a ts fs h3 O' → O' z = some (.list [cl p0, cl p1, cl p2]) → O z = none → Put h t0 h1 p0 → Put h1 t1 h2 p1 → Put h2 t2 h3 p2 → ExtD [a.hp] O O' → Q (.ref z) O') :
    wpE c (n + 4) (.cpr (.mth (.var 74) 69 373 363 (.cons (.var 104) (.cons .dct .nil))) 104 [74] (.var 108)) fr O Q := by
  have step : ∀ {h : Hp} {O : Objs} {t : T} {K : AV → Objs → Prop}, World a ts fs h O → tok ts fs t → (∃ f us, IsS t f us) → h.length + gr t < 1000 →
      (∀ h' p O', World a ts fs h' O' → Put h t h' p → ExtD [a.hp] O O' → K (cl p) O') → newM O (.dictI []) fun v O => CallOK c (n + 4) 363 [stoV a, enc t, v] O K := by
    intro h O t K W k i sz q tb htb
    obtain ⟨f, us, s⟩ := i
    refine k_put_term (n := n) ok C (W.ext (.new htb)) n4 (up_at _ _ _) s k sz fun h' r O' W' P x => q h' r O' W' P fun b nb eb => ?_
    have ne : b ≠ tb := fun e => by rw [e, htb] at eb; cases eb
    have e1 : up O tb (.dictI []) b = O b := up_ne ne
    rw [x b (by simp at nb ⊢; exact ⟨nb, ne⟩) (by rw [e1]; exact eb), e1]
  have hs : ([74] : List Nat).all (fun i => (fr i).isSome) = true := by
    show ((fr 74).isSome && true) = true
    rw [f74]; rfl
  have nL : L ∉ [a.hp] := fun m => Lhp (List.mem_singleton.mp m)
  refine rCpr hs (seq_list eL) (show 3 < lim by decide) (vVar f108) (cpC (rMth rfl (vVar f74) (aV (fun _ h => h) (aC (step W k0 i0 (by omega) fun h1 p0 O1 W1 P0 x1 => ?_)))))
  have l1 := P0.len
  have eL1 := x1.get nL eL
  refine ⟨seq_list eL1, cpC (rMth rfl (vVar f74) (aV (fun _ h => h) (aC (step W1 k1 i1 (by omega) fun h2 p1 O2 W2 P1 x2 => ?_))))⟩
  have l2 := P1.len
  have eL2 := x2.get nL eL1
  refine ⟨seq_list eL2, cpC (rMth rfl (vVar f74) (aV (fun _ h => h) (aC (step W2 k2 i2 (by omega) fun h3 p2 O3 W3 P2 x3 => ?_))))⟩
  refine ⟨seq_list (x3.get nL eL2), fun z hz => ?_⟩
  have x13 := x1.trans (x2.trans x3)
  have Oz : O z = none := by
    cases e : O z with
    | none => rfl
    | some m =>
      by_cases hh : z = a.hp
      · rw [hh, W3.hp] at hz; cases hz
      · rw [x13.get (by simpa using hh) e] at hz; cases hz
  exact q z h1 h2 h3 p0 p1 p2 _ (W3.ext (.new hz)) (up_at _ _ _) Oz P0 P1 P2 (x13.trans (.new hz))

theorem lawA_ok (ok : c.Ok) (C : Code c.K) {l : List Int} (ll : l.length < 90000) {σ : St} {K : Fl → St → Prop} (f99 : σ.fr 99 = some (.lst (rowV l))) (q : ∀ σ', K (.ret (.bool true)) σ') : wpS c (n + 40) ir_law σ K := by
  obtain ⟨Zc, hZ⟩ : ∃ Z : S, Z = .cons (.asc 109 (.mth (.var 74) 69 373 363 (.cons (.var 104) (.cons .dct .nil))) 104 [74] (.var 108)) (.cons (.asg 110 (.cpr (.mth (.var 74) 69 373 363 (.cons (.var 104) (.cons .dct .nil))) 104 [74] (.var 108))) lawB) := ⟨_, rfl⟩
  rw [show ir_law = (.cons (.asg 100 (.call 22 515 (.cons (.var 99) .nil)))
 (.cons (.asg 102 (.new 3 154 81 .nil))
 (.cons (.asg 74 (.new 5 373 194 (.cons (.var 102) .nil)))
 (.cons (.asg 107 (.call 25 534 (.cons (.var 100) (.cons (.var 102) .nil))))
 (.cons (.asg2 141 142 (.call 27 544 (.cons (.var 100) (.cons (.var 102) (.cons (.var 107) .nil)))))
 (.cons (.asg2 143 144 (.call 27 544 (.cons (.var 100) (.cons (.var 102) (.cons (.var 141) .nil)))))
 (.cons (.asg 108 (.lst (.cons (.var 107) (.cons (.var 141) (.cons (.var 143) .nil))))) Zc))))))) by rw [hZ]; rfl]
  refine rAsgC (rCall (a1 (vVar f99) (k_law_open (n := n + 39) ok C ll fun w ks O1 x1 hw ew R => ?_)))
  refine rAsgC (rNew (a0 (k_new_symbols (n := n + 35) ok C fun y ts fs O2 Y0 G x2 hy => ?_)))
  have ew2 := x2.get ew
  have wy : w ∉ y.l := fun m => by rw [hy w m] at ew; cases ew
  refine rAsgC (rNew (a1 (fun _ h => h) (k_new_store (n := n + 38) (y := y) ok C fun x hp stk trl O3 x3 d1 d2 d3 n1 n2 n3 e1 e2 e3 => ?_)))
  have ew3 := x3.get ew2
  have S3 : SymS y ts fs O3 := Y0.ext (D := []) (fun b _ e => x3 b e) (fun b m => nomatch m)
  have ap : ∀ b, O2 b = none → b ∉ w :: y.l := fun b hb m => by
    rcases List.mem_cons.mp m with rfl | m
    · rw [ew2] at hb; cases hb
    · simp [YA.l] at m
      rcases m with rfl | rfl | rfl | rfl
      · rw [Y0.tx] at hb; cases hb
      · rw [Y0.an] at hb; cases hb
      · rw [Y0.fu] at hb; cases hb
      · rw [Y0.fn] at hb; cases hb
  refine rAsgC (rCall (a2 (fun _ h => h) (fun _ h => h) (k_pair (n := n + 36) (y := y) ok C ew3 R S3 G wy fun ks1 ts1 fs1 t0 O4 g1 k0 s0 i0 => ?_)))
  refine rAsg2C (rCall (a3 (fun _ h => h) (fun _ h => h) (fun _ h => h) (k_next (n := n + 9) (y := y) ok C g1.row g1.ri g1.sy g1.sg wy k0 i0 (by omega) fun ks2 ts2 fs2 t1 b1 O5 g2 N1 => ?_)))
  have s1 : t1.size ≤ 21 := by have := N1.sz; omega
  refine rAsg2C (rCall (a3 (fun _ h => h) (fun _ h => h) (fun _ h => h) (k_next (n := n + 9) (y := y) ok C g2.row g2.ri g2.sy g2.sg wy N1.tk N1.is (by omega) fun ks3 ts3 fs3 t2 b2 O6 g3 N2 => ?_)))
  have s2 : t2.size ≤ 63 := by have := N2.sz; omega
  refine rAsgC (rLst (a3 (fun _ h => h) (fun _ h => h) (fun _ h => h) fun L hL => ?_))
  have x36 := g1.x.trans (g2.x.trans g3.x)
  have eh := x36.get (ap hp d1) e1
  have et := x36.get (ap trl d3) e3
  have Lhp : L ≠ hp := fun e => by rw [e, eh] at hL; cases hL
  have k0' := tok_mono (g2.pt.trans g3.pt) (g2.pf.trans g3.pf) t0 k0
  have k1' := tok_mono g3.pt g3.pf t1 N1.tk
  have ltx := g3.sy.lt
  have lfx := g3.sy.lf
  obtain ⟨a, ha⟩ : ∃ a : SA, a = ⟨x, hp, stk, trl, y.y, y.tx, y.an, y.fu, y.fn⟩ := ⟨_, rfl⟩
  have ahp : a.hp = hp := by rw [ha]
  have atrl : a.trl = trl := by rw [ha]
  have atx : a.tx = y.tx := by rw [ha]
  have afu : a.fu = y.fu := by rw [ha]
  have W6 : World a ts3 fs3 [] O6 := ⟨by rw [ahp]; exact eh, by rw [atx]; exact g3.sy.tx, by rw [afu]; exact g3.sy.fu, by simp, by omega, by omega⟩
  have n4 : a.hp ≠ a.tx ∧ a.hp ≠ a.fu := by
    have := ap hp d1
    simp [YA.l] at this
    rw [ahp, atx, afu]
    exact ⟨this.2.1, this.2.2.2.1⟩
  have xL : Ext O6 (up O6 L (.list [enc t0, enc t1, enc t2])) := .new hL
  have eL : up O6 L (.list [enc t0, enc t1, enc t2]) L = some (.list [enc t0, enc t1, enc t2]) := up_at _ _ _
  have W7 := W6.ext xL
  have et7 := xL.get et
  generalize up O6 L _ = O7 at *
  show wpS c (n + 40) Zc ⟨O7, setf (setf (setf (setf (setf (setf (setf (setf (setf σ.fr 100 (.ref w)) 102 y.v) 74 (stoV ⟨x, hp, stk, trl, y.y, y.tx, y.an, y.fu, y.fn⟩)) 107 (enc t0)) 141 (enc t1)) 142 (.bool b1)) 143 (enc t2)) 144 (.bool b2)) 108 (.ref L)⟩ K
  rw [← ha]
  obtain ⟨fr, hfr⟩ : ∃ fr, fr = setf (setf (setf (setf (setf (setf (setf (setf (setf σ.fr 100 (.ref w)) 102 y.v) 74 (stoV a)) 107 (enc t0)) 141 (enc t1)) 142 (.bool b1)) 143 (enc t2)) 144 (.bool b2)) 108 (.ref L) := ⟨_, rfl⟩
  rw [← hfr]
  have f74 : fr 74 = some (stoV a) := by rw [hfr]; rfl
  have f108 : fr 108 = some (.ref L) := by rw [hfr]; rfl
  have f142 : fr 142 = some (.bool b1) := by rw [hfr]; rfl
  have f144 : fr 144 = some (.bool b2) := by rw [hfr]; rfl
  have z0 := gr_size t0
  have z1 := gr_size t1
  have z2 := gr_size t2
  have puts := fun {h : Hp} {O : Objs} {fr : Nat → Option AV} {Q : AV → Objs → Prop} (W : World a ts3 fs3 h O) (eL : O L = some (.list [enc t0, enc t1, enc t2])) (f74 : fr 74 = some (stoV a)) (f108 : fr 108 = some (.ref L)) sz q => puts_ok (n := n + 36) (Q := Q) ok C n4 k0' k1' N2.tk i0 N1.is N2.is W eL (by rw [ahp]; exact Lhp) f74 f108 sz q
  rw [hZ]
  refine rAsc (puts W7 eL f74 f108 (by rw [List.length_nil]; omega) fun ce h1 h2 h3 p0 p1 p2 O8 W8 eC nC P0 P1 P2 x8 => ?_)
  have l0 := P0.len
  have l1 := P1.len
  have l2 := P2.len
  have eL8 := x8.get (by rw [ahp]; simpa using Lhp) eL
  have hpt : trl ∉ [a.hp] := by rw [ahp]; simpa using Ne.symm n2
  refine rAsgC (puts W8 eL8 f74 f108 (by rw [List.length_nil] at l0; omega) fun co h4 h5 h6 q0 q1 q2 O9 W9 eD nD P3 P4 P5 x9 => ?_)
  have cehp : ce ≠ a.hp := fun e => by rw [e, W7.hp] at nC; cases nC
  obtain ⟨A, B, F⟩ := facts_of ⟨g3.sy.nt, g3.sy.nf⟩ g3.sg.at2 k0' k1' N2.tk (by omega) (by omega) (by omega) P0 P1 P2 P3 P4 P5
  have m1 : b1 = true → Sub (pick3 t0 t1 t2 0) (pick3 t0 t1 t2 1) := N1.sub
  have m2 : b2 = true → Sub (pick3 t0 t1 t2 1) (pick3 t0 t1 t2 2) := N2.sub
  exact lawB_ok (n := n + 33) ok C F W9 (by rw [atrl]; exact x9.get hpt (x8.get hpt et7)) (x9.get (by simpa using cehp) eC) eD f74 rfl rfl f142 f144 m1 m2 q
end
end Mine

namespace Mine
theorem binds_of {K : Frag} {fa : Addr} {ps : List Nat} {k : Nat} {dvs : List Value} (h : ∀ ws : List Value, ws.length = k → ∀ S, ((K.lookup fa).bind fun o => match o.data with | .func fd => peek K S (bindArgs fd ⟨ws, []⟩) | _ => none) = some ((ps.map nm).zip (ws ++ dvs))) : BindsFn K fa ps k dvs := fun oc od fd sl e ws hl S => by
  have key := h ws hl S
  rw [e] at key
  exact key
theorem binds0 {K : Frag} {fa : Addr} {ps : List Nat} {dvs : List Value} (h : ∀ S, ((K.lookup fa).bind fun o => match o.data with | .func fd => peek K S (bindArgs fd ⟨[], []⟩) | _ => none) = some ((ps.map nm).zip ([] ++ dvs))) : BindsFn K fa ps 0 dvs := binds_of fun ws hl S => by
  cases ws with
  | nil => exact h S
  | cons _ _ => cases hl
theorem binds1 {K : Frag} {fa : Addr} {ps : List Nat} {dvs : List Value} (h : ∀ w0 S, ((K.lookup fa).bind fun o => match o.data with | .func fd => peek K S (bindArgs fd ⟨[w0], []⟩) | _ => none) = some ((ps.map nm).zip ([w0] ++ dvs))) : BindsFn K fa ps 1 dvs := binds_of fun ws hl S => by
  cases ws with
  | nil => cases hl
  | cons w0 r0 =>
    cases r0 with
    | cons _ _ => cases hl
    | nil => exact h w0 S
theorem binds2 {K : Frag} {fa : Addr} {ps : List Nat} {dvs : List Value} (h : ∀ w0 w1 S, ((K.lookup fa).bind fun o => match o.data with | .func fd => peek K S (bindArgs fd ⟨[w0, w1], []⟩) | _ => none) = some ((ps.map nm).zip ([w0, w1] ++ dvs))) : BindsFn K fa ps 2 dvs := binds_of fun ws hl S => by
  cases ws with
  | nil => cases hl
  | cons w0 r0 =>
    cases r0 with
    | nil => cases hl
    | cons w1 r1 =>
      cases r1 with
      | cons _ _ => cases hl
      | nil => exact h w0 w1 S
theorem binds3 {K : Frag} {fa : Addr} {ps : List Nat} {dvs : List Value} (h : ∀ w0 w1 w2 S, ((K.lookup fa).bind fun o => match o.data with | .func fd => peek K S (bindArgs fd ⟨[w0, w1, w2], []⟩) | _ => none) = some ((ps.map nm).zip ([w0, w1, w2] ++ dvs))) : BindsFn K fa ps 3 dvs := binds_of fun ws hl S => by
  cases ws with
  | nil => cases hl
  | cons w0 r0 =>
    cases r0 with
    | nil => cases hl
    | cons w1 r1 =>
      cases r1 with
      | nil => cases hl
      | cons w2 r2 =>
        cases r2 with
        | cons _ _ => cases hl
        | nil => exact h w0 w1 w2 S
theorem binds4 {K : Frag} {fa : Addr} {ps : List Nat} {dvs : List Value} (h : ∀ w0 w1 w2 w3 S, ((K.lookup fa).bind fun o => match o.data with | .func fd => peek K S (bindArgs fd ⟨[w0, w1, w2, w3], []⟩) | _ => none) = some ((ps.map nm).zip ([w0, w1, w2, w3] ++ dvs))) : BindsFn K fa ps 4 dvs := binds_of fun ws hl S => by
  cases ws with
  | nil => cases hl
  | cons w0 r0 =>
    cases r0 with
    | nil => cases hl
    | cons w1 r1 =>
      cases r1 with
      | nil => cases hl
      | cons w2 r2 =>
        cases r2 with
        | nil => cases hl
        | cons w3 r3 =>
          cases r3 with
          | cons _ _ => cases hl
          | nil => exact h w0 w1 w2 w3 S
theorem ns_some_of {K : Frag} {h : Heap} {N : Addr} {mg : Str → Option Value} {n : Str} {v : Value} (X : K.In h) (G : h.Ns N mg) (e : nsIn K N n = some (some v)) : mg n = some v := by
  obtain ⟨o, es, ep, ho, hd, _, hf⟩ := G
  unfold nsIn at e
  split at e
  · rename_i c d es' n' sl q
    have := X _ _ q
    rw [ho] at this
    cases this
    cases hd
    split at e
    · rename_i z
      rw [← hf]
      unfold nsFind findBy
      rw [← Array.find?_toList, z]
      simpa using e
    · split at e <;> cases e
  · cases e
theorem ints_rv {g : Fz} : ∀ {vs : List Value} {ns : List Int}, IntsAre vs ns → RVs g vs (rowV ns) := by
  intro vs ns h
  induction h with
  | nil => exact .nil
  | cons n t _ ih => exact .cons .int ih
noncomputable def codeK {K : Frag} {h : Heap} (_ : K.In h) (c : Code K) : Code K := c
theorem law_fa {K : Frag} {h : Heap} {mg : Str → Option Value} {fa : Addr} (X : K.In h) (G : h.Ns mainGlobals mg) (e : nsIn K mainGlobals (Str.ofString "law") = some (some (.ref 549))) (hm : mg (Str.ofString "law") = some (.ref fa)) : fa = 549 := by
  cases hm.symm.trans (ns_some_of X G e); rfl
/-- the call of `law`, whole -/
theorem law_walk {prog : Program} {w : PySem.World} {K : Frag} {s : Shared} {mg mb : Str → Option Value} {ns : List Int} {la : Addr} {lo : Obj} {vs : Array Value} {m : Nat} (X : K.In s.heap) (C : Code K) (g : s.heap.Ns mainGlobals mg) (b : s.heap.Ns builtinsNs mb) (bo : ∀ x : Str, x ≠ ("__name__" : Str) → mb x = bootBuiltins x) (nl : s.heap.NoLimit) (gn : s.gens = #[])
    (hl : ns.length < 90000) (l1 : s.heap.get? la = some lo) (l2 : lo.cls = .type "list") (l3 : lo.data = .seq vs m) (hI : IntsAre vs.toList ns) :
    codeAny (model prog w) callerA (.call (.ref 549) ⟨[.ref la], []⟩) (fun r s' => match r with
      | .ok (.ret v) => v = .bool true ∧ (∀ b o, s.heap.get? b = some o → s'.heap.get? b = some o) ∧ s'.gens = #[] ∧ s'.os = s.os
      | _ => False) s := by
  have ok : (⟨prog, w, K, s.heap, mg, mb, s.os⟩ : Cx).Ok := ⟨X, g, b, bo, nl⟩
  have RO : RelO ⟨prog, w, K, s.heap, mg, mb, s.os⟩ [] (fun _ => none) s := ⟨fun b o e => ⟨e, rfl, fun m => nomatch m⟩, fun b m => (nomatch m), fun a mo e => (nomatch e), gn, rfl⟩
  have rv : RVs (frz (fun _ => none) [] s.heap) [Value.ref la] [.lst (rowV ns)] := .cons (.lst (frz_some.mpr ⟨rfl, (fun m => nomatch m), l1⟩) l2 l3 (ints_rv hI)) .nil
  have cc : CallOK ⟨prog, w, K, s.heap, mg, mb, s.os⟩ 41 549 [.lst (rowV ns)] (fun _ => none) fun v _ => v = .bool true :=
    fn_call ok C.law C.b_law rfl (fun _ => .nil) (lawA_ok (n := 0) ok C hl rfl fun _ => rfl)
  refine codeAny_mono (cc callerA s [] [Value.ref la] ⟨rfl, by decide, by decide⟩ RO rv) fun res s' g => ?_
  match res, g with
  | .ok (.ret v), g =>
    obtain ⟨av, O', gv, gr, gs, rfl⟩ := g
    cases gv
    exact ⟨rfl, fun b o e => (gr.base b o e).1, gr.gens, gr.os⟩
end Mine

/-! The walk. The names ahead of it are taken so that the walk writes no second form of its own constants: that form only makes the file large. -/
set_option Elab.async true
set_option maxHeartbeats 8000000
namespace Mine
theorem t0.tw10027189053798926750 : True := trivial
theorem t0.tw10028091251024129215 : True := trivial
theorem t0.tw10084367667212680156 : True := trivial
theorem t0.tw10087641117478000029 : True := trivial
theorem t0.tw10090841527169273956 : True := trivial
theorem t0.tw10100132505103374943 : True := trivial
theorem t0.tw10145514630834477558 : True := trivial
theorem t0.tw1029912278041288196 : True := trivial
theorem t0.tw10307866270842296162 : True := trivial
theorem t0.tw10325389220607775576 : True := trivial
theorem t0.tw10338253277369314460 : True := trivial
theorem t0.tw10350854901539457833 : True := trivial
theorem t0.tw10388428061747388724 : True := trivial
theorem t0.tw10430246660885038778 : True := trivial
theorem t0.tw10472420122283081890 : True := trivial
theorem t0.tw10512621890229008352 : True := trivial
theorem t0.tw10529833302522517170 : True := trivial
theorem t0.tw10620204942940308054 : True := trivial
theorem t0.tw10623105410402167894 : True := trivial
theorem t0.tw10626580897562521525 : True := trivial
theorem t0.tw10632102243570814336 : True := trivial
theorem t0.tw10634194384215380445 : True := trivial
theorem t0.tw10635854825840479065 : True := trivial
theorem t0.tw10639247873762089053 : True := trivial
theorem t0.tw10702124675799039567 : True := trivial
theorem t0.tw10834266355443672319 : True := trivial
theorem t0.tw10846133281766920611 : True := trivial
theorem t0.tw1085844793539258187 : True := trivial
theorem t0.tw1099643821944204685 : True := trivial
theorem t0.tw11131930636914188562 : True := trivial
theorem t0.tw11158434276024087600 : True := trivial
theorem t0.tw11158717061009955104 : True := trivial
theorem t0.tw11176643945735488474 : True := trivial
theorem t0.tw11198088837003004157 : True := trivial
theorem t0.tw11199572802097771363 : True := trivial
theorem t0.tw11201919400966670626 : True := trivial
theorem t0.tw11211256510343371587 : True := trivial
theorem t0.tw11212127652856706031 : True := trivial
theorem t0.tw11232118461143147711 : True := trivial
theorem t0.tw11299218806242827516 : True := trivial
theorem t0.tw11318854500328907331 : True := trivial
theorem t0.tw11324987764143786256 : True := trivial
theorem t0.tw11329957215638592327 : True := trivial
theorem t0.tw114158919878824038 : True := trivial
theorem t0.tw11431262738210994510 : True := trivial
theorem t0.tw11456445786299482440 : True := trivial
theorem t0.tw11513837572240518067 : True := trivial
theorem t0.tw11521464795951228619 : True := trivial
theorem t0.tw11584418436506679092 : True := trivial
theorem t0.tw11608335225269333778 : True := trivial
theorem t0.tw11662400923005715757 : True := trivial
theorem t0.tw11674239806552020364 : True := trivial
theorem t0.tw11708471763538177751 : True := trivial
theorem t0.tw11776361176476035525 : True := trivial
theorem t0.tw11799509595967682124 : True := trivial
theorem t0.tw11825691072085316040 : True := trivial
theorem t0.tw11842958338460718837 : True := trivial
theorem t0.tw11927953141392694334 : True := trivial
theorem t0.tw11933977528088366207 : True := trivial
theorem t0.tw11973067999002118612 : True := trivial
theorem t0.tw11995519307071024686 : True := trivial
theorem t0.tw11998181042891339873 : True := trivial
theorem t0.tw12089625849730913481 : True := trivial
theorem t0.tw12186066917824896014 : True := trivial
theorem t0.tw12217149527740936238 : True := trivial
theorem t0.tw12234740685716125640 : True := trivial
theorem t0.tw12249206993211729980 : True := trivial
theorem t0.tw12280888839528788361 : True := trivial
theorem t0.tw12308429269775043514 : True := trivial
theorem t0.tw12340689174467656159 : True := trivial
theorem t0.tw1238899980263034035 : True := trivial
theorem t0.tw12411994215049219607 : True := trivial
theorem t0.tw12497980822965356005 : True := trivial
theorem t0.tw1250756261010114054 : True := trivial
theorem t0.tw12510840847677607973 : True := trivial
theorem t0.tw12523456964328298555 : True := trivial
theorem t0.tw12568577143209603680 : True := trivial
theorem t0.tw1271701747422489104 : True := trivial
theorem t0.tw12727558118722498604 : True := trivial
theorem t0.tw12762924874549254933 : True := trivial
theorem t0.tw12774062107173049025 : True := trivial
theorem t0.tw12792913522675204557 : True := trivial
theorem t0.tw12807973782038826011 : True := trivial
theorem t0.tw12849020135219945858 : True := trivial
theorem t0.tw12854279638502779538 : True := trivial
theorem t0.tw12859643604211093261 : True := trivial
theorem t0.tw12874539300130479462 : True := trivial
theorem t0.tw12942795019267722655 : True := trivial
theorem t0.tw12956165413886062709 : True := trivial
theorem t0.tw12956977397980605922 : True := trivial
theorem t0.tw13007126114431168881 : True := trivial
theorem t0.tw13026831824678956946 : True := trivial
theorem t0.tw13052222348153680937 : True := trivial
theorem t0.tw13066546271751409959 : True := trivial
theorem t0.tw1308998959419420464 : True := trivial
theorem t0.tw13108323832797429781 : True := trivial
theorem t0.tw13111794951655268159 : True := trivial
theorem t0.tw13158934435466242296 : True := trivial
theorem t0.tw13181914993199012687 : True := trivial
theorem t0.tw1325563359303547807 : True := trivial
theorem t0.tw13294704099041957165 : True := trivial
theorem t0.tw13342899260024901818 : True := trivial
theorem t0.tw13351408081465108885 : True := trivial
theorem t0.tw13452025176498798389 : True := trivial
theorem t0.tw1346809257768439777 : True := trivial
theorem t0.tw13491215577704470482 : True := trivial
theorem t0.tw13505955503124374607 : True := trivial
theorem t0.tw13539736076847335093 : True := trivial
theorem t0.tw13612948828499226674 : True := trivial
theorem t0.tw13618569864594282811 : True := trivial
theorem t0.tw13636161242932910415 : True := trivial
theorem t0.tw13680928885776075119 : True := trivial
theorem t0.tw13701941458610625197 : True := trivial
theorem t0.tw1372212523338334512 : True := trivial
theorem t0.tw13725929117011075080 : True := trivial
theorem t0.tw13776638438620445487 : True := trivial
theorem t0.tw13835768646091993378 : True := trivial
theorem t0.tw13839957272506988509 : True := trivial
theorem t0.tw13850414126723442854 : True := trivial
theorem t0.tw13852045971091505375 : True := trivial
theorem t0.tw13856184584131584846 : True := trivial
theorem t0.tw13916600081688757351 : True := trivial
theorem t0.tw13917002953644464031 : True := trivial
theorem t0.tw13988404832256244670 : True := trivial
theorem t0.tw14017775107651681245 : True := trivial
theorem t0.tw14089005566571716634 : True := trivial
theorem t0.tw14091712363162838822 : True := trivial
theorem t0.tw14105104357810523103 : True := trivial
theorem t0.tw14137945459575894383 : True := trivial
theorem t0.tw14152139175316653684 : True := trivial
theorem t0.tw14207358377569447260 : True := trivial
theorem t0.tw1421909794102085315 : True := trivial
theorem t0.tw14228821506528379258 : True := trivial
theorem t0.tw1425196348450002796 : True := trivial
theorem t0.tw14255869185049838795 : True := trivial
theorem t0.tw14256842594348853497 : True := trivial
theorem t0.tw14278501687670386431 : True := trivial
theorem t0.tw14291672737337260201 : True := trivial
theorem t0.tw14319342630325685876 : True := trivial
theorem t0.tw14321558665994930027 : True := trivial
theorem t0.tw14333481079263166868 : True := trivial
theorem t0.tw14333822645788724384 : True := trivial
theorem t0.tw143813242581663033 : True := trivial
theorem t0.tw14393643102275555368 : True := trivial
theorem t0.tw14426532974858692279 : True := trivial
theorem t0.tw14427578597881086301 : True := trivial
theorem t0.tw14452529289578319370 : True := trivial
theorem t0.tw14456814656092999439 : True := trivial
theorem t0.tw14480362196291626793 : True := trivial
theorem t0.tw14497701094408935322 : True := trivial
theorem t0.tw14555484800256205540 : True := trivial
theorem t0.tw14557667948117060886 : True := trivial
theorem t0.tw14573307286148764673 : True := trivial
theorem t0.tw14657184275310324576 : True := trivial
theorem t0.tw14674277962752696816 : True := trivial
theorem t0.tw1471050044390208488 : True := trivial
theorem t0.tw14819262408916091582 : True := trivial
theorem t0.tw14856037362188205791 : True := trivial
theorem t0.tw14953789047775705376 : True := trivial
theorem t0.tw14957615518954913830 : True := trivial
theorem t0.tw14994440551281934583 : True := trivial
theorem t0.tw15002073606933451451 : True := trivial
theorem t0.tw15002712711453966336 : True := trivial
theorem t0.tw15016769766038698773 : True := trivial
theorem t0.tw15020388138524396216 : True := trivial
theorem t0.tw15031912232031098036 : True := trivial
theorem t0.tw15052899791398538336 : True := trivial
theorem t0.tw15158932098125195304 : True := trivial
theorem t0.tw15173255268237289771 : True := trivial
theorem t0.tw15199133699326050991 : True := trivial
theorem t0.tw15243371813557302264 : True := trivial
theorem t0.tw15245650843444625401 : True := trivial
theorem t0.tw15272138699253586120 : True := trivial
theorem t0.tw15278763224204923441 : True := trivial
theorem t0.tw15292054924321233296 : True := trivial
theorem t0.tw15324080848435783809 : True := trivial
theorem t0.tw15338848161078198382 : True := trivial
theorem t0.tw15379693906920842233 : True := trivial
theorem t0.tw15383805726018993402 : True := trivial
theorem t0.tw15487821524760506726 : True := trivial
theorem t0.tw15493609611894325567 : True := trivial
theorem t0.tw15500123780698146476 : True := trivial
theorem t0.tw15506206151381375496 : True := trivial
theorem t0.tw15537886328709674470 : True := trivial
theorem t0.tw15550238508481504337 : True := trivial
theorem t0.tw15589773855786637614 : True := trivial
theorem t0.tw15623738284038102173 : True := trivial
theorem t0.tw15674258325993322774 : True := trivial
theorem t0.tw15697770180440170682 : True := trivial
theorem t0.tw1575194003888988447 : True := trivial
theorem t0.tw15766428310609560505 : True := trivial
theorem t0.tw15798084405678930162 : True := trivial
theorem t0.tw15824520675712611701 : True := trivial
theorem t0.tw15828312481993006945 : True := trivial
theorem t0.tw15840658323848438154 : True := trivial
theorem t0.tw15859915240133406377 : True := trivial
theorem t0.tw15866925570733069953 : True := trivial
theorem t0.tw15924735828132006295 : True := trivial
theorem t0.tw15933405962766517340 : True := trivial
theorem t0.tw15935462341668884305 : True := trivial
theorem t0.tw15938260663930664753 : True := trivial
theorem t0.tw15989855446431137956 : True := trivial
theorem t0.tw16008868475742292908 : True := trivial
theorem t0.tw16062991986670358291 : True := trivial
theorem t0.tw16078067064836672738 : True := trivial
theorem t0.tw16086265931614281586 : True := trivial
theorem t0.tw16164877249659604895 : True := trivial
theorem t0.tw1622107729119388793 : True := trivial
theorem t0.tw16245723961200093371 : True := trivial
theorem t0.tw16264023461874429674 : True := trivial
theorem t0.tw16270583353651805700 : True := trivial
theorem t0.tw16316683649336449520 : True := trivial
theorem t0.tw16328622115248875752 : True := trivial
theorem t0.tw16402837064993239449 : True := trivial
theorem t0.tw164214235228394196 : True := trivial
theorem t0.tw16463308480727136324 : True := trivial
theorem t0.tw16498562638573788622 : True := trivial
theorem t0.tw16561953825075250860 : True := trivial
theorem t0.tw16581568054940859963 : True := trivial
theorem t0.tw16583173510337305111 : True := trivial
theorem t0.tw16645235332158908400 : True := trivial
theorem t0.tw16658016274145463815 : True := trivial
theorem t0.tw16718771129961083805 : True := trivial
theorem t0.tw16774801137036573486 : True := trivial
theorem t0.tw16805569044191787266 : True := trivial
theorem t0.tw16811304991177018458 : True := trivial
theorem t0.tw16840932149179893247 : True := trivial
theorem t0.tw16900999792796813490 : True := trivial
theorem t0.tw16902446309994494865 : True := trivial
theorem t0.tw16931513145885482992 : True := trivial
theorem t0.tw16977225881930271908 : True := trivial
theorem t0.tw17021683998523047874 : True := trivial
theorem t0.tw17077587853397745718 : True := trivial
theorem t0.tw17127201851367437075 : True := trivial
theorem t0.tw17174462488776704483 : True := trivial
theorem t0.tw17175092595945847480 : True := trivial
theorem t0.tw17204974579382727960 : True := trivial
theorem t0.tw17206061370892848076 : True := trivial
theorem t0.tw17208943094745419860 : True := trivial
theorem t0.tw17248169966423029573 : True := trivial
theorem t0.tw17298897690572267543 : True := trivial
theorem t0.tw1732818825946694113 : True := trivial
theorem t0.tw17341729632005156222 : True := trivial
theorem t0.tw17342239118530445807 : True := trivial
theorem t0.tw17362971249743257532 : True := trivial
theorem t0.tw17389876068890674734 : True := trivial
theorem t0.tw17407227231563891351 : True := trivial
theorem t0.tw17409086096934654947 : True := trivial
theorem t0.tw17457318716467239114 : True := trivial
theorem t0.tw17464818286913919308 : True := trivial
theorem t0.tw17514195105495255418 : True := trivial
theorem t0.tw17518287513385022272 : True := trivial
theorem t0.tw17558041122315406662 : True := trivial
theorem t0.tw17559221159814610612 : True := trivial
theorem t0.tw17724056463492545222 : True := trivial
theorem t0.tw17790207107425831486 : True := trivial
theorem t0.tw1779912457264914253 : True := trivial
theorem t0.tw17856882103719877803 : True := trivial
theorem t0.tw17876474779018964072 : True := trivial
theorem t0.tw17880248161489573676 : True := trivial
theorem t0.tw17910788067413856506 : True := trivial
theorem t0.tw17914058272933140808 : True := trivial
theorem t0.tw17939396249883237815 : True := trivial
theorem t0.tw17939803503817182426 : True := trivial
theorem t0.tw17951380663226302711 : True := trivial
theorem t0.tw17968245576234661570 : True := trivial
theorem t0.tw18056027766167123812 : True := trivial
theorem t0.tw18079718669353183456 : True := trivial
theorem t0.tw18091940789808654355 : True := trivial
theorem t0.tw18145415910927471558 : True := trivial
theorem t0.tw18198859441899744865 : True := trivial
theorem t0.tw1820975460984318225 : True := trivial
theorem t0.tw18271168819770660519 : True := trivial
theorem t0.tw18283762629559767718 : True := trivial
theorem t0.tw1832058787187495395 : True := trivial
theorem t0.tw18375002192735637972 : True := trivial
theorem t0.tw18411625581001223169 : True := trivial
theorem t0.tw18439789763072954638 : True := trivial
theorem t0.tw185298326906990850 : True := trivial
theorem t0.tw1853751296035482401 : True := trivial
theorem t0.tw1934136308203850054 : True := trivial
theorem t0.tw195448806792257913 : True := trivial
theorem t0.tw1991007514868039869 : True := trivial
theorem t0.tw2001764262292062232 : True := trivial
theorem t0.tw2034677088875797242 : True := trivial
theorem t0.tw2093813609568201781 : True := trivial
theorem t0.tw2095265476535289441 : True := trivial
theorem t0.tw2160726834495781426 : True := trivial
theorem t0.tw2280153347946870850 : True := trivial
theorem t0.tw2293133415905937308 : True := trivial
theorem t0.tw2314236537317521802 : True := trivial
theorem t0.tw2319809443122830478 : True := trivial
theorem t0.tw2421191684073755433 : True := trivial
theorem t0.tw2422728802127372186 : True := trivial
theorem t0.tw2426492071929450522 : True := trivial
theorem t0.tw2426685040969131007 : True := trivial
theorem t0.tw2451579292166621696 : True := trivial
theorem t0.tw2464499305073966373 : True := trivial
theorem t0.tw2496271468320239077 : True := trivial
theorem t0.tw2545799548485514793 : True := trivial
theorem t0.tw2568138281973801793 : True := trivial
theorem t0.tw2594823599528464366 : True := trivial
theorem t0.tw2631190522621734544 : True := trivial
theorem t0.tw268092522703414832 : True := trivial
theorem t0.tw2701461999578947006 : True := trivial
theorem t0.tw271308161869445403 : True := trivial
theorem t0.tw2714460826045712452 : True := trivial
theorem t0.tw2728348568276785650 : True := trivial
theorem t0.tw2752092924492496278 : True := trivial
theorem t0.tw2752270820181308196 : True := trivial
theorem t0.tw2778121800055090690 : True := trivial
theorem t0.tw2923133988896481500 : True := trivial
theorem t0.tw2927839747306096186 : True := trivial
theorem t0.tw292799430190447079 : True := trivial
theorem t0.tw29426603514955948 : True := trivial
theorem t0.tw2949213816600738669 : True := trivial
theorem t0.tw2968080931475572216 : True := trivial
theorem t0.tw3143240777007321032 : True := trivial
theorem t0.tw3143790899617282807 : True := trivial
theorem t0.tw317495849189113628 : True := trivial
theorem t0.tw3240407711755055003 : True := trivial
theorem t0.tw3252232125335709012 : True := trivial
theorem t0.tw3270699067768509208 : True := trivial
theorem t0.tw3279581294769861415 : True := trivial
theorem t0.tw3324447335454741743 : True := trivial
theorem t0.tw3391015760168356675 : True := trivial
theorem t0.tw3398871949731890640 : True := trivial
theorem t0.tw3413502057488553918 : True := trivial
theorem t0.tw3421944146278619181 : True := trivial
theorem t0.tw343365565548594903 : True := trivial
theorem t0.tw3479132406706756293 : True := trivial
theorem t0.tw350472105735123514 : True := trivial
theorem t0.tw3558534497010578850 : True := trivial
theorem t0.tw3580807284741611534 : True := trivial
theorem t0.tw3608945857107240895 : True := trivial
theorem t0.tw3616037327755765341 : True := trivial
theorem t0.tw3671385232490083836 : True := trivial
theorem t0.tw3681412033579425 : True := trivial
theorem t0.tw3687882282173158559 : True := trivial
theorem t0.tw3743657690014076326 : True := trivial
theorem t0.tw37903126466283906 : True := trivial
theorem t0.tw3808781802108663165 : True := trivial
theorem t0.tw3842145670949621253 : True := trivial
theorem t0.tw38445139610113867 : True := trivial
theorem t0.tw3847927691511479059 : True := trivial
theorem t0.tw3862422455234371394 : True := trivial
theorem t0.tw3902129763493918025 : True := trivial
theorem t0.tw3903563586402281913 : True := trivial
theorem t0.tw3912899060692256773 : True := trivial
theorem t0.tw3914355063128661309 : True := trivial
theorem t0.tw3947426643464153082 : True := trivial
theorem t0.tw397884323027662868 : True := trivial
theorem t0.tw3985319510611544325 : True := trivial
theorem t0.tw3986434502733037691 : True := trivial
theorem t0.tw4047899495878874107 : True := trivial
theorem t0.tw4056858964449017120 : True := trivial
theorem t0.tw4067293623070842972 : True := trivial
theorem t0.tw4117937744252045134 : True := trivial
theorem t0.tw415131256113739254 : True := trivial
theorem t0.tw4155514766414855694 : True := trivial
theorem t0.tw4185100644901082756 : True := trivial
theorem t0.tw4190606327252463971 : True := trivial
theorem t0.tw4192205424496736823 : True := trivial
theorem t0.tw4327838958509375788 : True := trivial
theorem t0.tw4342651176069443744 : True := trivial
theorem t0.tw4349151981221315978 : True := trivial
theorem t0.tw4381584713867773651 : True := trivial
theorem t0.tw4409042001172502717 : True := trivial
theorem t0.tw4409271673544078365 : True := trivial
theorem t0.tw4417124136047891751 : True := trivial
theorem t0.tw4420407352159953108 : True := trivial
theorem t0.tw4429610650985818380 : True := trivial
theorem t0.tw4469883627785468313 : True := trivial
theorem t0.tw4485942504701911547 : True := trivial
theorem t0.tw4509877840721408608 : True := trivial
theorem t0.tw4519109055415514558 : True := trivial
theorem t0.tw4520484466613971949 : True := trivial
theorem t0.tw4547432803126672556 : True := trivial
theorem t0.tw4579560125020272051 : True := trivial
theorem t0.tw46373625145844062 : True := trivial
theorem t0.tw4653989571077516269 : True := trivial
theorem t0.tw4697864961034419159 : True := trivial
theorem t0.tw4731053265671510846 : True := trivial
theorem t0.tw4744105453311257858 : True := trivial
theorem t0.tw4806458228269228216 : True := trivial
theorem t0.tw4815002008075448853 : True := trivial
theorem t0.tw4816608966437513787 : True := trivial
theorem t0.tw4821200750164042373 : True := trivial
theorem t0.tw4839712674022499857 : True := trivial
theorem t0.tw4841533454861189698 : True := trivial
theorem t0.tw4856171005477230728 : True := trivial
theorem t0.tw4868565743081297038 : True := trivial
theorem t0.tw4919231777912412558 : True := trivial
theorem t0.tw4947566137948248285 : True := trivial
theorem t0.tw4948286958036024975 : True := trivial
theorem t0.tw4997079662956143077 : True := trivial
theorem t0.tw5010557414817908996 : True := trivial
theorem t0.tw5023183566092984370 : True := trivial
theorem t0.tw5047218453341504523 : True := trivial
theorem t0.tw5134402575906418164 : True := trivial
theorem t0.tw513908559884329571 : True := trivial
theorem t0.tw5165902338148430152 : True := trivial
theorem t0.tw5169455699038183072 : True := trivial
theorem t0.tw5236569819870738592 : True := trivial
theorem t0.tw5241236663600115045 : True := trivial
theorem t0.tw5247114971125966899 : True := trivial
theorem t0.tw5257129771634814540 : True := trivial
theorem t0.tw5271195493148003430 : True := trivial
theorem t0.tw5273185968680941930 : True := trivial
theorem t0.tw5279069909898419410 : True := trivial
theorem t0.tw532788173415119266 : True := trivial
theorem t0.tw5349300936924803558 : True := trivial
theorem t0.tw5381196896767323005 : True := trivial
theorem t0.tw5407421632793575363 : True := trivial
theorem t0.tw5411937750258900785 : True := trivial
theorem t0.tw5430263369495130714 : True := trivial
theorem t0.tw5474141020343413675 : True := trivial
theorem t0.tw5482147961486618006 : True := trivial
theorem t0.tw5510645151742252210 : True := trivial
theorem t0.tw5518111491295907008 : True := trivial
theorem t0.tw5541000238185932798 : True := trivial
theorem t0.tw5542164973768048454 : True := trivial
theorem t0.tw5619039047363138215 : True := trivial
theorem t0.tw5682212877363059524 : True := trivial
theorem t0.tw5687241220217798422 : True := trivial
theorem t0.tw5705135074183150354 : True := trivial
theorem t0.tw5739585311086332662 : True := trivial
theorem t0.tw5748174852887193603 : True := trivial
theorem t0.tw5810065765019614990 : True := trivial
theorem t0.tw5833887983883556022 : True := trivial
theorem t0.tw5885654334836561332 : True := trivial
theorem t0.tw5942423271965910677 : True := trivial
theorem t0.tw5981920905950310744 : True := trivial
theorem t0.tw5982570277832090669 : True := trivial
theorem t0.tw6074138905693810765 : True := trivial
theorem t0.tw6078594165167638948 : True := trivial
theorem t0.tw6108239955535388256 : True := trivial
theorem t0.tw6113013537871220083 : True := trivial
theorem t0.tw6114001592253643221 : True := trivial
theorem t0.tw6117000304810918469 : True := trivial
theorem t0.tw6156153187407590262 : True := trivial
theorem t0.tw6223989450585252326 : True := trivial
theorem t0.tw6232865195718131296 : True := trivial
theorem t0.tw6300931531161852464 : True := trivial
theorem t0.tw6321690378315022396 : True := trivial
theorem t0.tw6322585577739946941 : True := trivial
theorem t0.tw6349616961701704405 : True := trivial
theorem t0.tw6379605367156265434 : True := trivial
theorem t0.tw644660398338039607 : True := trivial
theorem t0.tw6463917159816318164 : True := trivial
theorem t0.tw6467739897783397829 : True := trivial
theorem t0.tw6531233476345963121 : True := trivial
theorem t0.tw6638723859463684688 : True := trivial
theorem t0.tw6656960376621937737 : True := trivial
theorem t0.tw6700593458647730779 : True := trivial
theorem t0.tw6700665781322331115 : True := trivial
theorem t0.tw6747911195983835700 : True := trivial
theorem t0.tw6755708951640300973 : True := trivial
theorem t0.tw6796565761376585190 : True := trivial
theorem t0.tw6811225431393395436 : True := trivial
theorem t0.tw6852172178715300933 : True := trivial
theorem t0.tw6906252281545158868 : True := trivial
theorem t0.tw693064183734358923 : True := trivial
theorem t0.tw6934042297517239762 : True := trivial
theorem t0.tw6967707534688103011 : True := trivial
theorem t0.tw6996745330520976634 : True := trivial
theorem t0.tw7022666421543410690 : True := trivial
theorem t0.tw7054604401914959814 : True := trivial
theorem t0.tw7107489793397568558 : True := trivial
theorem t0.tw7117197849576832615 : True := trivial
theorem t0.tw7126560496057796916 : True := trivial
theorem t0.tw7133656203273652642 : True := trivial
theorem t0.tw7202287749905700959 : True := trivial
theorem t0.tw721151106951946180 : True := trivial
theorem t0.tw726773657345787658 : True := trivial
theorem t0.tw728748890621220288 : True := trivial
theorem t0.tw7300926500419388347 : True := trivial
theorem t0.tw7365043396957227498 : True := trivial
theorem t0.tw7382070928251768783 : True := trivial
theorem t0.tw7425994224883924381 : True := trivial
theorem t0.tw7472612252640148725 : True := trivial
theorem t0.tw7487909943394539356 : True := trivial
theorem t0.tw7564463041232816860 : True := trivial
theorem t0.tw7622747330555190505 : True := trivial
theorem t0.tw7629783972342772777 : True := trivial
theorem t0.tw7695309248724548747 : True := trivial
theorem t0.tw7699501275188980964 : True := trivial
theorem t0.tw7717703594863560599 : True := trivial
theorem t0.tw7731480844486657782 : True := trivial
theorem t0.tw7732101921481086828 : True := trivial
theorem t0.tw7752298461956865825 : True := trivial
theorem t0.tw7764710149197187498 : True := trivial
theorem t0.tw7833171173274979660 : True := trivial
theorem t0.tw7838685134830791929 : True := trivial
theorem t0.tw7860423479359410820 : True := trivial
theorem t0.tw7906084306159028798 : True := trivial
theorem t0.tw7911977377384912014 : True := trivial
theorem t0.tw7922807764063841298 : True := trivial
theorem t0.tw7931089980453924163 : True := trivial
theorem t0.tw793476505141213834 : True := trivial
theorem t0.tw7945034956119948705 : True := trivial
theorem t0.tw7957963089156922567 : True := trivial
theorem t0.tw8007836980359075181 : True := trivial
theorem t0.tw80323808056249052 : True := trivial
theorem t0.tw8075417257556867355 : True := trivial
theorem t0.tw8080029274453513671 : True := trivial
theorem t0.tw8081357773156156044 : True := trivial
theorem t0.tw8090833561325124757 : True := trivial
theorem t0.tw8157978971601370203 : True := trivial
theorem t0.tw8176693853651136909 : True := trivial
theorem t0.tw8198754792552885828 : True := trivial
theorem t0.tw8263420771016891975 : True := trivial
theorem t0.tw8287886694923062437 : True := trivial
theorem t0.tw8328459947673119242 : True := trivial
theorem t0.tw8336196388433492845 : True := trivial
theorem t0.tw8347255411574065439 : True := trivial
theorem t0.tw83575913694501598 : True := trivial
theorem t0.tw8369287271142080897 : True := trivial
theorem t0.tw8388411191096775610 : True := trivial
theorem t0.tw8393009567856888717 : True := trivial
theorem t0.tw8400582445433121590 : True := trivial
theorem t0.tw8456309546957345670 : True := trivial
theorem t0.tw8482469957383959634 : True := trivial
theorem t0.tw8509870506755014339 : True := trivial
theorem t0.tw8511267164099466510 : True := trivial
theorem t0.tw8531646678917137554 : True := trivial
theorem t0.tw8596821193166085560 : True := trivial
theorem t0.tw8637115639592332965 : True := trivial
theorem t0.tw8657959325686853727 : True := trivial
theorem t0.tw8658605382010126852 : True := trivial
theorem t0.tw8719812038023006047 : True := trivial
theorem t0.tw8736301142235534190 : True := trivial
theorem t0.tw8766767211008372876 : True := trivial
theorem t0.tw8777978079232291878 : True := trivial
theorem t0.tw8779999659220458405 : True := trivial
theorem t0.tw8796093952573887690 : True := trivial
theorem t0.tw8805627431258137585 : True := trivial
theorem t0.tw8814007853677131061 : True := trivial
theorem t0.tw8819454611365256508 : True := trivial
theorem t0.tw8899529928071014313 : True := trivial
theorem t0.tw8950435802247211971 : True := trivial
theorem t0.tw8953141712303180343 : True := trivial
theorem t0.tw8986299777491092220 : True := trivial
theorem t0.tw89940559704471363 : True := trivial
theorem t0.tw9096637557537655745 : True := trivial
theorem t0.tw9130014811112549419 : True := trivial
theorem t0.tw9140361129584244022 : True := trivial
theorem t0.tw9151062702236204014 : True := trivial
theorem t0.tw9181758240747379237 : True := trivial
theorem t0.tw9212009848697495786 : True := trivial
theorem t0.tw923151751145712708 : True := trivial
theorem t0.tw9296796672707733673 : True := trivial
theorem t0.tw9334843457339628050 : True := trivial
theorem t0.tw9346835063183931330 : True := trivial
theorem t0.tw9362235445361256321 : True := trivial
theorem t0.tw9386119089424913692 : True := trivial
theorem t0.tw9423624440737874632 : True := trivial
theorem t0.tw9440486126726414272 : True := trivial
theorem t0.tw9498337024966801997 : True := trivial
theorem t0.tw9498786951722915727 : True := trivial
theorem t0.tw9510619848252513836 : True := trivial
theorem t0.tw9580339477161507433 : True := trivial
theorem t0.tw9602140957976127402 : True := trivial
theorem t0.tw9627898941615364985 : True := trivial
theorem t0.tw9636669734134733105 : True := trivial
theorem t0.tw9640656203519593113 : True := trivial
theorem t0.tw9655757080401159567 : True := trivial
theorem t0.tw9676159844207072197 : True := trivial
theorem t0.tw968854335863276037 : True := trivial
theorem t0.tw9748409360764740688 : True := trivial
theorem t0.tw9842814114528352709 : True := trivial
theorem t0.tw9849775708896731738 : True := trivial
theorem t0.tw9857949229985900457 : True := trivial
theorem t0.tw9954077686684681493 : True := trivial
theorem t0.tw9955799701374188752 : True := trivial
theorem t0.tw9963894661068195880 : True := trivial
theorem t0.tw9988096550144630176 : True := trivial
theorem t0 : PySem.Challenge.rw_ok0025_01.Holds := by
  w_on; o_law; k_head; (case hw => w_witness2)
  intro w s₀ s₁ mg mb G Y fa o pm cd doc dV kV ho hd hcd hD hmg hg args vals as hpre hlay hrd hwl hlo
  have KX := kIn_of Y
  refine Ground.open G ?_
  intro T B D TE TW
  wrow_args hpre hlay hrd hwl hlo
  refine enter_call ?_
  rename_i ns hs hlay0 hL1 hr1 hl2 bs cs la vs as' hL ra w1' r0 hI hr hc1 hc
  have hl : ns.length < 90000 := by omega
  have e3 := law_fa KX T.g (by kernel_rfl) hmg
  subst e3
  have C := codeK KX {
    fixed_atoms := by kernel_rfl
    b_fixed_atoms := binds0 fun _ => by kernel_rfl
    fixed_functors := by kernel_rfl
    b_fixed_functors := binds0 fun _ => by kernel_rfl
    Symbols_init := by kernel_rfl
    b_Symbols_init := binds1 fun _ _ => by kernel_rfl
    Symbols_atom := by kernel_rfl
    b_Symbols_atom := binds2 fun _ _ _ => by kernel_rfl
    Symbols_text := by kernel_rfl
    b_Symbols_text := binds2 fun _ _ _ => by kernel_rfl
    Symbols_functor := by kernel_rfl
    b_Symbols_functor := binds3 fun _ _ _ _ => by kernel_rfl
    Symbols_func := by kernel_rfl
    b_Symbols_func := binds3 fun _ _ _ _ => by kernel_rfl
    Symbols_name := by kernel_rfl
    b_Symbols_name := binds2 fun _ _ _ => by kernel_rfl
    Symbols_arity := by kernel_rfl
    b_Symbols_arity := binds2 fun _ _ _ => by kernel_rfl
    Store_init := by kernel_rfl
    b_Store_init := ⟨434, binds2 fun _ _ _ => by kernel_rfl⟩
    Store_push := by kernel_rfl
    b_Store_push := binds2 fun _ _ _ => by kernel_rfl
    Store_new_var := by kernel_rfl
    b_Store_new_var := binds1 fun _ _ => by kernel_rfl
    Store_reserve := by kernel_rfl
    b_Store_reserve := binds2 fun _ _ _ => by kernel_rfl
    Store_deref := by kernel_rfl
    b_Store_deref := binds2 fun _ _ _ => by kernel_rfl
    Store_bind := by kernel_rfl
    b_Store_bind := binds3 fun _ _ _ _ => by kernel_rfl
    Store_globalise := by kernel_rfl
    b_Store_globalise := binds2 fun _ _ _ => by kernel_rfl
    Store_is_compound := by kernel_rfl
    b_Store_is_compound := binds2 fun _ _ _ => by kernel_rfl
    Store_functor_of := by kernel_rfl
    b_Store_functor_of := binds2 fun _ _ _ => by kernel_rfl
    Store_width := by kernel_rfl
    b_Store_width := binds2 fun _ _ _ => by kernel_rfl
    Store_base := by kernel_rfl
    b_Store_base := binds2 fun _ _ _ => by kernel_rfl
    Store_new_block := by kernel_rfl
    b_Store_new_block := binds2 fun _ _ _ => by kernel_rfl
    Store_put_term := by kernel_rfl
    b_Store_put_term := binds3 fun _ _ _ _ => by kernel_rfl
    PairSet_init := by kernel_rfl
    b_PairSet_init := binds2 fun _ _ _ => by kernel_rfl
    PairSet_add := by kernel_rfl
    b_PairSet_add := binds3 fun _ _ _ _ => by kernel_rfl
    push_arguments := by kernel_rfl
    b_push_arguments := binds3 fun _ _ _ _ => by kernel_rfl
    push_pairs := by kernel_rfl
    b_push_pairs := binds4 fun _ _ _ _ _ => by kernel_rfl
    same_shape := by kernel_rfl
    b_same_shape := binds3 fun _ _ _ _ => by kernel_rfl
    is_variable := by kernel_rfl
    b_is_variable := binds1 fun _ _ => by kernel_rfl
    rank := by kernel_rfl
    b_rank := binds1 fun _ _ => by kernel_rfl
    order := by kernel_rfl
    b_order := binds2 fun _ _ _ => by kernel_rfl
    compare_shapes := by kernel_rfl
    b_compare_shapes := binds3 fun _ _ _ _ => by kernel_rfl
    compare_tops := by kernel_rfl
    b_compare_tops := binds3 fun _ _ _ _ => by kernel_rfl
    compare := by kernel_rfl
    b_compare := binds3 fun _ _ _ _ => by kernel_rfl
    identical := by kernel_rfl
    b_identical := binds3 fun _ _ _ _ => by kernel_rfl
    variables := by kernel_rfl
    b_variables := binds2 fun _ _ _ => by kernel_rfl
    ground := by kernel_rfl
    b_ground := binds2 fun _ _ _ => by kernel_rfl
    variable_number := by kernel_rfl
    b_variable_number := binds1 fun _ _ => by kernel_rfl
    variant := by kernel_rfl
    b_variant := binds3 fun _ _ _ _ => by kernel_rfl
    subsumes := by kernel_rfl
    b_subsumes := binds3 fun _ _ _ _ => by kernel_rfl
    law_open := by kernel_rfl
    b_law_open := binds1 fun _ _ => by kernel_rfl
    law_pull := by kernel_rfl
    b_law_pull := binds2 fun _ _ _ => by kernel_rfl
    law_tree := by kernel_rfl
    b_law_tree := binds3 fun _ _ _ _ => by kernel_rfl
    law_pair := by kernel_rfl
    b_law_pair := binds2 fun _ _ _ => by kernel_rfl
    law_filled := by kernel_rfl
    b_law_filled := binds2 fun _ _ _ => by kernel_rfl
    law_next := by kernel_rfl
    b_law_next := binds3 fun _ _ _ _ => by kernel_rfl
    law := by kernel_rfl
    b_law := binds1 fun _ _ => by kernel_rfl
    mk_Symbols := by kernel_rfl
    mk_Store := by kernel_rfl
    mk_PairSet := by kernel_rfl }
  obtain ⟨lo, l1, l2, ln, l3⟩ := hL
  refine codeAny_mono (law_walk KX C T.g T.b T.builtins T.nolimit hg hl l1 l2 l3 hI) fun res s' g => ?_
  match res, g with
  | .ok (.ret v), g =>
    obtain ⟨rfl, k, gg, go⟩ := g
    exact GoodW.toG ⟨.inl ⟨_, _, [], rfl, raisesW_false (by wrow_none_raised), .bool _, postW_of (by wrow_shape) (by wtm_val) (by w_fin), fun _ => ⟨.nil, fun _ m => nomatch m⟩⟩, k, go, gg⟩
end Mine
end
theorem PySem.Challenge.cw_ok0025_01_holds : PySem.Challenge.rw_ok0025_01.Holds :=
  Mine.t0
