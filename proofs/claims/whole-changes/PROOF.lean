import PyProof.Rows.All
import PyProof.P3Eq
import Wide.All
import OpenK.AllK
import Wide.FinOn
import HandS.ForMost
import HandS.Exc
import HandS.ExcOwn
import HandS.TryOnly
import HandS.WordsExc
import HandS.ExcIs
import HandS.DictComp
import HandS.TupAny
import HandS.Conv
import HandS.Zip
import HandS.SortOrd
import HandS.SortInts
import HandS.IsInst
import HandS.ListItems
import HandS.Walk
import KE.KDictZip
import KE.KDictItemsList
import PyProof.Rows.SortShellAny
import PySem.Challenge.RW_scanpages_k63_whole_changes
set_option Elab.async false
set_option linter.all false
set_option maxRecDepth 100000
set_option maxHeartbeats 4000000
/-! The plain part: volumes, the changes between two of them, their application. No program in sight. -/
namespace Sc
open PySem

/-! ### names in order -/
def nlt (a b : Str) : Prop := a.cps.toList < b.cps.toList
instance (a b : Str) : Decidable (nlt a b) := inferInstanceAs (Decidable (a.cps.toList < b.cps.toList))
theorem str_ext {a b : Str} (h : a.cps.toList = b.cps.toList) : a = b := by
  obtain ⟨⟨x⟩⟩ := a
  obtain ⟨⟨y⟩⟩ := b
  have h' : x = y := h
  rw [h']
theorem nlt_irrefl (a : Str) : ¬ nlt a a := List.lt_irrefl _
theorem nlt_trans {a b c : Str} (h : nlt a b) (k : nlt b c) : nlt a c := List.lt_trans h k
theorem nlt_asymm {a b : Str} (h : nlt a b) : ¬ nlt b a := List.lt_asymm h
theorem nlt_tri (a b : Str) : nlt a b ∨ a = b ∨ nlt b a := by
  rcases Std.lt_trichotomy a.cps.toList b.cps.toList with h | h | h
  · exact .inl h
  · exact .inr (.inl (str_ext h))
  · exact .inr (.inr h)
theorem nlt_ne {a b : Str} (h : nlt a b) : a ≠ b := fun e => nlt_irrefl b (e ▸ h)
theorem nle_trans {a b c : Str} (h : ¬ nlt b a) (k : ¬ nlt c b) : ¬ nlt c a := fun q => by
  rcases nlt_tri a b with x | x | x
  · exact k (nlt_trans q x)
  · subst x
    exact k q
  · exact h x
theorem nle_antisymm {a b : Str} (h : ¬ nlt b a) (k : ¬ nlt a b) : a = b := by
  rcases nlt_tri a b with x | x | x
  · exact absurd x k
  · exact x
  · exact absurd x h

/-! ### sorting -/
def ins (x : Str) : List Str → List Str
  | [] => [x]
  | y :: r => if nlt y x then y :: ins x r else x :: y :: r
def isort : List Str → List Str
  | [] => []
  | x :: r => ins x (isort r)
theorem ins_perm (x : Str) : ∀ l, (ins x l).Perm (x :: l)
  | [] => List.Perm.refl _
  | y :: r => by
    unfold ins
    split
    · exact ((ins_perm x r).cons y).trans (List.Perm.swap x y r)
    · exact List.Perm.refl _
theorem isort_perm : ∀ l, (isort l).Perm l
  | [] => List.Perm.refl _
  | x :: r => (ins_perm x _).trans ((isort_perm r).cons x)
/-- in order, equal ones allowed -/
abbrev Ord (l : List Str) : Prop := l.Pairwise fun a b => ¬ nlt b a
/-- strictly in order -/
abbrev Asc (l : List Str) : Prop := l.Pairwise nlt
theorem ins_ord {x : Str} : ∀ {l : List Str}, Ord l → Ord (ins x l)
  | [], _ => List.pairwise_singleton _ _
  | y :: r, h => by
    have h1 := (List.pairwise_cons.mp h).1
    have h2 := (List.pairwise_cons.mp h).2
    unfold ins
    by_cases c : nlt y x
    · rw [if_pos c]
      refine List.pairwise_cons.mpr ⟨fun z hz => ?_, ins_ord h2⟩
      rcases List.mem_cons.mp ((ins_perm x r).mem_iff.mp hz) with e | e
      · subst e
        exact nlt_asymm c
      · exact h1 z e
    · rw [if_neg c]
      refine List.pairwise_cons.mpr ⟨fun z hz => ?_, h⟩
      rcases List.mem_cons.mp hz with e | e
      · subst e
        exact c
      · exact nle_trans c (h1 z e)
theorem isort_ord : ∀ l, Ord (isort l)
  | [] => List.Pairwise.nil
  | _ :: r => ins_ord (isort_ord r)
theorem ord_unique {l m : List Str} (p : l.Perm m) (h : Ord l) (k : Ord m) : l = m :=
  List.Perm.eq_of_pairwise (fun _ _ _ _ a b => nle_antisymm a b) h k p
theorem isort_of {l m : List Str} (p : l.Perm m) (h : Ord l) : l = isort m := ord_unique (p.trans (isort_perm m).symm) h (isort_ord m)
theorem asc_nodup {l : List Str} (h : Asc l) : l.Nodup := h.imp fun x => nlt_ne x
theorem asc_of_ord {l : List Str} (h : Ord l) (n : l.Nodup) : Asc l :=
  (h.and n).imp fun {a b} x => by
    rcases nlt_tri a b with y | y | y
    · exact y
    · exact absurd y x.2
    · exact absurd y x.1
theorem ord_of_asc {l : List Str} (h : Asc l) : Ord l := h.imp fun x => nlt_asymm x
theorem isort_asc {l : List Str} (n : l.Nodup) : Asc (isort l) := asc_of_ord (isort_ord l) ((isort_perm l).nodup_iff.mpr n)

/-! ### volumes -/
inductive Vol where
  | text (s : Str)
  | table (h : List Str) (rs : List (List Str))
  | folder (es : List (Str × Vol))
abbrev Ents := List (Str × Vol)
abbrev Path := List Str
def rowD (r : List Str) : PyData := .tuple (r.map .str)
mutual
def Vol.data : Vol → PyData
  | .text s => .tuple [.str "text", .str s]
  | .table h rs => .tuple [.str "table", rowD h, .tuple (rs.map rowD)]
  | .folder es => .tuple [.str "folder", .tuple (entsD es)]
def entsD : List (Str × Vol) → List PyData
  | [] => []
  | (n, v) :: r => .tuple [.str n, v.data] :: entsD r
end
theorem entsD_map : ∀ es : Ents, entsD es = es.map fun p => .tuple [.str p.1, p.2.data]
  | [] => by rw [entsD]; rfl
  | (n, v) :: r => by rw [entsD, entsD_map r]; rfl
theorem eqv_tup (xs ys : List PyData) : PyData.eqv (.tuple xs) (.tuple ys) = PyData.eqvAll xs ys := by rw [PyData.eqv]
theorem eqv_strs (x y : Str) : PyData.eqv (.str x) (.str y) = decide (x = y) := by rw [PyData.eqv]; by_cases h : x = y <;> simp [h]
theorem eqvAll_cc (x y : PyData) (xs ys : List PyData) : PyData.eqvAll (x :: xs) (y :: ys) = (PyData.eqv x y && PyData.eqvAll xs ys) := by rw [PyData.eqvAll]
theorem eqvAll_nn : PyData.eqvAll [] [] = true := by rw [PyData.eqvAll]
theorem eqvAll_nc (y : PyData) (ys : List PyData) : PyData.eqvAll [] (y :: ys) = false := by rw [PyData.eqvAll]
theorem eqvAll_cn (x : PyData) (xs : List PyData) : PyData.eqvAll (x :: xs) [] = false := by rw [PyData.eqvAll]
theorem eqvAll_map {α : Type} {f : α → PyData} (hf : ∀ a b, PyData.eqv (f a) (f b) = true ↔ a = b) : ∀ xs ys : List α, PyData.eqvAll (xs.map f) (ys.map f) = true ↔ xs = ys
  | [], [] => by simp [eqvAll_nn]
  | [], y :: ys => by simp [eqvAll_nc]
  | x :: xs, [] => by simp [eqvAll_cn]
  | x :: xs, y :: ys => by
    rw [List.map_cons, List.map_cons, eqvAll_cc, Bool.and_eq_true, hf, eqvAll_map hf xs ys, List.cons.injEq]
theorem eqv_str_iff (x y : Str) : PyData.eqv (.str x) (.str y) = true ↔ x = y := by rw [eqv_strs, decide_eq_true_eq]
theorem eqv_row_iff (x y : List Str) : PyData.eqv (rowD x) (rowD y) = true ↔ x = y := by
  unfold rowD
  rw [eqv_tup]
  exact eqvAll_map eqv_str_iff x y
theorem ne_tt : ("text" : Str) ≠ "table" := by decide +kernel
theorem ne_tf : ("text" : Str) ≠ "folder" := by decide +kernel
theorem ne_bf : ("table" : Str) ≠ "folder" := by decide +kernel
def veq (a b : Vol) : Bool := PyData.eqv a.data b.data
mutual
theorem veq_iff : ∀ a b : Vol, PyData.eqv a.data b.data = true ↔ a = b
  | .text s, .text t => by
    rw [Vol.data, Vol.data, eqv_tup, eqvAll_cc, eqvAll_cc, eqvAll_nn, eqv_strs, eqv_strs]
    simp
  | .text s, .table h rs => by
    rw [Vol.data, Vol.data, eqv_tup, eqvAll_cc, eqv_strs, decide_eq_false ne_tt]
    simp
  | .text s, .folder es => by
    rw [Vol.data, Vol.data, eqv_tup, eqvAll_cc, eqv_strs, decide_eq_false ne_tf]
    simp
  | .table h rs, .text t => by
    rw [Vol.data, Vol.data, eqv_tup, eqvAll_cc, eqv_strs, decide_eq_false (Ne.symm ne_tt)]
    simp
  | .table h rs, .table h' rs' => by
    rw [Vol.data, Vol.data, eqv_tup, eqvAll_cc, eqvAll_cc, eqvAll_cc, eqvAll_nn, eqv_strs, eqv_tup, Bool.and_eq_true, Bool.and_eq_true, Bool.and_eq_true, eqv_row_iff, eqvAll_map eqv_row_iff]
    simp
  | .table h rs, .folder es => by
    rw [Vol.data, Vol.data, eqv_tup, eqvAll_cc, eqv_strs, decide_eq_false ne_bf]
    simp
  | .folder es, .text t => by
    rw [Vol.data, Vol.data, eqv_tup, eqvAll_cc, eqv_strs, decide_eq_false (Ne.symm ne_tf)]
    simp
  | .folder es, .table h rs => by
    rw [Vol.data, Vol.data, eqv_tup, eqvAll_cc, eqv_strs, decide_eq_false (Ne.symm ne_bf)]
    simp
  | .folder es, .folder es' => by
    rw [Vol.data, Vol.data, eqv_tup, eqvAll_cc, eqvAll_cc, eqvAll_nn, eqv_strs, eqv_tup, Bool.and_eq_true, Bool.and_eq_true, ents_iff es es']
    simp
theorem ents_iff : ∀ es es' : List (Str × Vol), PyData.eqvAll (entsD es) (entsD es') = true ↔ es = es'
  | [], [] => by rw [entsD, eqvAll_nn]; simp
  | [], (n, v) :: r => by rw [entsD, entsD, eqvAll_nc]; simp
  | (n, v) :: r, [] => by rw [entsD, entsD, eqvAll_cn]; simp
  | (n, v) :: r, (m, u) :: q => by
    rw [entsD, entsD, eqvAll_cc, eqv_tup, eqvAll_cc, eqvAll_cc, eqvAll_nn, eqv_strs, Bool.and_eq_true, Bool.and_eq_true, Bool.and_eq_true, veq_iff v u, ents_iff r q]
    simp
end
theorem veq_self (a : Vol) : veq a a = true := (veq_iff a a).mpr rfl
theorem veq_eq {a b : Vol} (h : veq a b = true) : a = b := (veq_iff a b).mp h
theorem veq_ne {a b : Vol} (h : veq a b = false) : a ≠ b := fun e => by rw [(veq_iff a b).mpr e |> fun (q : veq a b = true) => q] at h; cases h

/-! ### what a volume may look like -/
def okS (s : Str) : Prop := PyData.strOk s = true ∧ s.length ≤ 1000
mutual
/-- texts short, folders of at most w entries, in order -/
def Vol.Ok (w : Nat) : Vol → Prop
  | .text s => okS s
  | .table h rs => h.length ≤ 10 ∧ rs.length ≤ 10 ∧ (∀ x ∈ h, okS x) ∧ ∀ r ∈ rs, r.length ≤ 10 ∧ ∀ x ∈ r, okS x
  | .folder es => es.length ≤ w ∧ Asc (es.map (·.1)) ∧ entsOk w es
def entsOk (w : Nat) : List (Str × Vol) → Prop
  | [] => True
  | (n, v) :: r => (okS n ∧ v.Ok w) ∧ entsOk w r
end
theorem entsOk_iff {w : Nat} : ∀ {es : Ents}, entsOk w es ↔ ∀ p ∈ es, okS p.1 ∧ p.2.Ok w
  | [] => by rw [entsOk]; simp
  | (n, v) :: r => by
    rw [entsOk, entsOk_iff (es := r)]
    simp
mutual
def Vol.depth : Vol → Nat
  | .text _ => 1
  | .table _ _ => 1
  | .folder es => entsDepth es + 1
def entsDepth : List (Str × Vol) → Nat
  | [] => 0
  | (_, v) :: r => max v.depth (entsDepth r)
end
mutual
def Vol.size : Vol → Nat
  | .text _ => 1
  | .table _ _ => 1
  | .folder es => entsSize es + 1
def entsSize : List (Str × Vol) → Nat
  | [] => 0
  | (_, v) :: r => v.size + entsSize r
end
theorem depth_pos : ∀ v : Vol, 1 ≤ v.depth
  | .text _ => by rw [Vol.depth]; exact Nat.le_refl _
  | .table _ _ => by rw [Vol.depth]; exact Nat.le_refl _
  | .folder es => by rw [Vol.depth]; exact Nat.le_add_left _ _
theorem size_pos : ∀ v : Vol, 1 ≤ v.size
  | .text _ => by rw [Vol.size]; exact Nat.le_refl _
  | .table _ _ => by rw [Vol.size]; exact Nat.le_refl _
  | .folder es => by rw [Vol.size]; exact Nat.le_add_left _ _
theorem depth_mem : ∀ {es : Ents} {p : Str × Vol}, p ∈ es → p.2.depth ≤ entsDepth es
  | (n, v) :: r, p, h => by
    rw [entsDepth]
    rcases List.mem_cons.mp h with e | e
    · subst e
      exact Nat.le_max_left _ _
    · exact Nat.le_trans (depth_mem e) (Nat.le_max_right _ _)
theorem entsDepth_le {d : Nat} : ∀ {es : Ents}, (∀ p ∈ es, p.2.depth ≤ d) → entsDepth es ≤ d
  | [], _ => by rw [entsDepth]; exact Nat.zero_le _
  | (n, v) :: r, h => by
    rw [entsDepth]
    exact Nat.max_le.mpr ⟨h (n, v) List.mem_cons_self, entsDepth_le fun p hp => h p (List.mem_cons_of_mem _ hp)⟩
mutual
theorem data_depth : ∀ v : Vol, v.data.depth ≤ 3 * v.depth
  | .text s => by simp [Vol.data, Vol.depth, PyData.depth, PyData.depthAll]
  | .table h rs => by
    have h1 : ∀ l : List Str, PyData.depthAll (l.map .str) = 0 := fun l => by
      induction l with
      | nil => simp [PyData.depthAll]
      | cons x r ih => simp [PyData.depthAll, PyData.depth, ih]
    have h2 : ∀ l : List (List Str), PyData.depthAll (l.map rowD) ≤ 1 := fun l => by
      induction l with
      | nil => simp [PyData.depthAll]
      | cons x r ih =>
        rw [List.map_cons, PyData.depthAll, rowD, PyData.depth, h1]
        omega
    have := h2 rs
    rw [Vol.data, Vol.depth, PyData.depth, PyData.depthAll, PyData.depthAll, PyData.depthAll, PyData.depthAll, PyData.depth, rowD, PyData.depth, PyData.depth, h1]
    omega
  | .folder es => by
    have := ents_depth es
    rw [Vol.data, Vol.depth, PyData.depth, PyData.depthAll, PyData.depthAll, PyData.depthAll, PyData.depth, PyData.depth]
    omega
theorem ents_depth : ∀ es : List (Str × Vol), PyData.depthAll (entsD es) ≤ 3 * entsDepth es + 1
  | [] => by rw [entsD, PyData.depthAll]; omega
  | (n, v) :: r => by
    have h1 := data_depth v
    have h2 := ents_depth r
    have h3 := depth_pos v
    rw [entsD, entsDepth, PyData.depthAll, PyData.depth, PyData.depthAll, PyData.depthAll, PyData.depthAll, PyData.depth]
    omega
end
theorem lay_row {l : List Str} (h : ∀ x ∈ l, okS x) : PyData.canLayAll0 (l.map .str) = true := by
  induction l with
  | nil => simp [PyData.canLayAll0]
  | cons x r ih =>
    rw [List.map_cons, PyData.canLayAll0, PyData.canLay0, (h x List.mem_cons_self).1, ih fun y hy => h y (List.mem_cons_of_mem _ hy)]
    rfl
theorem lay_rows {l : List (List Str)} (h : ∀ r ∈ l, ∀ x ∈ r, okS x) : PyData.canLayAll0 (l.map rowD) = true := by
  induction l with
  | nil => simp [PyData.canLayAll0]
  | cons x r ih =>
    rw [List.map_cons, PyData.canLayAll0, rowD, PyData.canLay0, lay_row (h x List.mem_cons_self), ih fun y hy => h y (List.mem_cons_of_mem _ hy)]
    rfl
theorem ok_text : PyData.strOk "text" = true := by decide +kernel
theorem ok_table : PyData.strOk "table" = true := by decide +kernel
theorem ok_folder : PyData.strOk "folder" = true := by decide +kernel
mutual
theorem data_lay {w : Nat} : ∀ v : Vol, v.Ok w → v.data.canLay0 = true
  | .text s, h => by
    rw [Vol.Ok] at h
    rw [Vol.data, PyData.canLay0, PyData.canLayAll0, PyData.canLayAll0, PyData.canLayAll0, PyData.canLay0, PyData.canLay0, ok_text, h.1]
    rfl
  | .table hd rs, h => by
    rw [Vol.Ok] at h
    rw [Vol.data, PyData.canLay0, PyData.canLayAll0, PyData.canLayAll0, PyData.canLayAll0, PyData.canLayAll0, PyData.canLay0, rowD, PyData.canLay0, PyData.canLay0, ok_table, lay_row h.2.2.1, lay_rows fun r hr => (h.2.2.2 r hr).2]
    rfl
  | .folder es, h => by
    rw [Vol.Ok] at h
    rw [Vol.data, PyData.canLay0, PyData.canLayAll0, PyData.canLayAll0, PyData.canLayAll0, PyData.canLay0, PyData.canLay0, ok_folder, ents_lay es h.2.2]
    rfl
theorem ents_lay {w : Nat} : ∀ es : List (Str × Vol), entsOk w es → PyData.canLayAll0 (entsD es) = true
  | [], _ => by rw [entsD, PyData.canLayAll0]
  | (n, v) :: r, h => by
    rw [entsOk] at h
    rw [entsD, PyData.canLayAll0, PyData.canLay0, PyData.canLayAll0, PyData.canLayAll0, PyData.canLayAll0, PyData.canLay0, show PyData.strOk n = true from h.1.1.1, data_lay v h.1.2, ents_lay r h.2]
    rfl
end
/-! ### entries by name -/
def names (es : Ents) : List Str := es.map (·.1)
def look : Ents → Str → Option Vol
  | [], _ => none
  | (m, v) :: r, n => if m = n then some v else look r n
def withE (es : Ents) (n : Str) (v : Vol) : Ents := es.filter (fun p => decide (nlt p.1 n)) ++ [(n, v)] ++ es.filter (fun p => decide (nlt n p.1))
def delE (es : Ents) (n : Str) : Ents := es.filter fun p => !decide (p.1 = n)
theorem look_mem : ∀ {es : Ents} {n : Str} {v : Vol}, look es n = some v → (n, v) ∈ es
  | (m, u) :: r, n, v, h => by
    rw [look] at h
    split at h
    · rename_i e
      cases h
      subst e
      exact List.mem_cons_self
    · exact List.mem_cons_of_mem _ (look_mem h)
theorem look_none : ∀ {es : Ents} {n : Str}, look es n = none ↔ n ∉ names es
  | [], n => by simp [look, names]
  | (m, u) :: r, n => by
    rw [look]
    by_cases e : m = n
    · subst e
      simp [names]
    · rw [if_neg e, look_none (es := r)]
      simp only [names, List.map_cons, List.mem_cons, not_or]
      exact ⟨fun h => ⟨fun q => e q.symm, h⟩, fun h => h.2⟩
theorem look_some {es : Ents} {n : Str} (h : n ∈ names es) : ∃ v, look es n = some v := by
  cases e : look es n with
  | some v => exact ⟨v, rfl⟩
  | none => exact absurd h (look_none.mp e)
theorem look_in {es : Ents} {n : Str} {v : Vol} (h : look es n = some v) : n ∈ names es := List.mem_map.mpr ⟨(n, v), look_mem h, rfl⟩
theorem look_app (a b : Ents) (n : Str) : look (a ++ b) n = (look a n).or (look b n) := by
  induction a with
  | nil => simp [look]
  | cons p r ih =>
    obtain ⟨m, u⟩ := p
    rw [List.cons_append, look, look, ih]
    split <;> simp
theorem look_filter {f : Str → Bool} (es : Ents) (n : Str) : look (es.filter fun p => f p.1) n = if f n = true then look es n else none := by
  induction es with
  | nil => simp [look]
  | cons p r ih =>
    obtain ⟨m, u⟩ := p
    rw [List.filter_cons]
    by_cases e : m = n
    · subst e
      by_cases c : f m = true
      · simp [look, c]
      · rw [if_neg c, ih]
        simp [c]
    · by_cases c : f m = true
      · rw [if_pos c, look, if_neg e, ih, look, if_neg e]
      · rw [if_neg c, ih, look, if_neg e]
theorem look_withE {es : Ents} {n m : Str} {v : Vol} : look (withE es n v) m = if m = n then some v else look es m := by
  unfold withE
  rw [look_app, look_app, look_filter (f := fun x => decide (nlt x n)), look_filter (f := fun x => decide (nlt n x))]
  by_cases e : m = n
  · subst e
    simp [look, nlt_irrefl]
  · rw [if_neg e]
    have e' : ¬ n = m := fun q => e q.symm
    simp only [look, if_neg e']
    rcases nlt_tri m n with x | x | x
    · simp [x, nlt_asymm x]
    · exact absurd x e
    · simp [x, nlt_asymm x]
theorem look_delE {es : Ents} {n m : Str} : look (delE es n) m = if m = n then none else look es m := by
  unfold delE
  rw [look_filter (f := fun x => !decide (x = n))]
  by_cases e : m = n <;> simp [e]
abbrev AscE (es : Ents) : Prop := Asc (es.map (·.1))
theorem ascE_iff {es : Ents} : AscE es ↔ es.Pairwise fun p q => nlt p.1 q.1 := List.pairwise_map
theorem asc_filter {es : Ents} (f : Str × Vol → Bool) (h : AscE es) : AscE (es.filter f) := ascE_iff.mpr ((ascE_iff.mp h).filter f)
theorem asc_withE {es : Ents} {n : Str} {v : Vol} (h : AscE es) : AscE (withE es n v) := by
  refine ascE_iff.mpr ?_
  have h' := ascE_iff.mp h
  unfold withE
  refine List.pairwise_append.mpr ⟨List.pairwise_append.mpr ⟨h'.filter _, List.pairwise_singleton _ _, fun a ha b hb => ?_⟩, h'.filter _, fun a ha b hb => ?_⟩
  · have h1 := of_decide_eq_true (List.mem_filter.mp ha).2
    rw [List.mem_singleton] at hb
    subst hb
    exact h1
  · have h2 : nlt n b.1 := of_decide_eq_true (List.mem_filter.mp hb).2
    rcases List.mem_append.mp ha with q | q
    · exact nlt_trans (of_decide_eq_true (List.mem_filter.mp q).2) h2
    · rw [List.mem_singleton] at q
      subst q
      exact h2
theorem asc_delE {es : Ents} {n : Str} (h : AscE es) : AscE (delE es n) := asc_filter _ h
theorem look_head {n : Str} {v : Vol} {r : Ents} : look ((n, v) :: r) n = some v := by rw [look, if_pos rfl]
theorem look_tail {n m : Str} {v : Vol} {r : Ents} (h : ¬ n = m) : look ((n, v) :: r) m = look r m := by rw [look, if_neg h]
/-- two lists in order that answer alike are one -/
theorem asc_ext : ∀ {a b : Ents}, AscE a → AscE b → (∀ n, look a n = look b n) → a = b
  | [], [], _, _, _ => rfl
  | [], (n, v) :: r, _, _, h => by
    have := h n
    rw [look_head] at this
    simp [look] at this
  | (n, v) :: r, [], _, _, h => by
    have := h n
    rw [look_head] at this
    simp [look] at this
  | (n, v) :: r, (m, u) :: q, ha, hb, h => by
    have ha1 : ∀ x ∈ names r, nlt n x := (List.pairwise_cons.mp ha).1
    have hb1 : ∀ x ∈ names q, nlt m x := (List.pairwise_cons.mp hb).1
    have e : n = m := by
      rcases nlt_tri n m with x | x | x
      · have h1 := h n
        rw [look_head, look_tail (nlt_ne x).symm] at h1
        exact absurd (nlt_trans x (hb1 _ (look_in h1.symm))) (nlt_irrefl _)
      · exact x
      · have h1 := h m
        rw [look_head, look_tail (nlt_ne x).symm] at h1
        exact absurd (nlt_trans x (ha1 _ (look_in h1))) (nlt_irrefl _)
    subst e
    have e2 : v = u := by
      have h1 := h n
      rw [look_head, look_head] at h1
      exact Option.some.inj h1
    subst e2
    have e3 : r = q := by
      refine asc_ext (List.pairwise_cons.mp ha).2 (List.pairwise_cons.mp hb).2 fun x => ?_
      by_cases c : n = x
      · subst c
        rw [look_none.mpr fun z => nlt_irrefl _ (ha1 _ z), look_none.mpr fun z => nlt_irrefl _ (hb1 _ z)]
      · have h1 := h x
        rw [look_tail c, look_tail c] at h1
        exact h1
    rw [e3]
theorem withE_same {es : Ents} {n : Str} {v : Vol} (h : AscE es) (e : look es n = some v) : withE es n v = es :=
  asc_ext (asc_withE h) h fun m => by
    rw [look_withE]
    by_cases c : m = n
    · rw [if_pos c, c, e]
    · rw [if_neg c]
theorem withE_twice {es : Ents} {n : Str} {v u : Vol} (h : AscE es) : withE (withE es n v) n u = withE es n u :=
  asc_ext (asc_withE (asc_withE h)) (asc_withE h) fun m => by
    rw [look_withE, look_withE, look_withE]
    split <;> rfl

/-! ### places -/
def lookupV : Vol → Path → Option Vol
  | v, [] => some v
  | .folder es, n :: r => match look es n with
    | some c => lookupV c r
    | none => none
  | .text _, _ :: _ => none
  | .table _ _, _ :: _ => none
def repl : Vol → Path → Vol → Option Vol
  | _, [], new => some new
  | .folder es, [n], new => some (.folder (withE es n new))
  | .folder es, n :: m :: r, new => match look es n with
    | some c => (repl c (m :: r) new).map fun c' => .folder (withE es n c')
    | none => none
  | .text _, _ :: _, _ => none
  | .table _ _, _ :: _, _ => none
/-- as the program does it: the last name's entry is left out of its folder, which is put back -/
def remP (v : Vol) (p : Path) : Option Vol := match p.getLast?, lookupV v p, lookupV v p.dropLast with
  | some n, some _, some (.folder es) => repl v p.dropLast (.folder (delE es n))
  | _, _, _ => none
theorem repl_nil (v new : Vol) : repl v [] new = some new := by cases v <;> rw [repl]
theorem lookupV_nil (v : Vol) : lookupV v [] = some v := by cases v <;> rw [lookupV]
theorem repl_cons {es : Ents} {n : Str} {c : Vol} (e : look es n = some c) (r : Path) (new : Vol) : repl (.folder es) (n :: r) new = (repl c r new).map fun c' => .folder (withE es n c') := by
  cases r with
  | nil => rw [repl_nil, repl]; rfl
  | cons m r => rw [repl, e]
theorem lookupV_cons {es : Ents} {n : Str} {c : Vol} (e : look es n = some c) (r : Path) : lookupV (.folder es) (n :: r) = lookupV c r := by rw [lookupV, e]
theorem remP_cons {es : Ents} {n m : Str} {c : Vol} (e : look es n = some c) (r : Path) : remP (.folder es) (n :: m :: r) = (remP c (m :: r)).map fun c' => .folder (withE es n c') := by
  unfold remP
  have h1 : (n :: m :: r).getLast? = (m :: r).getLast? := by simp [List.getLast?_cons_cons]
  have h2 : (n :: m :: r).dropLast = n :: (m :: r).dropLast := by simp
  rw [h1, h2, lookupV_cons e, lookupV_cons e]
  split
  · rename_i k u es' a1 a2 a3
    rw [repl_cons e]
  · rfl
theorem remP_one {es : Ents} {n : Str} {c : Vol} (e : look es n = some c) : remP (.folder es) [n] = some (.folder (delE es n)) := by
  have h1 : lookupV (.folder es) [n] = some c := by rw [lookupV_cons e, lookupV_nil]
  unfold remP
  rw [h1]
  show (match some n, some c, lookupV (.folder es) [] with
    | some n, some _, some (.folder es) => repl (.folder es) [] (.folder (delE es n))
    | _, _, _ => none) = _
  rw [lookupV_nil]
  exact repl_nil _ _

/-! ### changes -/
inductive Chg where
  | changed (p : Path) (v : Vol)
  | removed (p : Path)
  | added (p : Path) (v : Vol)
def Chg.path : Chg → Path
  | .changed p _ => p
  | .removed p => p
  | .added p _ => p
def Chg.under (q : Path) : Chg → Chg
  | .changed p v => .changed (q ++ p) v
  | .removed p => .removed (q ++ p)
  | .added p v => .added (q ++ p) v
def Chg.proper : Chg → Prop
  | .removed p => p ≠ []
  | _ => True
theorem under_path (q : Path) (c : Chg) : (c.under q).path = q ++ c.path := by cases c <;> rfl
theorem under_under (q r : Path) (c : Chg) : (c.under r).under q = c.under (q ++ r) := by cases c <;> simp [Chg.under]
theorem under_nil (c : Chg) : c.under [] = c := by cases c <;> simp [Chg.under]
def Chg.data : Chg → PyData
  | .changed p v => .tuple [.str "changed", rowD p, v.data]
  | .removed p => .tuple [.str "removed", rowD p]
  | .added p v => .tuple [.str "added", rowD p, v.data]
def applyC : Vol → Chg → Option Vol
  | v, .removed p => remP v p
  | v, .changed p n => repl v p n
  | v, .added p n => repl v p n
def applyAll : Vol → List Chg → Option Vol
  | v, [] => some v
  | v, c :: r => match applyC v c with
    | some u => applyAll u r
    | none => none
theorem applyAll_nil (v : Vol) : applyAll v [] = some v := by rw [applyAll]
theorem applyAll_one {v u : Vol} {c : Chg} (h : applyC v c = some u) : applyAll v [c] = some u := by
  rw [applyAll, h]
  exact applyAll_nil u
theorem applyAll_app : ∀ (cs ds : List Chg) (v : Vol), applyAll v (cs ++ ds) = (applyAll v cs).bind fun u => applyAll u ds
  | [], ds, v => by rw [List.nil_append, applyAll]; rfl
  | c :: cs, ds, v => by
    rw [List.cons_append, applyAll, applyAll]
    cases applyC v c with
    | none => rfl
    | some u => exact applyAll_app cs ds u
/-- all names of either, in order -/
def union (a b : Ents) : List Str := isort (names a ++ (names b).filter fun n => !decide (n ∈ names a))
/-- what is between the entries of one name -/
def grp (rec : Vol → Vol → List Chg) (a b : Ents) (m : Str) : List Chg :=
  match look a m, look b m with
  | _, none => [.removed [m]]
  | none, some v => [.added [m] v]
  | some u, some v => (rec u v).map (Chg.under [m])
def diffAt (rec : Vol → Vol → List Chg) : Vol → Vol → List Chg
  | .folder as, .folder bs => (union as bs).flatMap (grp rec as bs)
  | _, v => [.changed [] v]
def diff : Nat → Vol → Vol → List Chg
  | 0, _, _ => []
  | n + 1, a, b => if veq a b = true then [] else diffAt (diff n) a b
theorem diff_zero (a b : Vol) : diff 0 a b = [] := rfl
theorem diff_succ (n : Nat) (a b : Vol) : diff (n + 1) a b = if veq a b = true then [] else diffAt (diff n) a b := rfl
def Vol.isF : Vol → Bool
  | .folder _ => true
  | _ => false
theorem diffAt_folders (rec : Vol → Vol → List Chg) (as bs : Ents) : diffAt rec (.folder as) (.folder bs) = (union as bs).flatMap (grp rec as bs) := rfl
theorem diffAt_other {rec : Vol → Vol → List Chg} {a b : Vol} (h : a.isF = false ∨ b.isF = false) : diffAt rec a b = [.changed [] b] := by
  cases a <;> cases b <;> simp [Vol.isF] at h <;> rfl
theorem isF_cases (a b : Vol) : (∃ as bs, a = .folder as ∧ b = .folder bs) ∨ (a.isF = false ∨ b.isF = false) := by
  cases a <;> cases b <;> simp [Vol.isF]
theorem union_perm (a b : Ents) : (union a b).Perm (names a ++ (names b).filter fun n => !decide (n ∈ names a)) := isort_perm _
theorem union_mem {a b : Ents} {m : Str} : m ∈ union a b ↔ m ∈ names a ∨ m ∈ names b := by
  rw [(union_perm a b).mem_iff, List.mem_append, List.mem_filter]
  by_cases h : m ∈ names a <;> simp [h]
theorem union_nodup {a b : Ents} (ha : AscE a) (hb : AscE b) : (union a b).Nodup := by
  refine (union_perm a b).nodup_iff.mpr (List.nodup_append.mpr ⟨asc_nodup ha, (asc_nodup hb).filter _, fun x hx y hy e => ?_⟩)
  subst e
  have := (List.mem_filter.mp hy).2
  simp at this
  exact this hx
theorem union_asc {a b : Ents} (ha : AscE a) (hb : AscE b) : Asc (union a b) := asc_of_ord (isort_ord _) (union_nodup ha hb)

theorem applyC_under {es : Ents} {m : Str} {c : Vol} (e : look es m = some c) {d : Chg} (hd : d.proper) : applyC (.folder es) (d.under [m]) = (applyC c d).map fun c' => .folder (withE es m c') := by
  cases d with
  | changed p v => exact repl_cons e p v
  | added p v => exact repl_cons e p v
  | removed p =>
    cases p with
    | nil => exact absurd rfl hd
    | cons k r => exact remP_cons e r
theorem applyAll_under : ∀ (cs : List Chg) (es : Ents) (m : Str) (c : Vol), AscE es → look es m = some c → (∀ d ∈ cs, d.proper) →
    applyAll (.folder es) (cs.map (Chg.under [m])) = (applyAll c cs).map fun c' => .folder (withE es m c')
  | [], es, m, c, ha, e, _ => by
    rw [List.map_nil, applyAll, applyAll, Option.map_some, withE_same ha e]
  | d :: cs, es, m, c, ha, e, h => by
    rw [List.map_cons, applyAll, applyAll, applyC_under e (h d List.mem_cons_self)]
    cases applyC c d with
    | none => rfl
    | some u =>
      show applyAll (.folder (withE es m u)) (cs.map (Chg.under [m])) = _
      rw [applyAll_under cs _ m u (asc_withE ha) (by rw [look_withE, if_pos rfl]) fun x hx => h x (List.mem_cons_of_mem _ hx)]
      congr 1
      funext c'
      rw [withE_twice ha]
theorem grp_removed {rec : Vol → Vol → List Chg} {a b : Ents} {m : Str} (h : look b m = none) : grp rec a b m = [.removed [m]] := by
  unfold grp; rw [h]
theorem grp_added {rec : Vol → Vol → List Chg} {a b : Ents} {m : Str} {v : Vol} (h : look a m = none) (k : look b m = some v) : grp rec a b m = [.added [m] v] := by
  unfold grp; rw [h, k]
theorem grp_both {rec : Vol → Vol → List Chg} {a b : Ents} {m : Str} {u v : Vol} (h : look a m = some u) (k : look b m = some v) : grp rec a b m = (rec u v).map (Chg.under [m]) := by
  unfold grp; rw [h, k]
theorem diff_proper : ∀ (n : Nat) (a b : Vol), ∀ d ∈ diff n a b, d.proper
  | 0, a, b, d, h => by rw [diff_zero] at h; cases h
  | n + 1, a, b, d, h => by
    rw [diff_succ] at h
    split at h
    · cases h
    · rcases isF_cases a b with ⟨as, bs, rfl, rfl⟩ | ho
      · rw [diffAt_folders] at h
        obtain ⟨m, hm, hd⟩ := List.mem_flatMap.mp h
        cases h2 : look bs m with
        | none =>
          rw [grp_removed h2, List.mem_singleton] at hd
          subst hd
          exact List.cons_ne_nil _ _
        | some v =>
          cases h1 : look as m with
          | none =>
            rw [grp_added h1 h2, List.mem_singleton] at hd
            subst hd
            trivial
          | some u =>
            rw [grp_both h1 h2] at hd
            obtain ⟨c, hc, rfl⟩ := List.mem_map.mp hd
            cases c with
            | removed p => exact List.cons_ne_nil _ _
            | changed p v => trivial
            | added p v => trivial
      · rw [diffAt_other ho, List.mem_singleton] at h
        subst h
        trivial
/-- in order all the way down -/
def Vol.Wf (v : Vol) : Prop := ∃ w, v.Ok w
theorem wf_ents {es : Ents} (h : (Vol.folder es).Wf) : AscE es ∧ ∀ p ∈ es, p.2.Wf := by
  obtain ⟨w, h⟩ := h
  rw [Vol.Ok] at h
  exact ⟨h.2.1, fun p hp => ⟨w, (entsOk_iff.mp h.2.2 p hp).2⟩⟩
theorem loop_apply {as bs : Ents} {rec : Vol → Vol → List Chg} (hp : ∀ u v, ∀ d ∈ rec u v, d.proper) (hr : ∀ m u v, look as m = some u → look bs m = some v → applyAll u (rec u v) = some v) :
    ∀ (ms : List Str) (es : Ents), ms.Nodup → AscE es → (∀ m ∈ ms, look es m = look as m ∧ (m ∈ names as ∨ m ∈ names bs)) →
    ∃ es', applyAll (.folder es) (ms.flatMap (grp rec as bs)) = some (.folder es') ∧ AscE es' ∧ ∀ m, look es' m = if m ∈ ms then look bs m else look es m
  | [], es, _, ha, _ => ⟨es, by rw [List.flatMap_nil, applyAll], ha, fun m => by simp⟩
  | m :: ms, es, hn, ha, h => by
    have hm := h m List.mem_cons_self
    have hnm : m ∉ ms := (List.nodup_cons.mp hn).1
    obtain ⟨es1, h1, a1, l1⟩ : ∃ es1, applyAll (.folder es) (grp rec as bs m) = some (.folder es1) ∧ AscE es1 ∧ ∀ k, look es1 k = if k = m then look bs m else look es k := by
      cases h2 : look bs m with
      | none =>
        have hma : m ∈ names as := by
          rcases hm.2 with q | q
          · exact q
          · exact absurd q (look_none.mp h2)
        obtain ⟨u, hu⟩ := look_some hma
        rw [grp_removed h2]
        refine ⟨delE es m, ?_, asc_delE ha, fun k => by rw [look_delE]⟩
        exact applyAll_one (remP_one (hm.1.trans hu))
      | some v =>
        cases h3 : look as m with
        | none =>
          rw [grp_added h3 h2]
          refine ⟨withE es m v, ?_, asc_withE ha, fun k => by rw [look_withE]⟩
          exact applyAll_one (by rw [applyC, repl])
        | some u =>
          rw [grp_both h3 h2]
          refine ⟨withE es m v, ?_, asc_withE ha, fun k => by rw [look_withE]⟩
          rw [applyAll_under _ es m u ha (hm.1.trans h3) (hp u v), hr m u v h3 h2]
          rfl
    obtain ⟨es', h4, a4, l4⟩ := loop_apply hp hr ms es1 (List.nodup_cons.mp hn).2 a1 fun k hk => by
      have hk' := h k (List.mem_cons_of_mem _ hk)
      refine ⟨?_, hk'.2⟩
      rw [l1, if_neg fun (e : k = m) => hnm (e ▸ hk)]
      exact hk'.1
    refine ⟨es', ?_, a4, fun k => ?_⟩
    · rw [List.flatMap_cons, applyAll_app, h1]
      exact h4
    · rw [l4, l1]
      by_cases c1 : k = m
      · subst c1
        simp [hnm]
      · by_cases c2 : k ∈ ms <;> simp [c1, c2]
/-- APPLIED, the changes give the second volume -/
theorem apply_diff : ∀ (n : Nat) (a b : Vol), a.depth ≤ n → a.Wf → b.Wf → applyAll a (diff n a b) = some b
  | 0, a, b, h, _, _ => absurd h (by have := depth_pos a; omega)
  | n + 1, a, b, h, ha, hb => by
    rw [diff_succ]
    by_cases c : veq a b = true
    · rw [if_pos c, applyAll, veq_eq c]
    · rw [if_neg c]
      rcases isF_cases a b with ⟨as, bs, rfl, rfl⟩ | ho
      · rw [diffAt_folders]
        obtain ⟨a1, a2⟩ := wf_ents ha
        obtain ⟨b1, b2⟩ := wf_ents hb
        rw [Vol.depth] at h
        obtain ⟨es', h1, h2, h3⟩ := loop_apply (as := as) (bs := bs) (rec := diff n) (fun u v => diff_proper n u v)
          (fun m u v hu hv => apply_diff n u v (Nat.le_trans (depth_mem (look_mem hu)) (by omega)) (a2 _ (look_mem hu)) (b2 _ (look_mem hv)))
          (union as bs) as (union_nodup a1 b1) a1 fun m hm => ⟨rfl, union_mem.mp hm⟩
        rw [h1]
        have e : es' = bs := asc_ext h2 b1 fun m => by
          rw [h3]
          by_cases q : m ∈ union as bs
          · rw [if_pos q]
          · have q' : m ∉ names as ∧ m ∉ names bs := not_or.mp fun z => q (union_mem.mpr z)
            rw [if_neg q, look_none.mpr q'.1, look_none.mpr q'.2]
        rw [e]
      · rw [diffAt_other ho]
        exact applyAll_one (repl_nil a b)
theorem diff_self (n : Nat) (a : Vol) : diff n a a = [] := by
  cases n with
  | zero => rfl
  | succ n => rw [diff_succ, if_pos (veq_self a)]
/-- no change exactly for equal volumes -/
theorem diff_nil {n : Nat} {a b : Vol} (h : a.depth ≤ n) (ha : a.Wf) (hb : b.Wf) : diff n a b = [] ↔ a = b := by
  constructor
  · intro e
    have := apply_diff n a b h ha hb
    rw [e, applyAll] at this
    exact Option.some.inj this
  · intro e
    rw [e, diff_self]

/-! ### no path begins with another one -/
def Apart (c d : Chg) : Prop := ¬ c.path <+: d.path ∧ ¬ d.path <+: c.path
theorem apart_under (q : Path) {c d : Chg} (h : Apart c d) : Apart (c.under q) (d.under q) := by
  unfold Apart at h ⊢
  rw [under_path, under_path, List.prefix_append_right_inj, List.prefix_append_right_inj]
  exact h
theorem grp_head {rec : Vol → Vol → List Chg} {a b : Ents} {m : Str} {c : Chg} (h : c ∈ grp rec a b m) : ∃ r, c.path = m :: r := by
  cases h2 : look b m with
  | none =>
    rw [grp_removed h2, List.mem_singleton] at h
    subst h
    exact ⟨[], rfl⟩
  | some v =>
    cases h1 : look a m with
    | none =>
      rw [grp_added h1 h2, List.mem_singleton] at h
      subst h
      exact ⟨[], rfl⟩
    | some u =>
      rw [grp_both h1 h2] at h
      obtain ⟨d, hd, rfl⟩ := List.mem_map.mp h
      exact ⟨d.path, under_path _ _⟩
theorem apart_heads {c d : Chg} {m k : Str} {r s : Path} (hc : c.path = m :: r) (hd : d.path = k :: s) (h : m ≠ k) : Apart c d := by
  unfold Apart
  rw [hc, hd, List.cons_prefix_cons, List.cons_prefix_cons]
  exact ⟨fun q => h q.1, fun q => h q.1.symm⟩
theorem diff_apart : ∀ (n : Nat) (a b : Vol), a.Wf → b.Wf → (diff n a b).Pairwise Apart
  | 0, a, b, _, _ => by rw [diff_zero]; exact List.Pairwise.nil
  | n + 1, a, b, ha, hb => by
    rw [diff_succ]
    split
    · exact List.Pairwise.nil
    · rcases isF_cases a b with ⟨as, bs, rfl, rfl⟩ | ho
      · obtain ⟨a1, a2⟩ := wf_ents ha
        obtain ⟨b1, b2⟩ := wf_ents hb
        rw [diffAt_folders]
        refine List.pairwise_flatMap.mpr ⟨fun m hm => ?_, (union_nodup a1 b1).imp fun {m k} h x hx y hy => ?_⟩
        · cases h2 : look bs m with
          | none =>
            rw [grp_removed h2]
            exact List.pairwise_singleton _ _
          | some v =>
            cases h1 : look as m with
            | none =>
              rw [grp_added h1 h2]
              exact List.pairwise_singleton _ _
            | some u =>
              rw [grp_both h1 h2, List.pairwise_map]
              exact (diff_apart n u v (a2 _ (look_mem h1)) (b2 _ (look_mem h2))).imp fun h => apart_under _ h
        · obtain ⟨r, hr⟩ := grp_head hx
          obtain ⟨t, ht⟩ := grp_head hy
          exact apart_heads hr ht h
      · rw [diffAt_other ho]
        exact List.pairwise_singleton _ _
/-- what the law asks of each two changes -/
theorem diff_take {n : Nat} {a b : Vol} (p : Path) (ha : a.Wf) (hb : b.Wf) {i j : Nat} {c d : Chg} (hij : i ≠ j) (hi : (diff n a b)[i]? = some c) (hj : (diff n a b)[j]? = some d) : d.path.take c.path.length ≠ c.path := fun e => by
  have hp : c.path <+: d.path := List.prefix_iff_eq_take.mpr e.symm
  have pw := List.pairwise_iff_getElem.mp (diff_apart n a b ha hb)
  obtain ⟨li, rfl⟩ := List.getElem?_eq_some_iff.mp hi
  obtain ⟨lj, rfl⟩ := List.getElem?_eq_some_iff.mp hj
  rcases Nat.lt_or_ge i j with q | q
  · exact (pw i j li lj q).1 hp
  · exact (pw j i lj li (by omega)).2 hp

/-! ### the law's own list: the names of both folders, one behind the other, sorted; a name of both stands twice -/
def dup1 (a b : Ents) (m : Str) : List Str := if m ∈ names a ∧ m ∈ names b then [m, m] else [m]
def lastN (found : List Chg) : Option Str := found.getLast?.bind fun c => c.path.head?
def lstep (rec : Vol → Vol → List Chg) (a b : Ents) (found : List Chg) (m : Str) : List Chg :=
  match look a m, look b m with
  | _, none => found ++ [.removed [m]]
  | none, some v => found ++ [.added [m] v]
  | some u, some v => if lastN found = some m then found else found ++ (rec u v).map (Chg.under [m])
theorem lstep_removed {rec : Vol → Vol → List Chg} {a b : Ents} {found : List Chg} {m : Str} (h : look b m = none) : lstep rec a b found m = found ++ [.removed [m]] := by
  unfold lstep; rw [h]
theorem lstep_added {rec : Vol → Vol → List Chg} {a b : Ents} {found : List Chg} {m : Str} {v : Vol} (h : look a m = none) (k : look b m = some v) : lstep rec a b found m = found ++ [.added [m] v] := by
  unfold lstep; rw [h, k]
theorem lstep_both {rec : Vol → Vol → List Chg} {a b : Ents} {found : List Chg} {m : Str} {u v : Vol} (h : look a m = some u) (k : look b m = some v) :
    lstep rec a b found m = if lastN found = some m then found else found ++ (rec u v).map (Chg.under [m]) := by
  unfold lstep; rw [h, k]
theorem lstep_more (rec : Vol → Vol → List Chg) (a b : Ents) (found : List Chg) (m : Str) : found.length ≤ (lstep rec a b found m).length := by
  unfold lstep
  split <;> (try split) <;> simp
theorem lfold_more (rec : Vol → Vol → List Chg) (a b : Ents) : ∀ (ms : List Str) (found : List Chg), found.length ≤ (ms.foldl (lstep rec a b) found).length
  | [], _ => Nat.le_refl _
  | m :: ms, found => Nat.le_trans (lstep_more rec a b found m) (lfold_more rec a b ms _)
theorem lastN_app {found g : List Chg} {m : Str} (h : ∀ c ∈ g, ∃ r, c.path = m :: r) : lastN (found ++ g) = if g = [] then lastN found else some m := by
  by_cases e : g = []
  · subst e
    simp
  · rw [if_neg e]
    unfold lastN
    obtain ⟨c, hc⟩ : ∃ c, g.getLast? = some c := ⟨g.getLast e, List.getLast?_eq_some_getLast e⟩
    rw [List.getLast?_append, hc]
    obtain ⟨r, hr⟩ := h c (List.mem_of_getLast? hc)
    simp [hr]
theorem lfold_eq {rec : Vol → Vol → List Chg} {a b : Ents} : ∀ (ms : List Str) (found : List Chg), ms.Nodup → (∀ m ∈ ms, (m ∈ names a ∨ m ∈ names b) ∧ lastN found ≠ some m) →
    (ms.flatMap (dup1 a b)).foldl (lstep rec a b) found = found ++ ms.flatMap (grp rec a b)
  | [], found, _, _ => by simp
  | m :: ms, found, hn, h => by
    obtain ⟨hm1, hm2⟩ := h m List.mem_cons_self
    have hnm : m ∉ ms := (List.nodup_cons.mp hn).1
    have key : (dup1 a b m).foldl (lstep rec a b) found = found ++ grp rec a b m := by
      cases h2 : look b m with
      | none =>
        have hb : m ∉ names b := look_none.mp h2
        rw [dup1, if_neg fun z => hb z.2, grp_removed h2, List.foldl_cons, List.foldl_nil, lstep_removed h2]
      | some v =>
        cases h1 : look a m with
        | none =>
          have ha : m ∉ names a := look_none.mp h1
          rw [dup1, if_neg fun z => ha z.1, grp_added h1 h2, List.foldl_cons, List.foldl_nil, lstep_added h1 h2]
        | some u =>
          rw [dup1, if_pos ⟨look_in h1, look_in h2⟩, grp_both h1 h2, List.foldl_cons, List.foldl_cons, List.foldl_nil, lstep_both h1 h2, lstep_both h1 h2, if_neg hm2,
            lastN_app (m := m) fun c hc => by
              obtain ⟨d, _, rfl⟩ := List.mem_map.mp hc
              exact ⟨d.path, under_path _ _⟩]
          by_cases e : (rec u v).map (Chg.under [m]) = []
          · rw [if_pos e, if_neg hm2, e]
            simp
          · rw [if_neg e, if_pos rfl]
    rw [List.flatMap_cons, List.foldl_append, key, List.flatMap_cons, ← List.append_assoc]
    refine lfold_eq ms _ (List.nodup_cons.mp hn).2 fun k hk => ⟨(h k (List.mem_cons_of_mem _ hk)).1, ?_⟩
    rw [lastN_app (m := m) fun c hc => grp_head hc]
    split
    · exact (h k (List.mem_cons_of_mem _ hk)).2
    · intro e
      cases e
      exact hnm hk
theorem flatMap_perm {f : Str → List Str} {l m : List Str} (p : l.Perm m) : (l.flatMap f).Perm (m.flatMap f) := by
  induction p with
  | nil => exact List.Perm.refl _
  | cons x _ ih => rw [List.flatMap_cons, List.flatMap_cons]; exact ih.append_left _
  | swap x y l => rw [List.flatMap_cons, List.flatMap_cons, List.flatMap_cons, List.flatMap_cons, ← List.append_assoc, ← List.append_assoc]; exact List.perm_append_comm.append_right _
  | trans _ _ h1 h2 => exact h1.trans h2
theorem dup_none {a b : Ents} : ∀ {l : List Str}, (∀ m ∈ l, ¬ (m ∈ names a ∧ m ∈ names b)) → l.flatMap (dup1 a b) = l
  | [], _ => rfl
  | m :: l, h => by
    rw [List.flatMap_cons, dup1, if_neg (h m List.mem_cons_self), dup_none fun k hk => h k (List.mem_cons_of_mem _ hk)]
    rfl
theorem dup_some {a b : Ents} : ∀ {l : List Str}, (∀ m ∈ l, m ∈ names a) → (l.flatMap (dup1 a b)).Perm (l ++ l.filter fun m => decide (m ∈ names b))
  | [], _ => List.Perm.refl _
  | m :: l, h => by
    have ih := dup_some (a := a) (b := b) (l := l) fun k hk => h k (List.mem_cons_of_mem _ hk)
    rw [List.flatMap_cons, List.filter_cons]
    by_cases c : m ∈ names b
    · rw [dup1, if_pos ⟨h m List.mem_cons_self, c⟩, if_pos (decide_eq_true c)]
      have e : ([m, m] : List Str) ++ l.flatMap (dup1 a b) = m :: m :: l.flatMap (dup1 a b) := rfl
      rw [e, List.cons_append]
      exact ((ih.cons m).trans List.perm_middle.symm).cons m
    · rw [dup1, if_neg fun z => c z.2, if_neg (by simp [c])]
      exact ih.cons m
theorem dup_ord {a b : Ents} {l : List Str} (h : Asc l) : Ord (l.flatMap (dup1 a b)) := by
  refine List.pairwise_flatMap.mpr ⟨fun m _ => ?_, h.imp fun {m k} q x hx y hy => ?_⟩
  · unfold dup1
    split
    · exact List.pairwise_cons.mpr ⟨fun z hz => by rw [List.mem_singleton] at hz; subst hz; exact nlt_irrefl _, List.pairwise_singleton _ _⟩
    · exact List.pairwise_singleton _ _
  · have e1 : x = m := by
      unfold dup1 at hx
      split at hx <;> simpa using hx
    have e2 : y = k := by
      unfold dup1 at hy
      split at hy <;> simpa using hy
    rw [e1, e2]
    exact nlt_asymm q
theorem both_sorted {a b : Ents} (ha : AscE a) (hb : AscE b) : isort (names a ++ names b) = (union a b).flatMap (dup1 a b) := by
  refine (isort_of ?_ (dup_ord (union_asc ha hb))).symm
  refine (flatMap_perm (union_perm a b)).trans ?_
  rw [List.flatMap_append, dup_none (l := (names b).filter _) fun m hm z => by
    have := (List.mem_filter.mp hm).2
    simp at this
    exact this z.1]
  refine ((dup_some fun m hm => hm).append_right _).trans ?_
  rw [List.append_assoc]
  refine List.Perm.append_left _ ?_
  have p : ((names a).filter fun m => decide (m ∈ names b)).Perm ((names b).filter fun m => decide (m ∈ names a)) :=
    (List.perm_ext_iff_of_nodup ((asc_nodup ha).filter _) ((asc_nodup hb).filter _)).mpr fun m => by
      rw [List.mem_filter, List.mem_filter, decide_eq_true_eq, decide_eq_true_eq]
      exact And.comm
  exact (p.append_right _).trans (List.filter_append_perm (fun m => decide (m ∈ names a)) (names b))
/-- the law's list is the program's -/
theorem law_list {rec : Vol → Vol → List Chg} {a b : Ents} (ha : AscE a) (hb : AscE b) : (isort (names a ++ names b)).foldl (lstep rec a b) [] = (union a b).flatMap (grp rec a b) := by
  rw [both_sorted ha hb, lfold_eq _ _ (union_nodup ha hb) fun m hm => ⟨union_mem.mp hm, by simp [lastN]⟩, List.nil_append]
/-- the part of a path that the law looks at -/
theorem take_head (p q : Path) (m : Str) : (p ++ q).take (p.length + 1) = p ++ [m] ↔ q.head? = some m := by
  rw [List.take_length_add_append]
  cases q with
  | nil => simp
  | cons x r => simp

/-! ### how many changes -/
def sizeO : Option Vol → Nat
  | some v => v.size
  | none => 0
theorem sum_le {f g : Str → Nat} : ∀ (l : List Str), (∀ m ∈ l, f m ≤ g m) → (l.map f).sum ≤ (l.map g).sum
  | [], _ => Nat.le_refl _
  | m :: l, h => by
    rw [List.map_cons, List.map_cons, List.sum_cons, List.sum_cons]
    exact Nat.add_le_add (h m List.mem_cons_self) (sum_le l fun k hk => h k (List.mem_cons_of_mem _ hk))
theorem sum_two (f g : Str → Nat) : ∀ (l : List Str), (l.map fun m => f m + g m).sum = (l.map f).sum + (l.map g).sum
  | [] => rfl
  | m :: l => by
    rw [List.map_cons, List.map_cons, List.map_cons, List.sum_cons, List.sum_cons, List.sum_cons, sum_two f g l]
    omega
theorem sum_one (k : Str) (s : Nat) : ∀ (l : List Str), l.Nodup → (l.map fun m => if k = m then s else 0).sum ≤ s
  | [], _ => Nat.zero_le _
  | m :: l, h => by
    rw [List.map_cons, List.sum_cons]
    by_cases e : k = m
    · subst e
      have : (l.map fun m => if k = m then s else 0).sum = 0 := by
        have hn := (List.nodup_cons.mp h).1
        clear h
        induction l with
        | nil => rfl
        | cons x r ih =>
          rw [List.map_cons, List.sum_cons, if_neg (show ¬ k = x from fun z => hn (by rw [z]; exact List.mem_cons_self)), ih fun z => hn (List.mem_cons_of_mem _ z)]
      rw [if_pos rfl, this]
      exact Nat.le_refl _
    · rw [if_neg e, Nat.zero_add]
      exact sum_one k s l (List.nodup_cons.mp h).2
theorem sum_sizes : ∀ (es : Ents) (l : List Str), l.Nodup → (l.map fun m => sizeO (look es m)).sum ≤ entsSize es
  | [], l, _ => by
    have : (l.map fun m => sizeO (look [] m)).sum = 0 := by
      induction l with
      | nil => rfl
      | cons x r ih => rw [List.map_cons, List.sum_cons, ih (by rename_i h; exact (List.nodup_cons.mp h).2)]; rfl
    rw [this]
    exact Nat.zero_le _
  | (k, v) :: r, l, h => by
    rw [entsSize]
    have h1 : (l.map fun m => sizeO (look ((k, v) :: r) m)).sum ≤ (l.map fun m => (if k = m then v.size else 0) + sizeO (look r m)).sum := by
      refine sum_le l fun m _ => ?_
      rw [look]
      by_cases e : k = m
      · rw [if_pos e, if_pos e]
        exact Nat.le_add_right _ _
      · rw [if_neg e, if_neg e, Nat.zero_add]
        exact Nat.le_refl _
    rw [sum_two] at h1
    exact Nat.le_trans h1 (Nat.add_le_add (sum_one k v.size l h) (sum_sizes r l h))
theorem diff_length : ∀ (n : Nat) (a b : Vol), a.Wf → b.Wf → (diff n a b).length ≤ a.size + b.size
  | 0, a, b, _, _ => by rw [diff_zero]; exact Nat.zero_le _
  | n + 1, a, b, ha, hb => by
    have := size_pos a
    rw [diff_succ]
    split
    · exact Nat.zero_le _
    · rcases isF_cases a b with ⟨as, bs, rfl, rfl⟩ | ho
      · obtain ⟨a1, a2⟩ := wf_ents ha
        obtain ⟨b1, b2⟩ := wf_ents hb
        rw [diffAt_folders, List.length_flatMap, Vol.size, Vol.size]
        have h1 : ((union as bs).map fun m => (grp (diff n) as bs m).length).sum ≤ ((union as bs).map fun m => sizeO (look as m) + sizeO (look bs m)).sum := by
          refine sum_le _ fun m hm => ?_
          cases h2 : look bs m with
          | none =>
            rcases union_mem.mp hm with q | q
            · obtain ⟨u, hu⟩ := look_some q
              rw [grp_removed h2, hu]
              exact size_pos u
            · exact absurd q (look_none.mp h2)
          | some v =>
            cases h3 : look as m with
            | none =>
              rw [grp_added h3 h2]
              exact Nat.le_trans (size_pos v) (Nat.le_add_left _ _)
            | some u =>
              rw [grp_both h3 h2, List.length_map]
              exact diff_length n u v (a2 _ (look_mem h3)) (b2 _ (look_mem h2))
        rw [sum_two] at h1
        have h2 := sum_sizes as (union as bs) (union_nodup a1 b1)
        have h3 := sum_sizes bs (union as bs) (union_nodup a1 b1)
        omega
      · rw [diffAt_other ho]
        show 1 ≤ a.size + b.size
        omega
end Sc

/-! list(zip(xs, ys)) of two lists -/
namespace ZL
open PySem PySem.W PySem.Calls PyProof.Rows PyProof.V PySem.Spec
theorem nolen_zip : typeLookup (.type "zip") "__len__" = pure none := by rw [typeLookup_type, builtinLookup_eq_fast]; kernel_rfl
theorem nohint_zip : typeLookup (.type "zip") "__length_hint__" = pure none := by rw [typeLookup_type, builtinLookup_eq_fast]; kernel_rfl
structure ZilG (xs ys : Array Value) (lo : Addr) (h : Heap) (as : List Addr) : Prop where
  rise : as.Pairwise (· < ·)
  above : ∀ a ∈ as, lo < a
  pairs : ∀ (j : Nat) (a : Addr), as[j]? = some a → ∃ x y, xs[j]? = some x ∧ ys[j]? = some y ∧ IsPair h a x y
theorem ZilG.there {xs ys : Array Value} {lo : Addr} {h : Heap} {as : List Addr} (g : ZilG xs ys lo h as) {a : Addr} (ha : a ∈ as) : a < h.objs.size := by
  obtain ⟨j, hj⟩ := List.mem_iff_getElem?.mp ha
  obtain ⟨_, _, _, _, e⟩ := g.pairs j a hj
  exact Heap.lt_size e
theorem ZilG.low {xs ys : Array Value} {lo lo' : Addr} {h : Heap} {as : List Addr} (g : ZilG xs ys lo h as) (hl : lo' ≤ lo) : ZilG xs ys lo' h as := ⟨g.rise, fun a ha => Nat.lt_of_le_of_lt hl (g.above a ha), g.pairs⟩
/-- the zip ahead of its item i -/
structure KzSt (h : Heap) (z TI TO i1 i2 l1 l2 S : Addr) (xs ys : Array Value) (i : Nat) : Prop where
  ti : IsPair h TI (.ref i1) (.ref i2)
  it1 : h.IsListIter i1 l1 i
  it2 : h.IsListIter i2 l2 i
  li1 : h.IsList l1 xs
  li2 : h.IsList l2 ys
  out : (IsZip h z TI TO .none ∧ ∃ a b, IsPair h TO a b) ∨ ∃ T f oT, IsZipHeld h z TI TO T f ∧ h.get? T = some oT ∧ T ≠ S
theorem isList_at {h h' : Heap} {l : Addr} {xs : Array Value} (x : h.IsList l xs) (k : ∀ o, h.get? l = some o → h'.get? l = some o) : h'.IsList l xs := by
  obtain ⟨o, ho, r⟩ := x
  exact ⟨o, k o ho, r⟩
theorem isIter_at {h h' : Heap} {i l : Addr} {n : Nat} (x : h.IsListIter i l n) (k : ∀ o, h.get? i = some o → h'.get? i = some o) : h'.IsListIter i l n := by
  obtain ⟨o, ho, r⟩ := x
  exact ⟨o, k o ho, r⟩
section
variable {prog : Program} {w : World} {A : Around} {E : Value → Shared → Prop} {s : Shared} {z TI TO i1 i2 l1 l2 S : Addr} {xs ys : Array Value} {i : Nat}
theorem kz_item {x y : Value} {Q : Option Value → Shared → Prop} (D : ZipApart z TI TO i1 i2 l1 l2) (st : KzSt s.heap z TI TO i1 i2 l1 l2 S xs ys i) (hS : S < s.heap.objs.size) (hx : xs[i]? = some x) (hy : ys[i]? = some y)
    (hQ : ∀ h', KzSt h' z TI TO i1 i2 l1 l2 S xs ys (i + 1) → IsPair h' s.heap.objs.size x y → h'.objs.size = s.heap.objs.size + 1 →
      (∀ c o, c ≠ z → c ≠ TO → c ≠ i1 → c ≠ i2 → s.heap.get? c = some o → h'.get? c = some o) → Q (some (.ref s.heap.objs.size)) { s with heap := h' }) :
    wpAny (model prog w) A (pyNext (.ref z)) Q E s := by
  rcases st.out with ⟨hz, a, b, hTO⟩ | ⟨T, f, oT, hz, hT, hTS⟩
  · refine wpAny_pyNext_zip_item D hz st.ti hTO st.it1 st.it2 st.li1 st.li2 hx hy fun h' a1 a2 a3 a4 a5 a6 a7 => ?_
    refine hQ h' ⟨a7 _ _ D.TIz D.TITO D.TIi1 D.TIi2 st.ti, a3, a4, isList_at st.li1 fun o e => a7 _ o D.l1z D.l1TO D.l1i1 D.l1i2 e, isList_at st.li2 fun o e => a7 _ o D.l2z D.l2TO D.l2i1 D.l2i2 e, .inr ⟨_, false, _, a1, a5, Nat.ne_of_gt hS⟩⟩ a5 a6 a7
  · refine wpAny_pyNext_zip_item_held D hz hT st.ti st.it1 st.it2 st.li1 st.li2 hx hy fun h' a1 a3 a4 a5 a6 a7 => ?_
    refine hQ h' ⟨a7 _ _ D.TIz D.TIi1 D.TIi2 st.ti, a3, a4, isList_at st.li1 fun o e => a7 _ o D.l1z D.l1i1 D.l1i2 e, isList_at st.li2 fun o e => a7 _ o D.l2z D.l2i1 D.l2i2 e, .inr ⟨T, true, ?_, a1, ?_, hTS⟩⟩ a5 a6 fun c o c1 _ c3 c4 e => a7 c o c1 c3 c4 e
    · by_cases e1 : T = z
      · exact { cls := .type "zip", dict := none, data := .fields #[rawInt T, .bool true, .bool false, .ref TI, .ref TO], slots := #[] }
      · by_cases e2 : T = i1
        · exact Classical.choose a3
        · by_cases e3 : T = i2
          · exact Classical.choose a4
          · exact oT
    · by_cases e1 : T = z
      · rw [dif_pos e1]
        have a1' := a1
        unfold IsZipHeld at a1'
        exact (congrArg h'.get? e1).trans a1'
      · rw [dif_neg e1]
        by_cases e2 : T = i1
        · rw [dif_pos e2]
          exact (congrArg h'.get? e2).trans (Classical.choose_spec a3).1
        · rw [dif_neg e2]
          by_cases e3 : T = i2
          · rw [dif_pos e3]
            exact (congrArg h'.get? e3).trans (Classical.choose_spec a4).1
          · rw [dif_neg e3]
            exact a7 T oT e1 e2 e3 hT
theorem kz_done {Q : Option Value → Shared → Prop} (hh : A.handled = none) (D : ZipApart z TI TO i1 i2 l1 l2) (st : KzSt s.heap z TI TO i1 i2 l1 l2 S xs ys i) (hend : xs[i]? = none ∨ ys[i]? = none)
    (hQ : ∀ h', (∀ c o, c ≠ z → c ≠ TO → c ≠ i1 → c ≠ i2 → s.heap.get? c = some o → h'.get? c = some o) → Q none { s with heap := h' }) : wpAny (model prog w) A (pyNext (.ref z)) Q E s := by
  rcases st.out with ⟨hz, a, b, hTO⟩ | ⟨T, f, oT, hz, hT, hTS⟩
  · exact wpAny_pyNext_zip_end hh D hz st.ti hTO st.it1 st.it2 st.li1 st.li2 hend hQ
  · exact wpAny_pyNext_zip_end_held hh D hz hT st.ti st.it1 st.it2 st.li1 st.li2 hend fun h' k => hQ h' fun c o c1 _ c3 c4 e => k c o c1 c3 c4 e
end

/-- the list that grows stands apart from the zip and its parts -/
structure Off (S z TI TO i1 i2 l1 l2 : Addr) : Prop where
  z : z ≠ S
  ti : TI ≠ S
  to : TO ≠ S
  i1 : i1 ≠ S
  i2 : i2 ≠ S
  l1 : l1 ≠ S
  l2 : l2 ≠ S
theorem KzSt.up {h h' : Heap} {z TI TO i1 i2 l1 l2 S : Addr} {xs ys : Array Value} {i : Nat} (st : KzSt h z TI TO i1 i2 l1 l2 S xs ys i) (o : Off S z TI TO i1 i2 l1 l2) (k : ∀ b u, b ≠ S → h.get? b = some u → h'.get? b = some u) : KzSt h' z TI TO i1 i2 l1 l2 S xs ys i := by
  refine ⟨k _ _ o.ti st.ti, isIter_at st.it1 fun u e => k _ u o.i1 e, isIter_at st.it2 fun u e => k _ u o.i2 e, isList_at st.li1 fun u e => k _ u o.l1 e, isList_at st.li2 fun u e => k _ u o.l2 e, ?_⟩
  rcases st.out with ⟨hz, a, b, hTO⟩ | ⟨T, f, oT, hz, hT, hTS⟩
  · exact .inl ⟨k _ _ o.z hz, a, b, k _ _ o.to hTO⟩
  · exact .inr ⟨T, f, oT, k _ _ o.z hz, k _ _ hTS hT, hTS⟩
section
variable {prog : Program} {w : World} {A : Around} {s : Shared} {R : Result → Shared → Prop} {z TI TO i1 i2 l1 l2 S : Addr} {xs ys : Array Value}
theorem zil_loop (hh : A.handled = none) (D : ZipApart z TI TO i1 i2 l1 l2) (o : Off S z TI TO i1 i2 l1 l2) (hzS : z < S) (hn : min xs.size ys.size ≤ sizeLine) (res : Value) {h₁ : Heap}
    (hR : ∀ h' tk acc c as, (∀ b u, b ≠ S → b ≠ z → b ≠ TO → b ≠ i1 → b ≠ i2 → h₁.get? b = some u → h'.get? b = some u) → h'.get? S = some { cls := .type "list", dict := none, data := .seq acc c, slots := #[] } → as.length = min xs.size ys.size → ZilG xs ys S h' as →
      acc.toList = as.map Value.ref → R (.ok (.ret res)) { s with heap := h', toks := tk }) :
    ∀ (k i : Nat) (h : Heap) (tk c : Nat) (acc : Array Value) (as : List Addr), min xs.size ys.size - i = k → i ≤ min xs.size ys.size → KzSt h z TI TO i1 i2 l1 l2 S xs ys i → (∀ b u, b ≠ S → b ≠ z → b ≠ TO → b ≠ i1 → b ≠ i2 → h₁.get? b = some u → h.get? b = some u) →
      h.get? S = some { cls := .type "list", dict := none, data := .seq acc c, slots := #[] } → acc.toList = as.map Value.ref → as.length = i → ZilG xs ys S h as → TO < S → i1 < S → i2 < S →
      codeAny (model prog w) A (.builtin "list.extend.loop" ⟨[.ref S, .ref z, res], []⟩) R { s with heap := h, toks := tk } := by
  intro k
  induction k with
  | zero =>
    intro i h tk c acc as hk hi hst hkeep hS hacc hal hG hTOS hi1S hi2S
    have hin : i = min xs.size ys.size := by omega
    refine codeAny_builtin PySem.F.entry_extend_loop ?_
    rw [Around.under_plainId PySem.F.plain_extend_loop _]
    show wpAny _ A.in1 (pyNext (.ref z) >>= _) _ _ _
    have hend : xs[i]? = none ∨ ys[i]? = none := by
      rcases Nat.le_total xs.size ys.size with q | q
      · exact .inl (Array.getElem?_eq_none_iff.mpr (by omega))
      · exact .inr (Array.getElem?_eq_none_iff.mpr (by omega))
    refine wpAny_bind (kz_done (s := { s with heap := h, toks := tk }) (A := A.in1) hh D hst hend fun h' he => ?_)
    refine wpAny_pure (hR h' tk acc c as (fun b u h0 h1 h2 h3 h4 e => he b u h1 h2 h3 h4 (hkeep b u h0 h1 h2 h3 h4 e)) (he S _ o.z.symm o.to.symm o.i1.symm o.i2.symm hS) (by omega) ⟨hG.rise, hG.above, fun j a hj => ?_⟩ hacc)
    obtain ⟨x, y, hx, hy, e3⟩ := hG.pairs j a hj
    have hb := hG.above a (List.mem_of_getElem? hj)
    exact ⟨x, y, hx, hy, he a _ (Nat.ne_of_gt (Nat.lt_trans hzS hb)) (Nat.ne_of_gt (Nat.lt_trans hTOS hb)) (Nat.ne_of_gt (Nat.lt_trans hi1S hb)) (Nat.ne_of_gt (Nat.lt_trans hi2S hb)) e3⟩
  | succ k ih =>
    intro i h tk c acc as hk hi hst hkeep hS hacc hal hG hTOS hi1S hi2S
    have hlt : i < min xs.size ys.size := by omega
    have hsz : acc.size = i := by rw [← Array.length_toList, hacc, List.length_map, hal]
    obtain ⟨x, hx⟩ : ∃ x, xs[i]? = some x := ⟨_, Array.getElem?_eq_getElem (by omega)⟩
    obtain ⟨y, hy⟩ : ∃ y, ys[i]? = some y := ⟨_, Array.getElem?_eq_getElem (by omega)⟩
    refine codeAny_builtin PySem.F.entry_extend_loop ?_
    rw [Around.under_plainId PySem.F.plain_extend_loop _]
    show wpAny _ A.in1 (pyNext (.ref z) >>= _) _ _ _
    have hSl : S < h.objs.size := Heap.lt_size hS
    refine wpAny_bind (kz_item (s := { s with heap := h, toks := tk }) D hst hSl hx hy fun h' hst' ht hz hkp => ?_)
    dsimp only at ht hz hkp ⊢
    have hS' := hkp S _ o.z.symm o.to.symm o.i1.symm o.i2.symm hS
    have up : ∀ b u, b ≠ S → h'.get? b = some u → (h'.update S (Obj.mapSeq (·.push (Value.ref h.objs.size)))).get? b = some u := fun b u hb e => (Heap.get?_update_other _ _ (Ne.symm hb)).trans e
    show wpAny _ A.in1 (updateSeq S (·.push (Value.ref h.objs.size)) >>= _) _ _ _
    refine wpAny_bind ?_
    refine wpAny_updateSeq hS' rfl (wpAny_pure ⟨plainId_quiet PySem.F.plain_extend_loop _, ih (i + 1) _ tk _ (acc.push (Value.ref h.objs.size)) (as ++ [h.objs.size]) (by omega) hlt (hst'.up o up)
      (fun b u h0 h1 h2 h3 h4 e => up b u h0 (hkp b u h1 h2 h3 h4 (hkeep b u h0 h1 h2 h3 h4 e))) (Heap.get?_update_self _ hS' rfl) (by rw [Array.toList_push, hacc, List.map_append]; rfl) (by rw [List.length_append, hal]; rfl) ⟨?_, ?_, ?_⟩ hTOS hi1S hi2S⟩) (by rw [hsz]; omega) (by show (acc.push (Value.ref h.objs.size)).size ≤ sizeLine + 1; rw [Array.size_push, hsz]; omega)
    · refine List.pairwise_append.mpr ⟨hG.rise, List.pairwise_singleton _ _, fun a ha b hb => ?_⟩
      rw [List.mem_singleton.mp hb]
      exact hG.there ha
    · intro a ha
      rcases List.mem_append.mp ha with ha | ha
      · exact hG.above a ha
      · rw [List.mem_singleton.mp ha]; exact hSl
    · intro j b hj
      rcases Nat.lt_trichotomy j as.length with h1 | h1 | h1
      · rw [List.getElem?_append_left h1] at hj
        obtain ⟨x', y', hx', hy', e3⟩ := hG.pairs j b hj
        have hb := hG.above b (List.mem_of_getElem? hj)
        exact ⟨x', y', hx', hy', up b _ (Nat.ne_of_gt hb) (hkp b _ (Nat.ne_of_gt (Nat.lt_trans hzS hb)) (Nat.ne_of_gt (Nat.lt_trans hTOS hb)) (Nat.ne_of_gt (Nat.lt_trans hi1S hb)) (Nat.ne_of_gt (Nat.lt_trans hi2S hb)) e3)⟩
      · subst h1
        have hb : h.objs.size = b := by simpa using hj
        subst hb
        rw [hal]
        exact ⟨x, y, hx, hy, up _ _ (Nat.ne_of_gt hSl) ht⟩
      · have hnone : (as ++ [h.objs.size])[j]? = none := List.getElem?_eq_none (by rw [List.length_append, List.length_singleton]; omega)
        rw [hnone] at hj; cases hj
end
section
variable {prog : Program} {w : World} {A : Around} {E : Value → Shared → Prop} {s : Shared} {z TI TO i1 i2 l1 l2 : Addr} {xs ys : Array Value}
theorem zil_extend {R : Result → Shared → Prop} (hh : A.handled = none) (D : ZipApart z TI TO i1 i2 l1 l2) (S : Addr) (o : Off S z TI TO i1 i2 l1 l2) (st : KzSt s.heap z TI TO i1 i2 l1 l2 S xs ys 0) (hzS : z < S) (hTOS : TO < S) (hi1S : i1 < S) (hi2S : i2 < S) (res : Value) (c₀ : Nat)
    (hS : s.heap.get? S = some { cls := .type "list", data := .seq #[] c₀ })
    (hR : ∀ h' tk acc c as, (∀ b u, b ≠ S → b ≠ z → b ≠ TO → b ≠ i1 → b ≠ i2 → s.heap.get? b = some u → h'.get? b = some u) → h'.get? S = some { cls := .type "list", dict := none, data := .seq acc c, slots := #[] } → as.length = min xs.size ys.size → ZilG xs ys S h' as →
      acc.toList = as.map Value.ref → R (.ok (.ret res)) { s with heap := h', toks := tk }) (hn : min xs.size ys.size ≤ sizeLine) :
    wpAny (model prog w) A.in1 (Builtin.List.listExtendWith (.ref S) (.ref z) res)
      (fun fin s' => match fin with | .done f => R (.ok f) s' | .again c' => c'.quiet = true ∧ codeAny (model prog w) A c' R s') (fun e s' => R (.error e) s') s := by
  have hzo : ∃ ob, s.heap.get? z = some ob ∧ ob.cls = .type "zip" := by
    rcases st.out with ⟨hz, _⟩ | ⟨T, f, oT, hz, _⟩
    · exact ⟨_, hz, rfl⟩
    · exact ⟨_, hz, rfl⟩
  have hTy : s.TypeIs (.ref z) "zip" := hzo
  unfold Builtin.List.listExtendWith
  refine wpAny_bind (wpAny_typeOf (T := "zip") hTy ?_)
  have h1 : Builtin.List.listSameRef (.ref S) (.ref z) = false := by simp [Builtin.List.listSameRef, o.z.symm]
  have h2 : (Value.type "zip" == Value.type "list") = false := by decide
  have h3 : (Value.type "zip" == Value.type "tuple") = false := by decide
  simp only [h1, h2, h3, Bool.or_false, Bool.false_eq_true, if_false]
  have itr : ∀ Q : Value → Shared → Prop, Q (.ref z) s → wpAny (model prog w) A.in1 (pyIter (.ref z)) Q (fun e s' => R (.error e) s') s := fun Q q => by
    rcases st.out with ⟨hz, _⟩ | ⟨T, f, oT, hz, _⟩
    · exact wpAny_pyIter_zip hz q
    · exact wpAny_pyIter_slot hTy F.slot_zip_iter (wpAny_call_entry F.slot_zip_iter hTy F.entry_zip_iter (by
        show wpAny _ _ (ret (.ref z)) _ _ s
        exact wpAny_pure ⟨_, rfl, "zip", _, hTy, F.slot_zip_next.lookup, q⟩) (F.args_zip_iter_1 _))
  refine wpAny_bind (itr _ ?_)
  refine wpAny_bind (wpAny_holding ?_)
  unfold Builtin.List.listLengthHint
  refine wpAny_bind (wpAny_specialOf hTy nolen_zip ?_)
  show wpAny _ A.in1 (specialOf (Value.ref z) (Str.ofString "__length_hint__") >>= _) _ _ _
  refine wpAny_bind (wpAny_specialOf hTy nohint_zip ?_)
  refine wpAny_pure ?_
  show wpAny _ A.in1 (rule "list.extend.makes-room" >>= fun _ => Builtin.List.listTouch (.ref S) >>= fun _ =>
    again (.builtin "list.extend.loop" ⟨[.ref S, .ref z, res], []⟩)) _ _ _
  refine wpAny_bind (wpAny_rule ?_)
  refine wpAny_bind ?_
  show wpAny _ A.in1 (updateSeq S (·.push .none) >>= fun _ => updateSeq S (·.pop)) _ _ _
  refine wpAny_bind (wpAny_updateSeq hS rfl ?_)
  have hS₂ := Heap.get?_update_self (Obj.mapSeq (·.push Value.none)) hS rfl
  refine wpAny_updateSeq (hz := by seq_fits) hS₂ rfl ?_
  have hS₃ := Heap.get?_update_self (Obj.mapSeq (·.pop)) hS₂ rfl
  have oth : ∀ b u, b ≠ S → s.heap.get? b = some u → ((s.heap.update S (Obj.mapSeq (·.push Value.none))).update S (Obj.mapSeq (·.pop))).get? b = some u :=
    fun b u hb e => (Heap.get?_update_other _ _ (Ne.symm hb)).trans ((Heap.get?_update_other _ _ (Ne.symm hb)).trans e)
  refine wpAny_pure ⟨plainId_quiet PySem.F.plain_extend_loop _, ?_⟩
  exact zil_loop (s := s) (h₁ := s.heap) hh D o hzS hn res hR (min xs.size ys.size) 0 _ s.toks _ #[] [] (Nat.sub_zero _) (Nat.zero_le _) (st.up o oth) (fun b u h0 _ _ _ _ e => oth b u h0 e) hS₃ rfl rfl
    ⟨List.Pairwise.nil, (fun _ ha => nomatch ha), (fun j a hj => by simp at hj)⟩ hTOS hi1S hi2S
theorem zil_init {R : Result → Shared → Prop} (hh : A.handled = none) (D : ZipApart z TI TO i1 i2 l1 l2) (S : Addr) (o : Off S z TI TO i1 i2 l1 l2) (st : KzSt s.heap z TI TO i1 i2 l1 l2 S xs ys 0) (hzS : z < S) (hTOS : TO < S) (hi1S : i1 < S) (hi2S : i2 < S)
    (hS : s.heap.get? S = some { cls := .type "list", data := .seq #[] })
    (hR : ∀ h' tk acc c as, (∀ b u, b ≠ S → b ≠ z → b ≠ TO → b ≠ i1 → b ≠ i2 → s.heap.get? b = some u → h'.get? b = some u) → h'.get? S = some { cls := .type "list", dict := none, data := .seq acc c, slots := #[] } → as.length = min xs.size ys.size → ZilG xs ys S h' as →
      acc.toList = as.map Value.ref → R (.ok (.ret .none)) { s with heap := h', toks := tk }) (hn : min xs.size ys.size ≤ sizeLine) :
    wpAny (model prog w) A.in1 (Builtin.«list.__init__» ⟨[.ref S, .ref z], []⟩)
      (fun fin s' => match fin with | .done f => R (.ok f) s' | .again c' => c'.quiet = true ∧ codeAny (model prog w) A c' R s') (fun e s' => R (.error e) s') s := by
  show wpAny _ _ (do let old ← Builtin.List.listItems (.ref S); Builtin.List.listUpdate (.ref S) (fun _ => #[]); letGo old.toList.reverse; Builtin.List.listExtendWith (.ref S) (.ref z) .none) _ _ s
  refine wpAny_bind ?_
  unfold Builtin.List.listItems
  refine wpAny_bind (wpAny_seqItems hS rfl (wpAny_pure ?_))
  show wpAny _ _ (updateSeq S (fun _ => #[]) >>= fun _ => letGo (#[] : Array Value).toList.reverse >>= fun _ => Builtin.List.listExtendWith (.ref S) (.ref z) .none) _ _ s
  refine wpAny_bind (wpAny_updateSeq hS rfl ?_)
  have hS₂ := Heap.get?_update_self (Obj.mapSeq (fun _ => (#[] : Array Value))) hS rfl
  have oth : ∀ b u, b ≠ S → s.heap.get? b = some u → (s.heap.update S (Obj.mapSeq (fun _ => (#[] : Array Value)))).get? b = some u :=
    fun b u hb e => (Heap.get?_update_other _ _ (Ne.symm hb)).trans e
  refine wpAny_bind (wpAny_letGo ?_)
  refine zil_extend hh D S o (st.up o oth) hzS hTOS hi1S hi2S .none _ hS₂ (fun h' tk acc c as hk hS' hl hG hacc => ?_) hn
  exact hR h' tk acc c as (fun b u h0 h1 h2 h3 h4 e => hk b u h0 h1 h2 h3 h4 (oth b u h0 e)) hS' hl hG hacc
theorem zil_call {Q : Value → Shared → Prop} (hh : A.handled = none) (D : ZipApart z TI TO i1 i2 l1 l2) (st : KzSt s.heap z TI TO i1 i2 l1 l2 s.heap.objs.size xs ys 0) (hTOl : TO < s.heap.objs.size) (hn : min xs.size ys.size ≤ sizeLine)
    (hQ : ∀ h' tk acc c as, (∀ b u, b ≠ z → b ≠ TO → b ≠ i1 → b ≠ i2 → s.heap.get? b = some u → h'.get? b = some u) → h'.get? s.heap.objs.size = some { cls := .type "list", dict := none, data := .seq acc c, slots := #[] } → as.length = min xs.size ys.size → ZilG xs ys s.heap.objs.size h' as →
      acc.toList = as.map Value.ref → Q (.ref s.heap.objs.size) { s with heap := h', toks := tk }) :
    wpAny (model prog w) A (call (.type "list") [.ref z]) Q E s := by
  refine callType_codes (Q₁ := fun obj s₁ => obj = .ref s.heap.objs.size ∧ s₁ = { s with heap := s.heap.push { cls := .type "list", data := .seq #[] } }) PySem.F.called_list (PySem.F.typeCall_list_1 _) PySem.F.entry_list_init
    (code_list_new _ ⟨rfl, rfl⟩) fun obj s₁ h₁ => ?_
  obtain ⟨rfl, rfl⟩ := h₁
  have hS : (s.heap.push { cls := .type "list", data := .seq #[] }).get? s.heap.objs.size = some { cls := .type "list", data := .seq #[] } := Heap.get?_push_size _ rfl
  have hz : z < s.heap.objs.size := by
    rcases st.out with ⟨hz, _⟩ | ⟨T, f, oT, hz, _⟩
    · exact Heap.lt_size hz
    · exact Heap.lt_size hz
  have hti : TI < s.heap.objs.size := Heap.lt_size st.ti
  have h1 : i1 < s.heap.objs.size := let ⟨_, e, _⟩ := st.it1; Heap.lt_size e
  have h2 : i2 < s.heap.objs.size := let ⟨_, e, _⟩ := st.it2; Heap.lt_size e
  have h3 : l1 < s.heap.objs.size := let ⟨_, e, _⟩ := st.li1; Heap.lt_size e
  have h4 : l2 < s.heap.objs.size := let ⟨_, e, _⟩ := st.li2; Heap.lt_size e
  have o : Off s.heap.objs.size z TI TO i1 i2 l1 l2 := ⟨Nat.ne_of_lt hz, Nat.ne_of_lt hti, Nat.ne_of_lt hTOl, Nat.ne_of_lt h1, Nat.ne_of_lt h2, Nat.ne_of_lt h3, Nat.ne_of_lt h4⟩
  refine ⟨⟨_, hS, rfl⟩, PySem.F.args_list_init_2 _ _, zil_init (A := A.in1) hh D s.heap.objs.size o (st.up o fun b u _ e => Heap.get?_push_of_some _ e) hz hTOl h1 h2 hS (fun h' tk acc c as hk hS' hl hG hacc => ?_) hn⟩
  exact ⟨rfl, hQ h' tk acc c as (fun b u c1 c2 c3 c4 e => hk b u (Nat.ne_of_lt (Heap.lt_size e)) c1 c2 c3 c4 (Heap.get?_push_of_some _ e)) hS' hl hG hacc⟩
end
end ZL

namespace Sc
open PySem L2
/-- the i-th statement of the top -/
def top (i : Nat) : Stmt := PySem.Challenge.pw_scanpages_k63_whole_changes.main.body.getD i (.Pass ⟨0, 0, 0, 0⟩)
abbrev sPEntry : Stmt := top 4
abbrev sPLookup : Stmt := top 5
abbrev sPWithEntry : Stmt := top 6
abbrev sPReplaced : Stmt := top 7
abbrev sPRemoved : Stmt := top 8
abbrev sPCollect : Stmt := top 10
abbrev sPCompare : Stmt := top 11
abbrev sPApplyChanges : Stmt := top 12
abbrev sLCell : Stmt := top 14
abbrev sLMix : Stmt := top 15
abbrev sLRow : Stmt := top 16
abbrev sLIsCode : Stmt := top 19
abbrev sLChars : Stmt := top 20
abbrev sLText : Stmt := top 22
abbrev sLNames : Stmt := top 23
abbrev sLLeaf : Stmt := top 24
abbrev sLFolder : Stmt := top 25
abbrev sLWide : Stmt := top 26
abbrev sLVolume : Stmt := top 27
abbrev sLIsText : Stmt := top 28
abbrev sLIsName : Stmt := top 29
abbrev sLIsBad : Stmt := top 30
abbrev sLDepth : Stmt := top 31
abbrev sLSize : Stmt := top 32
abbrev sLBadPath : Stmt := top 33
abbrev sLFault : Stmt := top 34
abbrev sLEdit : Stmt := top 35
abbrev sLCompare : Stmt := top 36
abbrev sLaw : Stmt := top 37
/-- a def of the text, where it stands, how it binds -/
structure DefAt (K : PySem.W.Frag) (mg : Str → Option Value) (x : Str) (st : Stmt) (ps : List Str) (f : Addr) (fd : FuncData) : Prop where
  F : Fun K x x st f fd
  b : Binds K fd ps []
  m : mg x = some (.ref f)
abbrev DPEntry (K : PySem.W.Frag) (mg : Str → Option Value) (f : Addr) (fd : FuncData) : Prop := DefAt K mg "_entry" sPEntry ["volume", "name"] f fd
abbrev DPLookup (K : PySem.W.Frag) (mg : Str → Option Value) (f : Addr) (fd : FuncData) : Prop := DefAt K mg "lookup" sPLookup ["volume", "path"] f fd
abbrev DPWithEntry (K : PySem.W.Frag) (mg : Str → Option Value) (f : Addr) (fd : FuncData) : Prop := DefAt K mg "_with_entry" sPWithEntry ["folder", "name", "child"] f fd
abbrev DPReplaced (K : PySem.W.Frag) (mg : Str → Option Value) (f : Addr) (fd : FuncData) : Prop := DefAt K mg "replaced" sPReplaced ["volume", "path", "new"] f fd
abbrev DPRemoved (K : PySem.W.Frag) (mg : Str → Option Value) (f : Addr) (fd : FuncData) : Prop := DefAt K mg "removed" sPRemoved ["volume", "path"] f fd
abbrev DPCollect (K : PySem.W.Frag) (mg : Str → Option Value) (f : Addr) (fd : FuncData) : Prop := DefAt K mg "_collect" sPCollect ["first", "second", "path", "found"] f fd
abbrev DPCompare (K : PySem.W.Frag) (mg : Str → Option Value) (f : Addr) (fd : FuncData) : Prop := DefAt K mg "compare" sPCompare ["first", "second"] f fd
abbrev DPApplyChanges (K : PySem.W.Frag) (mg : Str → Option Value) (f : Addr) (fd : FuncData) : Prop := DefAt K mg "apply_changes" sPApplyChanges ["volume", "changes"] f fd
abbrev DLCell (K : PySem.W.Frag) (mg : Str → Option Value) (f : Addr) (fd : FuncData) : Prop := DefAt K mg "_law_cell" sLCell ["_law_script", "_law_k"] f fd
abbrev DLMix (K : PySem.W.Frag) (mg : Str → Option Value) (f : Addr) (fd : FuncData) : Prop := DefAt K mg "_law_mix" sLMix ["_law_cell_here", "_law_k"] f fd
abbrev DLRow (K : PySem.W.Frag) (mg : Str → Option Value) (f : Addr) (fd : FuncData) : Prop := DefAt K mg "_law_row" sLRow ["_law_cell_here", "_law_count", "_law_bound"] f fd
abbrev DLIsCode (K : PySem.W.Frag) (mg : Str → Option Value) (f : Addr) (fd : FuncData) : Prop := DefAt K mg "_law_is_code" sLIsCode ["_law_octet"] f fd
abbrev DLChars (K : PySem.W.Frag) (mg : Str → Option Value) (f : Addr) (fd : FuncData) : Prop := DefAt K mg "_law_chars" sLChars [] f fd
abbrev DLText (K : PySem.W.Frag) (mg : Str → Option Value) (f : Addr) (fd : FuncData) : Prop := DefAt K mg "_law_text" sLText ["_law_cell_here", "_law_size_here"] f fd
abbrev DLNames (K : PySem.W.Frag) (mg : Str → Option Value) (f : Addr) (fd : FuncData) : Prop := DefAt K mg "_law_names" sLNames ["_law_cell_here", "_law_count"] f fd
abbrev DLLeaf (K : PySem.W.Frag) (mg : Str → Option Value) (f : Addr) (fd : FuncData) : Prop := DefAt K mg "_law_leaf" sLLeaf ["_law_cell_here"] f fd
abbrev DLFolder (K : PySem.W.Frag) (mg : Str → Option Value) (f : Addr) (fd : FuncData) : Prop := DefAt K mg "_law_folder" sLFolder ["_law_cell_here", "_law_parts"] f fd
abbrev DLWide (K : PySem.W.Frag) (mg : Str → Option Value) (f : Addr) (fd : FuncData) : Prop := DefAt K mg "_law_wide" sLWide ["_law_count"] f fd
abbrev DLVolume (K : PySem.W.Frag) (mg : Str → Option Value) (f : Addr) (fd : FuncData) : Prop := DefAt K mg "_law_volume" sLVolume ["_law_cells"] f fd
abbrev DLIsText (K : PySem.W.Frag) (mg : Str → Option Value) (f : Addr) (fd : FuncData) : Prop := DefAt K mg "_law_is_text" sLIsText ["_law_text_here"] f fd
abbrev DLIsName (K : PySem.W.Frag) (mg : Str → Option Value) (f : Addr) (fd : FuncData) : Prop := DefAt K mg "_law_is_name" sLIsName ["_law_text_here"] f fd
abbrev DLIsBad (K : PySem.W.Frag) (mg : Str → Option Value) (f : Addr) (fd : FuncData) : Prop := DefAt K mg "_law_is_bad" sLIsBad ["_law_volume_here"] f fd
abbrev DLDepth (K : PySem.W.Frag) (mg : Str → Option Value) (f : Addr) (fd : FuncData) : Prop := DefAt K mg "_law_depth" sLDepth ["_law_volume_here"] f fd
abbrev DLSize (K : PySem.W.Frag) (mg : Str → Option Value) (f : Addr) (fd : FuncData) : Prop := DefAt K mg "_law_size" sLSize ["_law_volume_here"] f fd
abbrev DLBadPath (K : PySem.W.Frag) (mg : Str → Option Value) (f : Addr) (fd : FuncData) : Prop := DefAt K mg "_law_bad_path" sLBadPath ["_law_volume_here", "_law_path"] f fd
abbrev DLFault (K : PySem.W.Frag) (mg : Str → Option Value) (f : Addr) (fd : FuncData) : Prop := DefAt K mg "_law_fault" sLFault ["_law_volume_here"] f fd
abbrev DLEdit (K : PySem.W.Frag) (mg : Str → Option Value) (f : Addr) (fd : FuncData) : Prop := DefAt K mg "_law_edit" sLEdit ["_law_volume_here", "_law_cell_here", "_law_steps"] f fd
abbrev DLCompare (K : PySem.W.Frag) (mg : Str → Option Value) (f : Addr) (fd : FuncData) : Prop := DefAt K mg "_law_compare" sLCompare ["_law_first", "_law_second", "_law_path"] f fd
abbrev DLaw (K : PySem.W.Frag) (mg : Str → Option Value) (f : Addr) (fd : FuncData) : Prop := DefAt K mg "law" sLaw ["_law_script"] f fd
/-- the built-ins that are still the built-ins, the two classes -/
structure Txt (K : PySem.W.Frag) (mg : Str → Option Value) (CA CN : Addr) : Prop where
  mLen : mg "len" = none
  mTuple : mg "tuple" = none
  mRange : mg "range" = none
  mSorted : mg "sorted" = none
  mList : mg "list" = none
  mAbs : mg "abs" = none
  mInt : mg "int" = none
  mOrd : mg "ord" = none
  mMax : mg "max" = none
  mZip : mg "zip" = none
  mIsinstance : mg "isinstance" = none
  gA : mg "ArchiveError" = some (.ref CA)
  gN : mg "NoSuchPath" = some (.ref CN)
  xN : PySem.W.excIn K CN [.type "ValueError", .type "Exception", .type "BaseException", .type "object"] "ValueError.__new__" = true
  kN : PySem.W.keepIn K (.ref CN) = true
  bN : PySem.W.subIn K (.ref CN) (.type "BaseException") = some true
  tN : PySem.W.typeIn K (.ref CN) = some (.type "type")
  eN : PySem.W.exmOne K (.ref CN) (.ref CA) = some true
  cN : ExcC K CN
  iN : PySem.W.kitOne K (.ref CN) (.ref CN) = some true
/-! ### texts and tuples in the heap -/
mutual
inductive Tp (H : Hp) : V → PyData → Prop
  | str (x : Str) : Tp H (.str x) (.str x)
  | tup {a : Addr} {xs : List V} {ds : List PyData} : H a = some (.tup xs) → TpAll H xs ds → Tp H (.ref a) (.tuple ds)
inductive TpAll (H : Hp) : List V → List PyData → Prop
  | nil : TpAll H [] []
  | cons {v : V} {vs : List V} {d : PyData} {ds : List PyData} : Tp H v d → TpAll H vs ds → TpAll H (v :: vs) (d :: ds)
end
/-- the tuples stay -/
def TS (H H' : Hp) : Prop := ∀ a xs, H a = some (.tup xs) → H' a = some (.tup xs)
theorem TS.refl (H : Hp) : TS H H := fun _ _ h => h
theorem TS.trans {H H1 H2 : Hp} (a : TS H H1) (b : TS H1 H2) : TS H H2 := fun c o h => b c o (a c o h)
theorem ts_of {H H' : Hp} (s : Same H H') : TS H H' := fun a xs h => s a _ h
theorem same_new {H : Hp} {p : Addr} (h : H p = none) (o : HO) : Same H (upd H p o) := fun b u q => by rw [upd_ne (ne_of_none q h)]; exact q
theorem ts_new {H : Hp} {p : Addr} (h : H p = none) (o : HO) : TS H (upd H p o) := ts_of (same_new h o)
theorem ts_lst {H : Hp} {p : Addr} {ys zs : List V} (h : H p = some (.lst ys)) : TS H (upd H p (.lst zs)) := fun a xs q => by
  rw [upd_ne (ne_of q h (by intro z; cases z))]; exact q
mutual
theorem Tp.mono {H H' : Hp} (s : TS H H') : ∀ {v : V} {d : PyData}, Tp H v d → Tp H' v d
  | _, _, .str x => .str x
  | _, _, .tup h t => .tup (s _ _ h) (TpAll.mono s t)
theorem TpAll.mono {H H' : Hp} (s : TS H H') : ∀ {vs : List V} {ds : List PyData}, TpAll H vs ds → TpAll H' vs ds
  | _, _, .nil => .nil
  | _, _, .cons h t => .cons (Tp.mono s h) (TpAll.mono s t)
end
mutual
theorem Tp.dp {K : PySem.W.Frag} {H : Hp} : ∀ {v : V} {d : PyData}, Tp H v d → Dp K H v d
  | _, _, .str x => .str x
  | _, _, .tup h t => .tup (SqT.of h) (TpAll.dp t)
theorem TpAll.dp {K : PySem.W.Frag} {H : Hp} : ∀ {vs : List V} {ds : List PyData}, TpAll H vs ds → DpAll K H vs ds
  | _, _, .nil => .nil
  | _, _, .cons h t => .cons (Tp.dp h) (TpAll.dp t)
end
theorem Tp.tup_inv {H : Hp} {v : V} {ds : List PyData} (h : Tp H v (.tuple ds)) : ∃ a xs, v = .ref a ∧ H a = some (.tup xs) ∧ TpAll H xs ds := by
  cases h with
  | tup a b => exact ⟨_, _, rfl, a, b⟩
theorem Tp.str_inv {H : Hp} {v : V} {x : Str} (h : Tp H v (.str x)) : v = .str x := by cases h; rfl
theorem TpAll.nil_inv {H : Hp} {vs : List V} (h : TpAll H vs []) : vs = [] := by cases h; rfl
theorem TpAll.cons_inv {H : Hp} {vs : List V} {d : PyData} {ds : List PyData} (h : TpAll H vs (d :: ds)) : ∃ v r, vs = v :: r ∧ Tp H v d ∧ TpAll H r ds := by
  cases h with
  | cons a b => exact ⟨_, _, rfl, a, b⟩
theorem TpAll.len {H : Hp} : ∀ {vs : List V} {ds : List PyData}, TpAll H vs ds → vs.length = ds.length
  | _, _, .nil => rfl
  | _, _, .cons _ t => congrArg (· + 1) (TpAll.len t)
theorem TpAll.get {H : Hp} : ∀ {vs : List V} {ds : List PyData} {i : Nat} {x : V}, TpAll H vs ds → vs[i]? = some x → ∃ d, ds[i]? = some d ∧ Tp H x d
  | _, _, i, x, .nil, e => by simp at e
  | _, _, 0, x, .cons h _, e => by
    simp at e
    subst e
    exact ⟨_, rfl, h⟩
  | _, _, i + 1, x, .cons _ t, e => by
    obtain ⟨d, h1, h2⟩ := TpAll.get (i := i) (x := x) t (by simpa using e)
    exact ⟨d, by simpa using h1, h2⟩
theorem TpAll.app {H : Hp} : ∀ {vs us : List V} {ds es : List PyData}, TpAll H vs ds → TpAll H us es → TpAll H (vs ++ us) (ds ++ es)
  | _, _, _, _, .nil, s => s
  | _, _, _, _, .cons h t, s => .cons h (TpAll.app t s)
theorem TpAll.take {H : Hp} : ∀ {vs : List V} {ds : List PyData} (n : Nat), TpAll H vs ds → TpAll H (vs.take n) (ds.take n)
  | _, _, 0, _ => by rw [List.take_zero, List.take_zero]; exact .nil
  | _, _, _ + 1, .nil => .nil
  | _, _, n + 1, .cons h t => .cons h (TpAll.take n t)
theorem TpAll.drop {H : Hp} : ∀ {vs : List V} {ds : List PyData} (n : Nat), TpAll H vs ds → TpAll H (vs.drop n) (ds.drop n)
  | _, _, 0, h => h
  | _, _, _ + 1, .nil => .nil
  | _, _, n + 1, .cons h t => TpAll.drop n t
theorem TpAll.strs {H : Hp} : ∀ {vs : List V} {l : List Str}, TpAll H vs (l.map .str) → vs = l.map V.str
  | vs, [], h => h.nil_inv
  | vs, x :: l, h => by
    obtain ⟨v, r, rfl, h1, h2⟩ := h.cons_inv
    rw [h1.str_inv, TpAll.strs h2]
    rfl
theorem tp_strs {H : Hp} : ∀ l : List Str, TpAll H (l.map V.str) (l.map .str)
  | [] => .nil
  | x :: l => .cons (.str x) (tp_strs l)
/-! ### paths, volumes -/
abbrev PathAt (H : Hp) (v : V) (p : Path) : Prop := Tp H v (rowD p)
theorem PathAt.inv {H : Hp} {v : V} {p : Path} (h : PathAt H v p) : ∃ a, v = .ref a ∧ H a = some (.tup (p.map V.str)) := by
  obtain ⟨a, xs, rfl, ha, t⟩ := Tp.tup_inv h
  rw [t.strs] at ha
  exact ⟨a, rfl, ha⟩
theorem PathAt.mk {H : Hp} {a : Addr} {p : Path} (h : H a = some (.tup (p.map V.str))) : PathAt H (.ref a) p := .tup h (tp_strs p)
abbrev VolAt (H : Hp) (v : V) (x : Vol) : Prop := Tp H v x.data
abbrev EntsAt (H : Hp) (vs : List V) (es : Ents) : Prop := TpAll H vs (entsD es)
theorem VolAt.text_inv {H : Hp} {v : V} {s : Str} (h : VolAt H v (.text s)) : ∃ a, v = .ref a ∧ H a = some (.tup [.str "text", .str s]) := by
  have h' : Tp H v (.tuple [.str "text", .str s]) := by rw [← Vol.data]; exact h
  obtain ⟨a, xs, rfl, ha, t⟩ := h'.tup_inv
  obtain ⟨x, r, rfl, h1, t⟩ := t.cons_inv
  obtain ⟨y, r, rfl, h2, t⟩ := t.cons_inv
  rw [h1.str_inv, h2.str_inv, t.nil_inv] at ha
  exact ⟨a, rfl, ha⟩
theorem VolAt.table_inv {H : Hp} {v : V} {hd : List Str} {rs : List (List Str)} (h : VolAt H v (.table hd rs)) :
    ∃ a b c ys, v = .ref a ∧ H a = some (.tup [.str "table", .ref b, .ref c]) ∧ H b = some (.tup (hd.map V.str)) ∧ H c = some (.tup ys) ∧ TpAll H ys (rs.map rowD) := by
  have h' : Tp H v (.tuple [.str "table", rowD hd, .tuple (rs.map rowD)]) := by rw [← Vol.data]; exact h
  obtain ⟨a, xs, rfl, ha, t⟩ := h'.tup_inv
  obtain ⟨x, r1, rfl, h1, t1⟩ := t.cons_inv
  obtain ⟨y, r2, rfl, h2, t2⟩ := t1.cons_inv
  obtain ⟨z, r3, rfl, h3, t3⟩ := t2.cons_inv
  have e := t3.nil_inv
  subst e
  obtain ⟨b, rfl, hb⟩ := PathAt.inv h2
  obtain ⟨c, ys, rfl, hc, tc⟩ := h3.tup_inv
  rw [h1.str_inv] at ha
  exact ⟨a, b, c, ys, rfl, ha, hb, hc, tc⟩
theorem VolAt.folder_inv {H : Hp} {v : V} {es : Ents} (h : VolAt H v (.folder es)) :
    ∃ a e ys, v = .ref a ∧ H a = some (.tup [.str "folder", .ref e]) ∧ H e = some (.tup ys) ∧ EntsAt H ys es := by
  have h' : Tp H v (.tuple [.str "folder", .tuple (entsD es)]) := by rw [← Vol.data]; exact h
  obtain ⟨a, xs, rfl, ha, t⟩ := h'.tup_inv
  obtain ⟨x, r1, rfl, h1, t1⟩ := t.cons_inv
  obtain ⟨y, r2, rfl, h2, t2⟩ := t1.cons_inv
  have e' := t2.nil_inv
  subst e'
  obtain ⟨e, ys, rfl, he, te⟩ := h2.tup_inv
  rw [h1.str_inv] at ha
  exact ⟨a, e, ys, rfl, ha, he, te⟩
theorem VolAt.folder {H : Hp} {a e : Addr} {ys : List V} {es : Ents} (ha : H a = some (.tup [.str "folder", .ref e])) (he : H e = some (.tup ys)) (t : EntsAt H ys es) : VolAt H (.ref a) (.folder es) := by
  show Tp H (.ref a) (Vol.folder es).data
  rw [Vol.data]
  exact .tup ha (.cons (.str _) (.cons (.tup he t) .nil))
theorem VolAt.text {H : Hp} {a : Addr} {s : Str} (ha : H a = some (.tup [.str "text", .str s])) : VolAt H (.ref a) (.text s) := by
  show Tp H (.ref a) (Vol.text s).data
  rw [Vol.data]
  exact .tup ha (.cons (.str _) (.cons (.str _) .nil))
theorem VolAt.table {H : Hp} {a b c : Addr} {ys : List V} {hd : List Str} {rs : List (List Str)} (ha : H a = some (.tup [.str "table", .ref b, .ref c])) (hb : H b = some (.tup (hd.map V.str))) (hc : H c = some (.tup ys)) (t : TpAll H ys (rs.map rowD)) :
    VolAt H (.ref a) (.table hd rs) := by
  show Tp H (.ref a) (Vol.table hd rs).data
  rw [Vol.data]
  exact .tup ha (.cons (.str _) (.cons (.tup hb (tp_strs hd)) (.cons (.tup hc t) .nil)))
def Vol.kind : Vol → Str
  | .text _ => "text"
  | .table _ _ => "table"
  | .folder _ => "folder"
theorem kind_iff (v : Vol) : v.kind = "folder" ↔ v.isF = true := by
  cases v with
  | text s => exact ⟨fun h => absurd h ne_tf, fun h => nomatch h⟩
  | table h rs => exact ⟨fun h => absurd h ne_bf, fun h => nomatch h⟩
  | folder es => exact ⟨fun _ => rfl, fun _ => rfl⟩
/-- any volume: its first item -/
theorem VolAt.head {H : Hp} {v : V} {x : Vol} (h : VolAt H v x) : ∃ a xs, v = .ref a ∧ H a = some (.tup (.str x.kind :: xs)) := by
  cases x with
  | text s => obtain ⟨a, e, ha⟩ := h.text_inv; exact ⟨a, _, e, ha⟩
  | table hd rs => obtain ⟨a, b, c, ys, e, ha, _⟩ := h.table_inv; exact ⟨a, _, e, ha⟩
  | folder es => obtain ⟨a, e', ys, e, ha, _⟩ := h.folder_inv; exact ⟨a, _, e, ha⟩
theorem EntsAt.cons_inv {H : Hp} {vs : List V} {n : Str} {v : Vol} {es : Ents} (h : EntsAt H vs ((n, v) :: es)) : ∃ c u r, vs = .ref c :: r ∧ H c = some (.tup [.str n, u]) ∧ VolAt H u v ∧ EntsAt H r es := by
  have h' : TpAll H vs (.tuple [.str n, v.data] :: entsD es) := by
    have q : TpAll H vs (entsD ((n, v) :: es)) := h
    rw [entsD] at q
    exact q
  obtain ⟨x, r, rfl, h1, t⟩ := h'.cons_inv
  obtain ⟨c, xs, rfl, hc, tc⟩ := h1.tup_inv
  obtain ⟨y, q, rfl, h2, tc⟩ := tc.cons_inv
  obtain ⟨z, q, rfl, h3, tc⟩ := tc.cons_inv
  rw [h2.str_inv, tc.nil_inv] at hc
  exact ⟨c, z, r, rfl, hc, h3, t⟩
theorem EntsAt.nil_inv {H : Hp} {vs : List V} (h : EntsAt H vs []) : vs = [] := by
  have q : TpAll H vs (entsD []) := h
  rw [entsD] at q
  exact q.nil_inv
theorem EntsAt.nil {H : Hp} : EntsAt H [] [] := by
  show TpAll H [] (entsD [])
  rw [entsD]
  exact .nil
theorem EntsAt.cons {H : Hp} {c : Addr} {u : V} {r : List V} {n : Str} {v : Vol} {es : Ents} (hc : H c = some (.tup [.str n, u])) (hu : VolAt H u v) (t : EntsAt H r es) : EntsAt H (.ref c :: r) ((n, v) :: es) := by
  show TpAll H _ (entsD ((n, v) :: es))
  rw [entsD]
  exact .cons (.tup hc (.cons (.str _) (.cons hu .nil))) t
theorem EntsAt.len {H : Hp} {vs : List V} {es : Ents} (h : EntsAt H vs es) : vs.length = es.length := by
  have q := TpAll.len h
  rw [entsD_map, List.length_map] at q
  exact q
theorem EntsAt.get {H : Hp} {vs : List V} {es : Ents} {i : Nat} {x : V} (h : EntsAt H vs es) (hx : vs[i]? = some x) : ∃ n v c u, es[i]? = some (n, v) ∧ x = .ref c ∧ H c = some (.tup [.str n, u]) ∧ VolAt H u v := by
  obtain ⟨d, h1, h2⟩ := TpAll.get h hx
  rw [entsD_map, List.getElem?_map] at h1
  cases e : es[i]? with
  | none => rw [e] at h1; cases h1
  | some p =>
    obtain ⟨n, v⟩ := p
    rw [e] at h1
    cases h1
    obtain ⟨c, xs, rfl, hc, tc⟩ := h2.tup_inv
    obtain ⟨y, q, rfl, h2, tc⟩ := tc.cons_inv
    obtain ⟨z, q, rfl, h3, tc⟩ := tc.cons_inv
    rw [h2.str_inv, tc.nil_inv] at hc
    exact ⟨n, v, c, z, rfl, rfl, hc, h3⟩
theorem EntsAt.app {H : Hp} {vs us : List V} {es fs : Ents} (h : EntsAt H vs es) (k : EntsAt H us fs) : EntsAt H (vs ++ us) (es ++ fs) := by
  show TpAll H _ (entsD (es ++ fs))
  rw [entsD_map, List.map_append, ← entsD_map, ← entsD_map]
  exact TpAll.app h k
theorem EntsAt.take {H : Hp} {vs : List V} {es : Ents} (n : Nat) (h : EntsAt H vs es) : EntsAt H (vs.take n) (es.take n) := by
  show TpAll H _ (entsD (es.take n))
  rw [entsD_map, List.map_take, ← entsD_map]
  exact TpAll.take n h
theorem EntsAt.drop {H : Hp} {vs : List V} {es : Ents} (n : Nat) (h : EntsAt H vs es) : EntsAt H (vs.drop n) (es.drop n) := by
  show TpAll H _ (entsD (es.drop n))
  rw [entsD_map, List.map_drop, ← entsD_map]
  exact TpAll.drop n h
theorem small {n : Nat} (h : n ≤ 1000000) : n < sizeLine := by rw [sizeLine_eq]; omega
theorem small' {n : Nat} (h : n ≤ 1000000) : n ≤ sizeLine := Nat.le_of_lt (small h)
/-- the answer of look among the first i -/
theorem look_step {es : Ents} {i : Nat} {n m : Str} {v : Vol} (h : es[i]? = some (n, v)) (k : look (es.take i) m = none) : look (es.take (i + 1)) m = if n = m then some v else none := by
  have e : es.take (i + 1) = es.take i ++ [(n, v)] := by
    rw [List.take_add_one, h]
    rfl
  rw [e, look_app, k]
  simp [look]
theorem look_early {es : Ents} {i : Nat} {m : Str} {v : Vol} (k : look (es.take i) m = some v) : look es m = some v := by
  have e : es = es.take i ++ es.drop i := (List.take_append_drop i es).symm
  rw [e, look_app, k]
  rfl
theorem at0 {α : Type} (x : α) (xs : List α) : atI (x :: xs) 0 = some x := atI_nat (xs := x :: xs) (j := 0) rfl
theorem at1 {α : Type} (x y : α) (xs : List α) : atI (x :: y :: xs) 1 = some y := atI_nat (xs := x :: y :: xs) (j := 1) rfl
theorem at2 {α : Type} (x y z : α) (xs : List α) : atI (x :: y :: z :: xs) 2 = some z := atI_nat (xs := x :: y :: z :: xs) (j := 2) rfl
theorem map_at {α β : Type} {f : α → β} {l : List α} {i : Nat} {x : β} (h : (l.map f)[i]? = some x) : ∃ n, l[i]? = some n ∧ x = f n := by
  rw [List.getElem?_map] at h
  cases e : l[i]? with
  | none => rw [e] at h; cases h
  | some n => rw [e] at h; exact ⟨n, rfl, (Option.some.inj h).symm⟩
theorem drop_at {α : Type} {l : List α} {i : Nat} {n : α} (h : l[i]? = some n) : l.drop i = n :: l.drop (i + 1) := by
  obtain ⟨hi, e⟩ := List.getElem?_eq_some_iff.mp h
  rw [List.drop_eq_getElem_cons hi, e]
theorem take_at {α : Type} {l : List α} {i : Nat} {n : α} (h : l[i]? = some n) : l.take (i + 1) = l.take i ++ [n] := by
  rw [List.take_add_one, h]
  rfl
theorem at_lt {α : Type} {l : List α} {i : Nat} {n : α} (h : l[i]? = some n) : i < l.length := (List.getElem?_eq_some_iff.mp h).1
theorem sz0 : ([] : List V).length ≤ sizeLine := small' (Nat.zero_le _)
theorem sz1 (a : V) : [a].length ≤ sizeLine := small' (show 1 ≤ 1000000 by omega)
theorem sz2 (a b : V) : [a, b].length ≤ sizeLine := small' (show 2 ≤ 1000000 by omega)
theorem sz3 (a b c : V) : [a, b, c].length ≤ sizeLine := small' (show 3 ≤ 1000000 by omega)
theorem ifT {c : Bool} {A B : Prop} (hc : c = true) (h : A) : if c = true then A else B := by
  rw [if_pos hc]
  exact h
theorem ifF {c : Bool} {A B : Prop} (hc : c = false) (h : B) : if c = true then A else B := by
  rw [hc, if_neg Bool.false_ne_true]
  exact h
/-- path + (name,) -/
def rCatP : R2 := fun x y H Q => ∃ (a b : Addr) (p : Path) (m : Str), x = .ref a ∧ y = .ref b ∧ H a = some (.tup (p.map V.str)) ∧ H b = some (.tup [.str m]) ∧ p.length ≤ 1000 ∧ ∀ z H', Same H H' → H' z = some (.tup ((p ++ [m]).map V.str)) → Q (.ref z) H'
theorem op_catP {X : Cx} : OpR X (binaryOp .Add) rCatP := by
  intro pins s σ H x y v u Q I rx ry h
  obtain ⟨a, b, p, m, rfl, rfl, ha, hb, hl, q⟩ := h
  refine op_catA pins s σ H _ _ v u Q I rx ry ⟨a, b, p.map V.str, [.str m], rfl, rfl, SqT.of ha, SqT.of hb, small' (by rw [List.length_map]; show p.length + 1 ≤ _; omega), fun e => ?_, fun _ e => absurd e (List.cons_ne_nil _ _), fun _ _ z nz => ?_⟩
  · have e' : p = [] := List.map_eq_nil_iff.mp e
    subst e'
    exact q _ _ (Same.refl _) hb
  · refine q _ _ (same_new nz _) ?_
    rw [upd_same, List.map_append]
    rfl
end Sc

namespace Sc
open PySem PySem.Spec PyProof.Rows L2
/-! ### list(zip(xs, ys)) -/
def putP : Hp → List Addr → List (V × V) → Hp
  | H, a :: as, p :: kvs => putP (upd H a (.tup [p.1, p.2])) as kvs
  | H, _, _ => H
theorem putP_off {b : Addr} : ∀ (as : List Addr) (kvs : List (V × V)) (H : Hp), b ∉ as → putP H as kvs b = H b
  | [], _, _, _ => rfl
  | _ :: _, [], _, _ => rfl
  | a :: as, p :: kvs, H, h => by
    show putP (upd H a (.tup [p.1, p.2])) as kvs b = H b
    rw [putP_off as kvs _ (fun z => h (List.mem_cons_of_mem _ z)), upd_ne (fun z => h (by rw [z]; exact List.mem_cons_self))]
theorem putP_at : ∀ (as : List Addr) (kvs : List (V × V)) (H : Hp), as.length = kvs.length → as.Nodup → Paired (fun (t : Addr) (p : V × V) => putP H as kvs t = some (.tup [p.1, p.2])) as kvs
  | [], [], _, _, _ => .nil
  | [], _ :: _, _, h, _ => by cases h
  | _ :: _, [], _, h, _ => by cases h
  | a :: as, p :: kvs, H, h, hn => by
    have hn' := List.nodup_cons.mp hn
    have ih := putP_at as kvs (upd H a (.tup [p.1, p.2])) (Nat.succ.inj h) hn'.2
    refine .cons ?_ ih
    show putP (upd H a (.tup [p.1, p.2])) as kvs a = some (.tup [p.1, p.2])
    rw [putP_off as kvs _ hn'.1, upd_same]
def rZipL (K : PySem.W.Frag) : List V → Hp → VK → Prop := fun vs H Q => ∃ (a b : Addr) (xs ys : List V), vs = [.ref a, .ref b] ∧ SqL K H a xs ∧ SqL K H b ys ∧
  ∀ (H' : Hp) (p : Addr) (ts : List Addr), Same H H' → H' p = some (.lst (ts.map V.ref)) → Paired (fun (t : Addr) (q : V × V) => H' t = some (.tup [q.1, q.2])) ts (xs.zip ys) → Q (.ref p) H'
def tListZip (K : PySem.W.Frag) (ta : TA) : TE := fun σ H Q => ta σ H fun vs H1 => rZipL K vs H1 Q
theorem zip_laid {X : Cx} {pins : List (Addr × Obj)} {σ : L2.St} {H : Hp} {s : Shared} {h' : Heap} {tk S : Nat} {xs ys : List V} {us vs : List Value} {acc : Array Value} {c : Nat} {as : List Addr} (I : Inv X pins σ H s) (hsz : min xs.length ys.length ≤ sizeLine) (hx : Vals xs us) (hy : Vals ys vs)
    (hk : ∀ b o, s.heap.get? b = some o → h'.get? b = some o) (hlo : s.heap.objs.size ≤ S) (hS : h'.get? S = some { cls := .type "list", dict := none, data := .seq acc c, slots := #[] }) (hl : as.length = min xs.length ys.length) (hG : ZL.ZilG us.toArray vs.toArray S h' as) (hacc : acc.toList = as.map Value.ref) :
    ∃ H' : Hp, Same H H' ∧ H' S = some (.lst (as.map V.ref)) ∧ Paired (fun (t : Addr) (q : V × V) => H' t = some (.tup [q.1, q.2])) as (xs.zip ys) ∧ Inv X pins σ H' { s with heap := h', toks := tk } := by
  have lk : as.length = (xs.zip ys).length := by rw [List.length_zip]; exact hl
  have hSn : S ∉ as := fun z => Nat.lt_irrefl _ (hG.above _ z)
  have nd : as.Nodup := List.Pairwise.imp (fun {a b} (h : a < b) => Nat.ne_of_lt h) hG.rise
  have new : ∀ t ∈ as, H t = none := fun t ht => I.hok.fresh (Nat.le_of_lt (Nat.lt_of_le_of_lt hlo (hG.above t ht)))
  have newS : H S = none := I.hok.fresh hlo
  have atP := putP_at as (xs.zip ys) (upd H S (.lst (as.map V.ref))) lk nd
  have off : ∀ b, b ∉ as → b ≠ S → putP (upd H S (.lst (as.map V.ref))) as (xs.zip ys) b = H b := fun b h1 h2 => by rw [putP_off as _ _ h1, upd_ne h2]
  have low : ∀ b o, s.heap.get? b = some o → b ∉ as ∧ b ≠ S := fun b o e => ⟨fun z => absurd (Heap.lt_size e) (Nat.not_lt.mpr (Nat.le_of_lt (Nat.lt_of_le_of_lt hlo (hG.above b z)))), Nat.ne_of_lt (Nat.lt_of_lt_of_le (Heap.lt_size e) hlo)⟩
  have kp : Same H (putP (upd H S (.lst (as.map V.ref))) as (xs.zip ys)) := fun b u e => by
    rw [off b (fun z => by rw [new b z] at e; cases e) (fun z => by rw [z, newS] at e; cases e)]
    exact e
  have eS : putP (upd H S (.lst (as.map V.ref))) as (xs.zip ys) S = some (.lst (as.map V.ref)) := by rw [putP_off as _ _ hSn, upd_same]
  refine ⟨putP (upd H S (.lst (as.map V.ref))) as (xs.zip ys), kp, eS, atP, ?_⟩
  refine I.call' (ch := []) rfl ⟨fun b o q _ _ _ => hk b o q, fun b o q _ _ _ => ⟨o.slots, hk b o q⟩, fun b o q n _ => ?_, fun b o q _ => ⟨o, hk b o q⟩, fun b xs q => kp b _ q, fun b o u q => kp b _ q, fun b ps q => ⟨#[], by rw [kp b _ q]; simp⟩⟩ (fun b u q => ?_) I.bare fun b z => by simp at z
  · obtain ⟨z1, z2⟩ := low b o q
    rw [off b z1 z2]
    exact n
  · by_cases hb : b ∈ as
    · obtain ⟨j, pk, e1, e2, e3⟩ := LiI.paired_ix atP hb
      rw [e3] at q
      cases q
      obtain ⟨u, v, f1, f2, f3⟩ := hG.pairs j b e1
      rw [List.getElem?_zip_eq_some] at e2
      obtain ⟨u', g1, g2⟩ := hx.get e2.1
      obtain ⟨v', g3, g4⟩ := hy.get e2.2
      have w1 : u = u' := by rw [List.getElem?_toArray, g1] at f1; exact (Option.some.inj f1).symm
      have w2 : v = v' := by rw [List.getElem?_toArray, g3] at f2; exact (Option.some.inj f2).symm
      subst w1
      subst w2
      exact ⟨by show 2 ≤ sizeLine; decide, [u, v], .cons g2 (.cons g4 .nil), ⟨_, f3, rfl, _, rfl⟩⟩
    · by_cases hb2 : b = S
      · rw [hb2] at q ⊢
        rw [eS] at q
        cases q
        refine ⟨by rw [List.length_map]; omega, acc.toList, c, by rw [hacc]; exact LiI.vals_refs as, ?_⟩
        rw [Array.toArray_toList]
        exact hS
      · rw [off b hb hb2] at q
        exact (I.hok b u q).stay (fun d v _ y => hk d v y) (fun d y => kp d _ y) fun d xs y => kp d _ y
/-- list(zip(e, e2)) -/
theorem pe_listZip {X : Cx} {e e2 : Expr} {ta : TA} {p p2 cpos pos : Pos} (hc : X.calm = true) (ha : PA X [e, e2] ta) (hg : Gl X "list") (hm : X.mg "list" = none) (hg2 : Gl X "zip") (hm2 : X.mg "zip" = none) (hv : bootBuiltins "list" = some (.type "list"))
    (hs2 : starEach [e, e2] X.env = (false, eval e X.env) :: starEach [e2] X.env := by rfl) (hpl2 : (backTo cpos (starEach [e2] X.env)).any (·.1) = false := by rfl)
    (hs : starEach [.Call (.Name "zip" p2) [e, e2] [] cpos] X.env = (false, eval (.Call (.Name "zip" p2) [e, e2] [] cpos) X.env) :: starEach [] X.env := by rfl) :
    PE X (.Call (.Name "list" p) [.Call (.Name "zip" p2) [e, e2] [] cpos] [] pos) (tListZip X.K ta) := by
  refine ⟨fun pins s σ H Q I hq => ?_⟩
  refine wpAny_Call_Name_kw (ld_blt I hg hm hv ?_)
  refine PyProof.Rows.callWith_type1 ?_ hs rfl
  rw [hs]
  show wpAny _ _ (spliced ((false, eval (.Call (.Name "zip" p2) [e, e2] [] cpos) X.env) :: backTo pos (starEach [] X.env))) _ _ s
  refine Calls.spliced_cons ?_
  refine Call_ (ld_blt I hg2 hm2 PyProof.Rows.boot_zip (PyProof.Rows.callWith_type1 (thn (ha.run cpos pins s σ H _ I hq) fun us s1 ⟨vs, H1, I1, r1, q1⟩ => ?_) hs2 hpl2))
  obtain ⟨a, b, xs, ys, ex, hqx, hqy, q⟩ := q1
  subst ex
  cases r1 with
  | cons r rr =>
    cases rr with
    | cons r' rr =>
      cases rr
      cases r
      cases r'
      obtain ⟨its, rv, p1, z1⟩ := I1.list hqx
      obtain ⟨its2, rv2, p2, z2⟩ := I1.list hqy
      have la : a < s1.heap.objs.size := p1.lt
      have lb : b < s1.heap.objs.size := p2.lt
      have l1 := rv.length
      have l2 := rv2.length
      refine call_zip_2 p1.isList p2.isList fun h' hz hTI hTO h1 h2 hsz hk => ?_
      refine Calls.spliced_nil ?_
      refine ZL.zil_call (s := { s1 with heap := h' }) (I1.ok.hd hc) (PySem.W.ktu_apart s1.heap.objs.size a b la lb) ⟨hTI, h1, h2, ZL.isList_at p1.isList fun o e => hk _ o e, ZL.isList_at p2.isList fun o e => hk _ o e, .inl ⟨hz, _, _, hTO⟩⟩ (by show s1.heap.objs.size + 3 < h'.objs.size; omega) (by simp only [List.size_toArray]; omega) fun h'' tk acc c as hk2 hS hl hG hacc => ?_
      simp only [List.size_toArray] at hl
      have gt : ∀ (b : Addr) (o : Obj), s1.heap.get? b = some o → ∀ k : Nat, b = s1.heap.objs.size + k → False := fun b o e k z => by have h := Heap.lt_size e; rw [z] at h; exact absurd h (Nat.not_lt.mpr (Nat.le_add_right _ _))
      obtain ⟨H', k1, k2, k3, J⟩ := zip_laid (tk := tk) I1 (by omega) rv rv2 (h' := h'') (fun b o e => hk2 b o (fun z => gt b o e 4 z) (fun z => gt b o e 3 z) (fun z => gt b o e 0 z) (fun z => gt b o e 1 z) (hk b o e)) (by show s1.heap.objs.size ≤ h'.objs.size; omega) hS (by omega) hG hacc
      exact ⟨.ref _, H', J, rfl, q H' _ as k1 k2 k3⟩
end Sc

namespace Sc
open PySem L2
section
variable {P : Program} {w : World} {K : PySem.W.Frag} {mg : Str → Option Value} {base : Heap} {CA CN : Addr}
/-! ### _entry -/
def lookE : Vol → Str → Option Vol
  | .folder es, n => look es n
  | _, _ => none
theorem lookE_not {v : Vol} {n : Str} (h : v.isF = false) : lookE v n = none := by cases v <;> first | rfl | cases h
def spEntry : Sp := fun vs H Q _ => ∃ (u : V) (v : Vol) (n : Str), vs = [u, .str n] ∧ VolAt H u v ∧ (∀ c u', lookE v n = some c → VolAt H u' c → Q u' H) ∧ (lookE v n = none → Q .non H)
theorem scEntry : FnScope ["volume", "name", "other", "child"] ["volume", "name"] (defScope sPEntry) := ⟨rfl, rfl, rfl, by decide +kernel, rfl, by decide +kernel, by decide +kernel⟩
theorem ok_entry {f : Addr} {fd : FuncData} (D : DPEntry K mg f fd) : FnOk P w K mg base CX0 1 f fd ["volume", "name"] spEntry := by
  refine D.F.ok scEntry (fun vs H Q E h => ?_) (fun cdv A outer s H vs Q E hr h => ?_)
  · obtain ⟨u, v, n, rfl, _⟩ := h
    rfl
  obtain ⟨u, v, n, rfl, hv, q1, q2⟩ := h
  refine ⟨_, pss_cons (ps_if (pt_cmpR op_ne (pe_ix ix_tup (pv 0) pe_int (fun _ _ => rfl)) pe_str (nomark _)) (pss_one (ps_ret pe_non)) pss_nil)
    (pss_cons (ps_for PassesOwn.never rfl (pi_tup (pe_ix ix_tup (pv 0) pe_int (fun _ _ => rfl))) (pg_tup rfl (pgs_cons (pg_name (i := 2) scEntry.nd rfl (.inl rfl)) (pgs_cons (pg_name (i := 3) scEntry.nd rfl (.inl rfl)) pgs_nil)))
      (pss_one (ps_if (pt_cmpR op_eq (pv 2) (pv 1) (nomark _)) (pss_one (ps_ret (pv 3))) pss_nil)))
    (pss_one (ps_ret pe_non))), ?_⟩
  obtain ⟨a, xs, rfl, ha⟩ := hv.head
  refine ⟨_, rfl, a, _, 0, _, rfl, rfl, SqT.of ha, at0 _ _, rfl, _, rfl, ?_⟩
  refine ite2 (fun c => ?_) (fun c => ?_)
  · refine q2 (lookE_not ?_)
    cases e : v.isF with
    | false => rfl
    | true =>
      rw [(kind_iff v).mpr e] at c
      simp at c
  · obtain ⟨es, rfl⟩ : ∃ es, v = .folder es := by
      cases v with
      | folder es => exact ⟨es, rfl⟩
      | text s => exact absurd (by simp [Vol.kind, ne_tf]) c
      | table hd rs => exact absurd (by simp [Vol.kind, ne_bf]) c
    obtain ⟨a', e, ys, ea, ha', he, te⟩ := hv.folder_inv
    cases ea
    refine ⟨_, rfl, a, _, 1, _, rfl, rfl, SqT.of ha', at1 _ _ _, e, rfl, ⟨_, SqT.of he⟩, for_tup (K := K) (a := e) (xs := ys) (fun i σ H' => H' = H ∧ (∃ o1 o2, σ = [some (.ref a), some (.str n), o1, o2]) ∧ look (es.take i) n = none)
      ⟨rfl, ⟨_, _, rfl⟩, rfl⟩ (fun i σ H' _ ⟨h1, _, _⟩ => by rw [h1]; exact SqT.of he) ?_ ?_⟩
    · rintro i x σ H' hx ⟨rfl, ⟨o1, o2, rfl⟩, hn⟩
      obtain ⟨m, v', c', u', h1, rfl, h2, h3⟩ := te.get hx
      have st := look_step h1 hn
      refine ⟨c', _, rfl, SqT.of h2, rfl, _, _, rfl, _, _, rfl, ⟨rfl, ?_⟩⟩
      refine ⟨_, rfl, _, rfl, rfl, _, rfl, ?_⟩
      refine ite2 (fun c1 => ?_) (fun c1 => ?_)
      · have c2 : V.str m = V.str n := of_decide_eq_true c1
        cases c2
        rw [if_pos rfl] at st
        exact ⟨_, rfl, q1 _ _ (look_early st) h3⟩
      · refine ⟨rfl, ⟨_, _, rfl⟩, ?_⟩
        rw [st, if_neg]
        intro z
        subst z
        exact c1 (decide_eq_true rfl)
    · rintro σ H' ⟨rfl, ⟨o1, o2, rfl⟩, hn⟩
      refine q2 ?_
      rw [te.len, List.take_length] at hn
      exact hn
end
end Sc

namespace Sc
open PySem L2
section
variable {P : Program} {w : World} {K : PySem.W.Frag} {mg : Str → Option Value} {base : Heap} {CA CN : Addr}
/-! ### lookup -/
theorem lookupV_step (c : Vol) (n : Str) (r : Path) : lookupV c (n :: r) = match lookE c n with
    | some d => lookupV d r
    | none => none := by
  cases c with
  | folder es => rw [lookupV]; rfl
  | text s => rw [lookupV]; rfl
  | table h rs => rw [lookupV]; rfl
def spLookup (CN : Addr) : Sp := fun vs H Q E => ∃ (u q : V) (v : Vol) (p : Path), vs = [u, q] ∧ VolAt H u v ∧ PathAt H q p ∧ (∀ c u', lookupV v p = some c → VolAt H u' c → Q u' H) ∧ (lookupV v p = none → E (.ref CN) none H)
theorem scLookup : FnScope ["volume", "path", "part", "name"] ["volume", "path"] (defScope sPLookup) := ⟨rfl, rfl, rfl, by decide +kernel, rfl, by decide +kernel, by decide +kernel⟩
theorem ok_lookup {f g : Addr} {fd gd : FuncData} (T : Txt K mg CA CN) (D : DPLookup K mg f fd) (D1 : DPEntry K mg g gd) : FnOk P w K mg base (L2.CX P w) 2 f fd ["volume", "path"] (spLookup CN) := by
  have G := ok_entry (P := P) (w := w) (base := base) D1
  refine D.F.okX scLookup (fun vs H Q E h => ?_) (fun cdv A outer s H vs Q E hr h => ?_)
  · obtain ⟨u, q, v, p, rfl, _⟩ := h
    rfl
  obtain ⟨u, q, v, p, rfl, hv, hp, q1, q2⟩ := h
  refine ⟨_, pss_cons (ps_set (i := 2) scLookup.nd rfl (.inl rfl) (pv 0))
    (pss_cons (ps_for (passes_of rfl) rfl (pi_tup (pv 1)) (pg_name (i := 3) scLookup.nd rfl (.inl rfl))
      (pss_cons (ps_set (i := 2) scLookup.nd rfl (.inl rfl) (pe_call G hr rfl D1.m D1.F.kp D1.b .nil pass0 (pa_cons (pv 2) (pa_cons (pv 3) pa_nil))))
      (pss_one (ps_if (pt_cmpR op_isN (pv 2) pe_non (nomark _)) (pss_one (ps_raise rfl (takes_of rfl rfl rfl rfl) (pmk_own PySem.F.excBase_ValueError T.xN T.gN T.kN (raises_own T.bN T.tN) (by exact rfl)))) pss_nil))))
    (pss_one (ps_ret (pv 2)))), ?_⟩
  obtain ⟨a, rfl, ha⟩ := hp.inv
  refine ⟨_, rfl, _, rfl, a, rfl, ⟨_, SqT.of ha⟩, for_tup (K := K) (a := a) (xs := p.map V.str) (fun i σ H' => H' = H ∧ ∃ o u' c, σ = [some u, some (.ref a), some u', o] ∧ VolAt H u' c ∧ lookupV v p = lookupV c (p.drop i))
    ⟨rfl, _, u, v, rfl, hv, rfl⟩ (fun i σ H' _ ⟨h1, _⟩ => by rw [h1]; exact SqT.of ha) ?_ ?_⟩
  · rintro i x σ H' hx ⟨rfl, o, u', c, rfl, hc, e⟩
    obtain ⟨n, hn, rfl⟩ := map_at hx
    rw [drop_at hn, lookupV_step] at e
    refine ⟨_, rfl, _, rfl, u', c, n, rfl, hc, fun d u2 h1 h2 => ?_, fun h1 => ?_⟩
    · obtain ⟨b, xs, rfl, _⟩ := h2.head
      refine ⟨_, rfl, rfl, _, rfl, ?_⟩
      refine iteF ?_
      rw [h1] at e
      exact ⟨rfl, _, _, d, rfl, h2, e⟩
    · refine ⟨_, rfl, rfl, _, rfl, ?_⟩
      refine iteT ?_
      rw [h1] at e
      exact q2 e
  · rintro σ H' ⟨rfl, o, u', c, rfl, hc, e⟩
    rw [List.length_map, List.drop_length, lookupV_nil] at e
    exact ⟨_, rfl, q1 c u' e hc⟩
end
end Sc

namespace Sc
open PySem L2
section
variable {P : Program} {w : World} {K : PySem.W.Frag} {mg : Str → Option Value} {base : Heap} {CA CN : Addr}
/-! ### _with_entry -/
theorem filter_step {f : Str × Vol → Bool} {es : Ents} {i : Nat} {p : Str × Vol} (h : es[i]? = some p) : (es.take (i + 1)).filter f = if f p = true then (es.take i).filter f ++ [p] else (es.take i).filter f := by
  rw [take_at h, List.filter_append]
  by_cases c : f p = true <;> simp [c]
def spWith : Sp := fun vs H Q _ => ∃ (u x : V) (es : Ents) (n : Str) (c : Vol), vs = [u, .str n, x] ∧ VolAt H u (.folder es) ∧ VolAt H x c ∧ es.length ≤ 100000 ∧ ∀ r H', Same H H' → VolAt H' r (.folder (withE es n c)) → Q r H'
theorem scWith : FnScope ["folder", "name", "child", "before", "after", "entry"] ["folder", "name", "child"] (defScope sPWithEntry) := ⟨rfl, rfl, rfl, by decide +kernel, rfl, by decide +kernel, by decide +kernel⟩
theorem ok_with {f : Addr} {fd : FuncData} (T : Txt K mg CA CN) (D : DPWithEntry K mg f fd) : FnOk P w K mg base CX0 1 f fd ["folder", "name", "child"] spWith := by
  refine D.F.ok scWith (fun vs H Q E h => ?_) (fun cdv A outer s H vs Q E hr h => ?_)
  · obtain ⟨u, x, es, n, c, rfl, _⟩ := h
    rfl
  obtain ⟨u, x, es, n, c, rfl, hv, hx, hlen, q⟩ := h
  refine ⟨_, pss_cons (ps_setLc (i := 3) (own := [("entry", 5)]) (g := gName 5) rfl scWith.nd rfl rfl (sw_true rfl rfl rfl (by decide +kernel)) (pi_tup (pe_ix ix_tup (pv 0) pe_int (fun _ _ => rfl)))
      (blkOk_by (N := ["folder", "name", "child", "before", "after", "entry"]) (sc := defScope sPWithEntry) (by decide +kernel)) (fun _ _ _ _ _ => pg_name (i := 5) scWith.nd rfl (Or.inl rfl))
      (fun _ _ _ _ _ => pts_one (pt_cmpR op_lt_str (pe_ix (r := rIxT K) ix_tup (pv 5) pe_int (fun _ _ => rfl)) (pv 1) (nomark _))) (fun _ _ _ _ _ => pv 5))
    (pss_cons (ps_setLc (i := 4) (own := [("entry", 5)]) (g := gName 5) rfl scWith.nd rfl rfl (sw_true rfl rfl rfl (by decide +kernel)) (pi_tup (pe_ix ix_tup (pv 0) pe_int (fun _ _ => rfl)))
      (blkOk_by (N := ["folder", "name", "child", "before", "after", "entry"]) (sc := defScope sPWithEntry) (by decide +kernel)) (fun _ _ _ _ _ => pg_name (i := 5) scWith.nd rfl (Or.inl rfl))
      (fun _ _ _ _ _ => pts_one (pt_cmpR op_gt_str (pe_ix (r := rIxT K) ix_tup (pv 5) pe_int (fun _ _ => rfl)) (pv 1) (nomark _))) (fun _ _ _ _ _ => pv 5))
    (pss_one (ps_ret (pe_tup (pa_cons pe_str (pa_cons (pe_callTy call_tuple_of (by rfl) T.mTuple (by decide +kernel) (pa_cons (pe_op op_cat (pe_op op_cat (pv 3) (pe_lst (pa_cons (pe_tup (pa_cons (pv 1) (pa_cons (pv 2) pa_nil))) pa_nil))) (pv 4)) pa_nil)) pa_nil)))))), ?_⟩
  obtain ⟨a, e, ys, rfl, ha, he, te⟩ := hv.folder_inv
  refine ⟨_, rfl, a, _, 1, _, rfl, rfl, SqT.of ha, at1 _ _ _, e, rfl, ⟨_, SqT.of he⟩, fun B hB => lc_tup (K := K) (a := e) (xs := ys)
    (fun i H' => ∃ L, H' B = some (.lst L) ∧ EntsAt H L ((es.take i).filter fun p => decide (nlt p.1 n)) ∧ L.length ≤ i ∧ Same H H') ⟨[], upd_same, EntsAt.nil, Nat.le_refl _, same_new hB _⟩ (fun i H' _ ⟨L, _, _, _, s1⟩ => SqT.of (s1 _ _ he)) ?_ ?_⟩
  · rintro i y H' hy ⟨L, hL, hE, hl, s1⟩
    obtain ⟨m, v', c', u', h1, rfl, h2, h3⟩ := te.get hy
    refine ⟨rfl, _, rfl, c', _, 0, _, rfl, rfl, SqT.of (s1 _ _ h2), at0 _ _, _, rfl, _, _, rfl, rfl, _, rfl, ?_⟩
    have fs := filter_step (f := fun p => decide (nlt p.1 n)) h1
    refine ite2 (fun c1 => ?_) (fun c1 => ?_)
    · rw [if_pos (show decide (nlt m n) = true from c1)] at fs
      refine ⟨_, rfl, L, hL, small (by have := at_lt hy; have := te.len; omega), _, upd_same, ?_, by rw [List.length_append]; exact Nat.succ_le_succ hl, fun b o z => by rw [upd_ne (ne_of_none z hB)]; exact s1 b o z⟩
      rw [fs]
      exact hE.app (EntsAt.cons h2 h3 EntsAt.nil)
    · rw [if_neg (show ¬ decide (nlt m n) = true from c1)] at fs
      refine ⟨L, hL, ?_, Nat.le_succ_of_le hl, s1⟩
      rw [fs]
      exact hE
  rintro H1 ⟨L, hL, hE, hl, s1⟩
  have nB : B ≠ a ∧ B ≠ e := ⟨(ne_of_none ha hB).symm, (ne_of_none he hB).symm⟩
  rw [te.len, List.take_length] at hE
  refine ⟨_, rfl, a, _, 1, _, rfl, rfl, SqT.of (s1 _ _ ha), at1 _ _ _, e, rfl, ⟨_, SqT.of (s1 _ _ he)⟩, fun C hC => lc_tup (K := K) (a := e) (xs := ys)
    (fun i H' => ∃ M, H' C = some (.lst M) ∧ EntsAt H M ((es.take i).filter fun p => decide (nlt n p.1)) ∧ M.length ≤ i ∧ Same H1 H') ⟨[], upd_same, EntsAt.nil, Nat.le_refl _, same_new hC _⟩ (fun i H' _ ⟨M, _, _, _, s2⟩ => SqT.of (s2 _ _ (s1 _ _ he))) ?_ ?_⟩
  · rintro i y H' hy ⟨M, hM, hF, hm, s2⟩
    obtain ⟨m, v', c', u', h1, rfl, h2, h3⟩ := te.get hy
    refine ⟨rfl, _, rfl, c', _, 0, _, rfl, rfl, SqT.of (s2 _ _ (s1 _ _ h2)), at0 _ _, _, rfl, _, _, rfl, rfl, _, rfl, ?_⟩
    have fs := filter_step (f := fun p => decide (nlt n p.1)) h1
    refine ite2 (fun c1 => ?_) (fun c1 => ?_)
    · rw [if_pos (show decide (nlt n m) = true from c1)] at fs
      refine ⟨_, rfl, M, hM, small (by have := at_lt hy; have := te.len; omega), _, upd_same, ?_, by rw [List.length_append]; exact Nat.succ_le_succ hm, fun b o z => by rw [upd_ne (ne_of_none z hC)]; exact s2 b o z⟩
      rw [fs]
      exact hF.app (EntsAt.cons h2 h3 EntsAt.nil)
    · rw [if_neg (show ¬ decide (nlt n m) = true from c1)] at fs
      refine ⟨M, hM, ?_, Nat.le_succ_of_le hm, s2⟩
      rw [fs]
      exact hF
  rintro H2 ⟨M, hM, hF, hm, s2⟩
  rw [te.len, List.take_length] at hF
  have s12 : Same H H2 := s1.trans s2
  refine ⟨_, rfl, _, rfl, _, rfl, sz2 _ _, fun t1 n1 => ⟨sz1 _, fun t2 n2 => ?_⟩⟩
  have g1 : Same H2 (upd H2 t1 (.tup [.str n, x])) := same_new n1 _
  have g2 : Same H2 (upd (upd H2 t1 (.tup [.str n, x])) t2 (.lst [.ref t1])) := g1.trans (same_new n2 _)
  have l3 : L.length ≤ 100000 := by have := te.len; omega
  have l4 : M.length ≤ 100000 := by have := te.len; omega
  refine ⟨B, t2, L, [.ref t1], rfl, rfl, g2 _ _ (s2 _ _ hL), upd_same, small' (by show L.length + 1 ≤ _; omega), fun t3 n3 => ?_⟩
  have g3 := g2.trans (same_new n3 (.lst (L ++ [.ref t1])))
  refine ⟨_, rfl, t3, C, _, M, rfl, rfl, upd_same, g3 _ _ hM, small' (by rw [List.length_append]; show L.length + 1 + M.length ≤ _; omega), fun t4 n4 => ?_⟩
  have g4 := g3.trans (same_new n4 (.lst (L ++ [.ref t1] ++ M)))
  refine ⟨t4, _, rfl, .inl ⟨SqL.of upd_same, fun t5 n5 => ⟨sz2 _ _, fun t6 n6 => ?_⟩⟩⟩
  have g5 := g4.trans (same_new n5 (.tup (L ++ [.ref t1] ++ M)))
  have g6 := g5.trans (same_new n6 (.tup [.str "folder", .ref t5]))
  refine q _ _ (s12.trans g6) ?_
  refine VolAt.folder upd_same (same_new n6 _ _ _ upd_same) ?_
  have ts := ts_of (s12.trans g6)
  refine EntsAt.app (EntsAt.app (TpAll.mono ts hE) (EntsAt.cons ?_ (Tp.mono ts hx) EntsAt.nil)) (TpAll.mono ts hF)
  exact same_new n6 _ _ _ (same_new n5 _ _ _ (same_new n4 _ _ _ (same_new n3 _ _ _ (same_new n2 _ _ _ upd_same))))
end
end Sc

namespace Sc
open PySem L2
section
variable {P : Program} {w : World} {K : PySem.W.Frag} {mg : Str → Option Value} {base : Heap} {CA CN : Addr}
/-! ### replaced -/
theorem repl_walk : ∀ (p : Path) (v c r : Vol), repl v p c = some r → ∃ (rs : Nat → Vol) (fs : Nat → Ents), rs p.length = c ∧ rs 0 = r ∧
    ∀ k n, p[k]? = some n → lookupV v (p.take k) = some (.folder (fs k)) ∧ rs k = .folder (withE (fs k) n (rs (k + 1)))
  | [], v, c, r, h => by
    rw [repl_nil] at h
    cases h
    exact ⟨fun _ => c, fun _ => [], rfl, rfl, fun k n z => by simp at z⟩
  | [n], v, c, r, h => by
    cases v with
    | text s => rw [repl] at h; cases h
    | table a b => rw [repl] at h; cases h
    | folder es =>
      rw [repl] at h
      cases h
      refine ⟨fun k => if k = 0 then .folder (withE es n c) else c, fun _ => es, rfl, rfl, fun k m z => ?_⟩
      cases k with
      | zero =>
        simp at z
        subst z
        exact ⟨lookupV_nil _, rfl⟩
      | succ k => simp at z
  | n :: m :: q, v, c, r, h => by
    cases v with
    | text s => rw [repl] at h; cases h
    | table a b => rw [repl] at h; cases h
    | folder es =>
      cases e : look es n with
      | none => rw [repl, e] at h; cases h
      | some d =>
        rw [repl_cons e] at h
        cases e2 : repl d (m :: q) c with
        | none => rw [e2] at h; cases h
        | some r' =>
          rw [e2] at h
          cases h
          obtain ⟨rs, fs, h1, h2, h3⟩ := repl_walk (m :: q) d c r' e2
          refine ⟨fun k => match k with | 0 => .folder (withE es n r') | k + 1 => rs k, fun k => match k with | 0 => es | k + 1 => fs k, h1, rfl, fun k x z => ?_⟩
          cases k with
          | zero =>
            simp at z
            subst z
            refine ⟨lookupV_nil _, ?_⟩
            show Vol.folder (withE es n r') = Vol.folder (withE es n (rs 0))
            rw [h2]
          | succ k =>
            have z' : (m :: q)[k]? = some x := by simpa using z
            obtain ⟨g1, g2⟩ := h3 k x z'
            refine ⟨?_, g2⟩
            show lookupV (.folder es) (n :: (m :: q).take k) = _
            rw [lookupV_cons e]
            exact g1
theorem lookupV_ok {W : Nat} : ∀ (p : Path) (v d : Vol), v.Ok W → lookupV v p = some d → d.Ok W
  | [], v, d, h, e => by
    rw [lookupV_nil] at e
    cases e
    exact h
  | n :: r, v, d, h, e => by
    cases v with
    | text s => rw [lookupV] at e; cases e
    | table a b => rw [lookupV] at e; cases e
    | folder es =>
      rw [lookupV] at e
      cases e2 : look es n with
      | none => rw [e2] at e; cases e
      | some c =>
        rw [e2] at e
        rw [Vol.Ok] at h
        exact lookupV_ok r c d (entsOk_iff.mp h.2.2 _ (look_mem e2)).2 e
def spReplaced : Sp := fun vs H Q _ => ∃ (u q x : V) (v c r : Vol) (p : Path), vs = [u, q, x] ∧ VolAt H u v ∧ PathAt H q p ∧ VolAt H x c ∧ v.Ok 100000 ∧ p.length ≤ 1000 ∧ repl v p c = some r ∧ ∀ r' H', Same H H' → VolAt H' r' r → Q r' H'
theorem scReplaced : FnScope ["volume", "path", "new", "result", "at", "folder"] ["volume", "path", "new"] (defScope sPReplaced) := ⟨rfl, rfl, rfl, by decide +kernel, rfl, by decide +kernel, by decide +kernel⟩
theorem cut_take (l : List V) (k : Nat) : cutV l none (some (k : Int)) = l.take k := by
  unfold cutV
  rw [HT.sIx_none, HT.sIx_nat, List.drop_zero, Nat.sub_zero]
  by_cases h : k ≤ l.length
  · rw [Nat.min_eq_left h]
  · rw [Nat.min_eq_right (by omega), List.take_length, List.take_of_length_le (by omega)]
theorem ok_replaced {f g1 g2 g3 : Addr} {fd gd1 gd2 gd3 : FuncData} (T : Txt K mg CA CN) (D : DPReplaced K mg f fd) (D1 : DPEntry K mg g1 gd1) (D2 : DPLookup K mg g2 gd2) (D3 : DPWithEntry K mg g3 gd3) :
    FnOk P w K mg base CX0 3 f fd ["volume", "path", "new"] spReplaced := by
  have GL := ok_lookup (P := P) (w := w) (base := base) T D2 D1
  have GW := ok_with (P := P) (w := w) (base := base) T D3
  refine D.F.ok scReplaced (fun vs H Q E h => ?_) (fun cdv A outer s H vs Q E hr h => ?_)
  · obtain ⟨u, q, x, v, c, r, p, rfl, _⟩ := h
    rfl
  obtain ⟨u, q, x, v, c, r, p, rfl, hv, hp, hx, ho, hl, hrep, k⟩ := h
  have hr1 : Room 1 _ := hr.mono (by decide)
  refine ⟨_, pss_cons (ps_set (i := 3) scReplaced.nd rfl (.inl rfl) (pv 2))
    (pss_cons (ps_for PassesOwn.never rfl (pi_range3 (by rfl) T.mRange (pa_cons (pe_op op_sub (pe_callB call_len_seq (by rfl) T.mLen PySem.boot_len (pa_cons (pv 1) pa_nil)) pe_int) (pa_cons (pe_un un_neg pe_int) (pa_cons (pe_un un_neg pe_int) pa_nil)))) (pg_name (i := 4) scReplaced.nd rfl (.inl rfl))
      (pss_cons (ps_set (i := 5) scReplaced.nd rfl (.inl rfl) (pe_call GL hr rfl D2.m D2.F.kp D2.b .nil passL (pa_cons (pv 0) (pa_cons (pe_slice sl_tupA (pv 1) po_none (po_some (pv 4))) pa_nil))))
      (pss_cons (ps_if (pt_cmpR op_ne (pe_ix ix_tup (pv 5) pe_int (fun _ _ => rfl)) pe_str (nomark _)) (pss_one ps_never) pss_nil)
      (pss_one (ps_set (i := 3) scReplaced.nd rfl (.inl rfl) (pe_call GW hr1 rfl D3.m D3.F.kp D3.b .nil pass0 (pa_cons (pv 5) (pa_cons (pe_ix ix_tup (pv 1) (pv 4) (fun _ _ => rfl)) (pa_cons (pv 3) pa_nil)))))))))
    (pss_one (ps_ret (pv 3)))), ?_⟩
  obtain ⟨a, rfl, ha⟩ := hp.inv
  obtain ⟨rs, fs, w1, w2, w3⟩ := repl_walk p v c r hrep
  have lp : (p.map V.str).length = p.length := List.length_map _
  refine ⟨_, rfl, _, rfl, a, _, rfl, .inr (SqT.of ha), _, _, rfl, rfl, _, rfl, _, rfl, _, _, _, p.length, rfl, ?_, for_rangeC (n := p.length)
    (fun i σ H' => ∃ o1 o2 u', σ = [some u, some (.ref a), some x, some u', o1, o2] ∧ Same H H' ∧ VolAt H' u' (rs (p.length - i))) ⟨_, _, x, rfl, Same.refl _, by rw [Nat.sub_zero, w1]; exact hx⟩ ?_ ?_⟩
  · have := RgC.neg (i := ((p.map V.str).length : Int) - 1) (j := -1) (by omega) (by omega) (by omega) (by omega)
    rw [lp] at this ⊢
    have e : ((p.length : Int) - 1 - -1).toNat = p.length := by omega
    rw [e] at this
    exact this
  · rintro i σ H' hi ⟨o1, o2, u', rfl, s1, hu⟩
    obtain ⟨n, hn⟩ : ∃ n, p[p.length - 1 - i]? = some n := ⟨_, List.getElem?_eq_getElem (by omega)⟩
    obtain ⟨g1, g2⟩ := w3 _ _ hn
    have ek : ((p.map V.str).length : Int) - 1 + (i : Int) * -1 = ((p.length - 1 - i : Nat) : Int) := by rw [lp]; omega
    rw [ek]
    generalize hk : p.length - 1 - i = kk at *
    have hkl : kk < p.length := by omega
    have e1 : p.length - i = kk + 1 := by omega
    rw [e1] at hu
    refine ⟨_, rfl, _, rfl, _, rfl, _, rfl, a, _, rfl, SqT.of (s1 _ _ ha), fun z => ?_, fun _ t nt => ?_⟩
    · rw [HT.sIx_nat, lp] at z
      omega
    rw [cut_take, ← List.map_take]
    have s2 := s1.trans (same_new nt (.tup ((p.take kk).map V.str)))
    refine ⟨_, _, v, p.take kk, rfl, Tp.mono (ts_of s2) hv, PathAt.mk upd_same, fun d u2 h1 h2 => ?_, fun h1 => ?_⟩
    · rw [g1] at h1
      cases h1
      obtain ⟨b, e, ys, rfl, hb, he, te⟩ := h2.folder_inv
      refine ⟨_, rfl, b, _, 0, _, rfl, rfl, SqT.of hb, at0 _ _, rfl, _, rfl, ?_⟩
      refine iteNS rfl ?_
      have okd := lookupV_ok _ _ _ ho g1
      rw [Vol.Ok] at okd
      have hn' : (p.map V.str)[kk]? = some (.str n) := by rw [List.getElem?_map, hn]; rfl
      refine ⟨_, rfl, _, rfl, _, rfl, a, _, _, _, rfl, rfl, SqT.of (s2 _ _ ha), atI_nat hn', _, rfl, _, _, fs kk, n, rs (kk + 1), rfl, h2, Tp.mono (ts_of (same_new nt _)) hu, okd.1, fun r' H2 s3 h3 => ?_⟩
      refine ⟨_, _, _, rfl, s2.trans s3, ?_⟩
      have e2 : p.length - (i + 1) = kk := by omega
      rw [e2, g2]
      exact h3
    · rw [g1] at h1
      cases h1
  · rintro σ H' ⟨o1, o2, u', rfl, s1, hu⟩
    rw [Nat.sub_self, w2] at hu
    exact ⟨_, rfl, k _ _ s1 hu⟩
end
end Sc

namespace Sc
open PySem L2
section
variable {P : Program} {w : World} {K : PySem.W.Frag} {mg : Str → Option Value} {base : Heap} {CA CN : Addr}
/-! ### removed -/
theorem cut_init {l : List V} (h : l ≠ []) : ¬ (HT.sIx l.length 0 none = 0 ∧ HT.sIx l.length l.length (some (-1)) = l.length) ∧ cutV l none (some (-1)) = l.dropLast := by
  have hl : 0 < l.length := List.length_pos_iff.mpr h
  have e : HT.sIx l.length l.length (some (-1)) = l.length - 1 := by
    show (if (-1 : Int) < 0 then (-1 + (l.length : Int)).toNat else min (-1 : Int).toNat l.length) = l.length - 1
    rw [if_pos (by decide)]
    omega
  refine ⟨fun z => ?_, ?_⟩
  · rw [e] at z
    omega
  · unfold cutV
    rw [e, HT.sIx_none, List.drop_zero, Nat.sub_zero, List.dropLast_eq_take]
theorem at_end {l : List V} {x : V} (h : l.getLast? = some x) : atI l (-1) = some x := by
  obtain ⟨m, rfl⟩ := List.getLast?_eq_some_iff.mp h
  exact atI_last m x
def spRemoved (CN : Addr) : Sp := fun vs H Q E => ∃ (u q : V) (v : Vol) (p : Path), vs = [u, q] ∧ VolAt H u v ∧ PathAt H q p ∧ p ≠ [] ∧ v.Ok 100000 ∧ p.length ≤ 1000 ∧
  ((∃ r, remP v p = some r ∧ ∀ r' H', Same H H' → VolAt H' r' r → Q r' H') ∨ (lookupV v p = none ∧ E (.ref CN) none H))
theorem remP_inv {v r : Vol} {p : Path} (h : remP v p = some r) : ∃ n d es, p.getLast? = some n ∧ lookupV v p = some d ∧ lookupV v p.dropLast = some (.folder es) ∧ repl v p.dropLast (.folder (delE es n)) = some r := by
  unfold remP at h
  split at h
  · rename_i n d es h1 h2 h3
    exact ⟨n, d, es, h1, h2, h3, h⟩
  · cases h
theorem scRemoved : FnScope ["volume", "path", "folder", "kept", "entry"] ["volume", "path"] (defScope sPRemoved) := ⟨rfl, rfl, rfl, by decide +kernel, rfl, by decide +kernel, by decide +kernel⟩
theorem ok_removed {f g1 g2 g3 g4 : Addr} {fd gd1 gd2 gd3 gd4 : FuncData} (T : Txt K mg CA CN) (D : DPRemoved K mg f fd) (D1 : DPEntry K mg g1 gd1) (D2 : DPLookup K mg g2 gd2) (D3 : DPWithEntry K mg g3 gd3) (D4 : DPReplaced K mg g4 gd4) :
    FnOk P w K mg base (L2.CX P w) 4 f fd ["volume", "path"] (spRemoved CN) := by
  have GL := ok_lookup (P := P) (w := w) (base := base) T D2 D1
  have GR := ok_replaced (P := P) (w := w) (base := base) T D4 D1 D2 D3
  refine D.F.okX scRemoved (fun vs H Q E h => ?_) (fun cdv A outer s H vs Q E hr h => ?_)
  · obtain ⟨u, q, v, p, rfl, _⟩ := h
    rfl
  obtain ⟨u, q, v, p, rfl, hv, hp, hne, ho, hl, k⟩ := h
  have hr2 : Room 2 _ := hr.mono (by decide)
  refine ⟨_, pss_cons (ps_if (pt_cmpR op_eq (pe_callB call_len_seq (by rfl) T.mLen PySem.boot_len (pa_cons (pv 1) pa_nil)) pe_int (nomark _)) (pss_one ps_never) pss_nil)
    (pss_cons (ps_expr (pe_call GL hr2 rfl D2.m D2.F.kp D2.b .nil (passes_call (takes_of rfl rfl rfl rfl) (fun _ _ _ _ h => h)) (pa_cons (pv 0) (pa_cons (pv 1) pa_nil))))
    (pss_cons (ps_set (i := 2) scRemoved.nd rfl (.inl rfl) (pe_call GL hr2 rfl D2.m D2.F.kp D2.b .nil (passes_call (takes_of rfl rfl rfl rfl) (fun _ _ _ _ h => h)) (pa_cons (pv 0) (pa_cons (pe_slice sl_tupA (pv 1) po_none (po_some (pe_un un_neg pe_int))) pa_nil))))
    (pss_cons (ps_set (i := 3) scRemoved.nd rfl (.inl rfl) (pe_tup (pa_cons pe_str (pa_cons (pe_callTy call_tuple_of (by rfl) T.mTuple (by decide +kernel) (pa_cons
        (pe_lc (own := [("entry", 4)]) (g := gName 4) rfl scRemoved.nd (pi_tup (pe_ix ix_tup (pv 2) pe_int (fun _ _ => rfl))) (blkOk_by (N := ["volume", "path", "folder", "kept", "entry"]) (sc := defScope sPRemoved) (by decide +kernel))
          (fun _ _ _ _ _ => pg_name (i := 4) scRemoved.nd rfl (Or.inl rfl)) (fun _ _ _ _ _ => pts_one (pt_cmpR op_ne (pe_ix (r := rIxT K) ix_tup (pv 4) pe_int (fun _ _ => rfl)) (pe_ix (r := rIxT K) ix_tup (pv 1) (pe_un un_neg pe_int) (fun _ _ => rfl)) (nomark _))) (fun _ _ _ _ _ => pv 4)) pa_nil)) pa_nil))))
    (pss_one (ps_ret (pe_call GR hr rfl D4.m D4.F.kp D4.b .nil pass0 (pa_cons (pv 0) (pa_cons (pe_slice sl_tupA (pv 1) po_none (po_some (pe_un un_neg pe_int))) (pa_cons (pv 3) pa_nil)))))))))
    , ?_⟩
  obtain ⟨a, rfl, ha⟩ := hp.inv
  have lp : (p.map V.str).length = p.length := List.length_map _
  have hne' : p.map V.str ≠ [] := fun z => hne (List.map_eq_nil_iff.mp z)
  have hpos : 0 < p.length := List.length_pos_iff.mpr hne
  refine ⟨_, rfl, a, _, rfl, .inr (SqT.of ha), rfl, _, rfl, ?_⟩
  have c0 : ¬ (decide (V.int ((p.map V.str).length : Nat) = V.int 0) = true) := fun z => by
    have z' := of_decide_eq_true z
    injection z' with z'
    omega
  refine ite2 (fun c => absurd c c0) (fun _ => ?_)
  rcases k with ⟨r, hrem, k⟩ | ⟨hno, k⟩
  · obtain ⟨n, d, es, h1, h2, h3, h4⟩ := remP_inv hrem
    have hn : (p.map V.str).getLast? = some (.str n) := by rw [List.getLast?_map, h1]; rfl
    refine ⟨_, rfl, _, rfl, _, _, v, p, rfl, hv, PathAt.mk ha, fun d' u1 _ _ => ?_, fun z => by rw [h2] at z; cases z⟩
    obtain ⟨ci1, ci2⟩ := cut_init hne'
    refine ⟨_, rfl, _, rfl, _, rfl, _, rfl, a, _, rfl, SqT.of ha, fun z => absurd z ci1, fun _ t nt => ?_⟩
    rw [ci2, ← List.map_dropLast]
    have s1 : Same H _ := same_new nt (.tup (p.dropLast.map V.str))
    refine ⟨_, _, v, p.dropLast, rfl, Tp.mono (ts_of s1) hv, PathAt.mk upd_same, fun d' u2 e2 hu2 => ?_, fun z => by rw [h3] at z; cases z⟩
    rw [h3] at e2
    cases e2
    obtain ⟨b, e, ys, rfl, hb, he, te⟩ := hu2.folder_inv
    have okd := lookupV_ok _ _ _ ho h3
    rw [Vol.Ok] at okd
    have okl := okd.1
    refine ⟨_, rfl, b, _, 1, _, rfl, rfl, SqT.of hb, at1 _ _ _, e, rfl, ⟨_, SqT.of he⟩, fun B hB => lc_tup (K := K) (a := e) (xs := ys)
      (fun i H' => ∃ L, H' B = some (.lst L) ∧ EntsAt H' L ((es.take i).filter fun p => !decide (p.1 = n)) ∧ L.length ≤ i ∧ Same (upd H t (.tup (p.dropLast.map V.str))) H') ⟨[], upd_same, EntsAt.nil, Nat.le_refl _, same_new hB _⟩ (fun i H' _ ⟨L, _, _, _, s2⟩ => SqT.of (s2 _ _ he)) ?_ ?_⟩
    · rintro i y H' hy ⟨L, hL, hE, hl', s2⟩
      obtain ⟨m, v', c', u', g1, rfl, g2, g3⟩ := te.get hy
      have fs := filter_step (f := fun p => !decide (p.1 = n)) g1
      refine ⟨rfl, ⟨_, rfl, c', _, 0, _, rfl, rfl, SqT.of (s2 _ _ g2), at0 _ _, _, rfl, _, rfl, a, _, _, _, rfl, rfl, SqT.of (s2 _ _ (s1 _ _ ha)), at_end hn, rfl, _, rfl, ?_⟩⟩
      refine ite2 (fun c1 => ?_) (fun c1 => ?_)
      · have c2 : m ≠ n := fun z => by subst z; simp at c1
        rw [if_pos (show (!decide (m = n)) = true by simp [c2])] at fs
        have hw : TS H' (upd H' B (.lst (L ++ [.ref c']))) := ts_lst hL
        refine ⟨_, rfl, L, hL, small (by have := at_lt hy; have := te.len; omega), _, upd_same, ?_, by rw [List.length_append]; exact Nat.succ_le_succ hl', fun b o z => by rw [upd_ne (ne_of_none z hB)]; exact s2 b o z⟩
        rw [fs]
        exact EntsAt.app (TpAll.mono hw hE) (EntsAt.cons (hw _ _ (s2 _ _ g2)) (Tp.mono hw (Tp.mono (ts_of s2) g3)) EntsAt.nil)
      · have c2 : m = n := by
          by_cases z : m = n
          · exact z
          · exact absurd (by simp [z]) c1
        rw [if_neg (show ¬ (!decide (m = n)) = true by simp [c2])] at fs
        refine ⟨L, hL, ?_, Nat.le_succ_of_le hl', s2⟩
        rw [fs]
        exact hE
    rintro H1 ⟨L, hL, hE, hl', s2⟩
    rw [te.len, List.take_length] at hE
    refine ⟨B, _, rfl, .inl ⟨SqL.of hL, fun t5 n5 => ⟨sz2 _ _, fun t6 n6 => ?_⟩⟩⟩
    have s3 := s1.trans s2
    have s5 := s3.trans (same_new n5 (.tup L))
    have s6 := s5.trans (same_new n6 (.tup [.str "folder", .ref t5]))
    refine ⟨_, rfl, _, rfl, _, rfl, _, rfl, a, _, rfl, SqT.of (s6 _ _ ha), fun z => absurd z ci1, fun _ t7 n7 => ?_⟩
    rw [ci2, ← List.map_dropLast]
    have s7 := s6.trans (same_new n7 (.tup (p.dropLast.map V.str)))
    refine ⟨_, rfl, _, _, _, v, .folder (delE es n), r, p.dropLast, rfl, Tp.mono (ts_of s7) hv, PathAt.mk upd_same, ?_, ho, by rw [List.length_dropLast]; omega, h4, fun r' H' s8 h8 => k r' H' (s7.trans s8) h8⟩
    refine VolAt.folder (same_new n7 _ _ _ upd_same) (same_new n7 _ _ _ (same_new n6 _ _ _ upd_same)) ?_
    exact TpAll.mono (ts_of ((same_new n5 (.tup L)).trans ((same_new n6 _).trans (same_new n7 _)))) hE
  · exact ⟨_, rfl, _, rfl, _, _, v, p, rfl, hv, PathAt.mk ha, (fun d' u1 z _ => by rw [hno] at z; cases z), fun _ => k⟩
end
end Sc

namespace Sc
open PySem L2
section
variable {P : Program} {w : World} {K : PySem.W.Frag} {mg : Str → Option Value} {base : Heap} {CA CN : Addr}
/-! ### apply_changes -/
abbrev ChgAt (H : Hp) (x : V) (c : Chg) : Prop := Tp H x c.data
theorem ChgAt.removed_inv {H : Hp} {x : V} {p : Path} (h : ChgAt H x (.removed p)) : ∃ t q, x = .ref t ∧ H t = some (.tup [.str "removed", q]) ∧ PathAt H q p := by
  have h' : Tp H x (.tuple [.str "removed", rowD p]) := h
  obtain ⟨a, xs, rfl, ha, t⟩ := h'.tup_inv
  obtain ⟨y1, r1, rfl, h1, t1⟩ := t.cons_inv
  obtain ⟨y2, r2, rfl, h2, t2⟩ := t1.cons_inv
  rw [h1.str_inv, t2.nil_inv] at ha
  exact ⟨a, y2, rfl, ha, h2⟩
theorem tri_inv {H : Hp} {x : V} {s : Str} {p : Path} {v : Vol} (h : Tp H x (.tuple [.str s, rowD p, v.data])) : ∃ t q z, x = .ref t ∧ H t = some (.tup [.str s, q, z]) ∧ PathAt H q p ∧ VolAt H z v := by
  obtain ⟨a, xs, rfl, ha, t⟩ := h.tup_inv
  obtain ⟨y1, r1, rfl, h1, t1⟩ := t.cons_inv
  obtain ⟨y2, r2, rfl, h2, t2⟩ := t1.cons_inv
  obtain ⟨y3, r3, rfl, h3, t3⟩ := t2.cons_inv
  rw [h1.str_inv, t3.nil_inv] at ha
  exact ⟨a, y2, y3, rfl, ha, h2, h3⟩
/-- a change that puts a volume in a place -/
def Chg.put : Chg → Option Vol
  | .removed _ => none
  | .changed _ v => some v
  | .added _ v => some v
theorem chg_view {H : Hp} {x : V} {c : Chg} (h : ChgAt H x c) : (∃ p t q, c = .removed p ∧ x = .ref t ∧ H t = some (.tup [.str "removed", q]) ∧ PathAt H q p) ∨
    (∃ (v : Vol) (s : Str) (t : Addr) (q z : V), c.put = some v ∧ s ≠ "removed" ∧ x = .ref t ∧ H t = some (.tup [.str s, q, z]) ∧ PathAt H q c.path ∧ VolAt H z v ∧ ∀ u, applyC u c = repl u c.path v) := by
  cases c with
  | removed p =>
    obtain ⟨t, q, h1, h2, h3⟩ := ChgAt.removed_inv h
    exact .inl ⟨p, t, q, rfl, h1, h2, h3⟩
  | changed p v =>
    obtain ⟨t, q, z, h1, h2, h3, h4⟩ := tri_inv (s := "changed") h
    exact .inr ⟨v, "changed", t, q, z, rfl, (by decide +kernel : ("changed" : Str) ≠ "removed"), h1, h2, h3, h4, fun _ => rfl⟩
  | added p v =>
    obtain ⟨t, q, z, h1, h2, h3, h4⟩ := tri_inv (s := "added") h
    exact .inr ⟨v, "added", t, q, z, rfl, (by decide +kernel : ("added" : Str) ≠ "removed"), h1, h2, h3, h4, fun _ => rfl⟩
/-- the changes run through, and nothing on the way is too wide -/
def Runs : Vol → List Chg → Vol → Prop
  | v, [], r => v = r
  | v, c :: cs, r => v.Ok 100000 ∧ c.path.length ≤ 1000 ∧ c.proper ∧ ∃ u, applyC v c = some u ∧ Runs u cs r
def spApply (K : PySem.W.Frag) (CN : Addr) : Sp := fun vs H Q E => ∃ (u : V) (l : Addr) (ys : List V) (v : Vol) (cs : List Chg), vs = [u, .ref l] ∧ VolAt H u v ∧ SqL K H l ys ∧ TpAll H ys (cs.map Chg.data) ∧
  ((∃ r, Runs v cs r ∧ ∀ r' H', Same H H' → VolAt H' r' r → Q r' H') ∨ (∃ p, cs = [.removed p] ∧ p ≠ [] ∧ p.length ≤ 1000 ∧ v.Ok 100000 ∧ lookupV v p = none ∧ E (.ref CN) none H))
theorem scApply : FnScope ["volume", "changes", "result", "change"] ["volume", "changes"] (defScope sPApplyChanges) := ⟨rfl, rfl, rfl, by decide +kernel, rfl, by decide +kernel, by decide +kernel⟩
theorem ok_apply {f g1 g2 g3 g4 g5 : Addr} {fd gd1 gd2 gd3 gd4 gd5 : FuncData} (T : Txt K mg CA CN) (D : DPApplyChanges K mg f fd) (D1 : DPEntry K mg g1 gd1) (D2 : DPLookup K mg g2 gd2) (D3 : DPWithEntry K mg g3 gd3) (D4 : DPReplaced K mg g4 gd4) (D5 : DPRemoved K mg g5 gd5) :
    FnOk P w K mg base (L2.CX P w) 5 f fd ["volume", "changes"] (spApply K CN) := by
  have GR := ok_replaced (P := P) (w := w) (base := base) T D4 D1 D2 D3
  have GM := ok_removed (P := P) (w := w) (base := base) T D5 D1 D2 D3 D4
  refine D.F.okX scApply (fun vs H Q E h => ?_) (fun cdv A outer s H vs Q E hr h => ?_)
  · obtain ⟨u, l, ys, v, cs, rfl, _⟩ := h
    rfl
  obtain ⟨u, l, ys, v, cs, rfl, hv, hl, hc, k⟩ := h
  have hr3 : Room 3 _ := hr.mono (by decide)
  refine ⟨_, pss_cons (ps_set (i := 2) scApply.nd rfl (.inl rfl) (pv 0))
    (pss_cons (ps_for (passes_of rfl) rfl (pi_list (pv 1)) (pg_name (i := 3) scApply.nd rfl (.inl rfl))
      (pss_one (ps_if (pt_cmpR op_eq (pe_ix ix_tup (pv 3) pe_int (fun _ _ => rfl)) pe_str (nomark _))
        (pss_one (ps_set (i := 2) scApply.nd rfl (.inl rfl) (pe_call GM hr rfl D5.m D5.F.kp D5.b .nil (passes_call (takes_of rfl rfl rfl rfl) (fun _ _ _ _ h => h)) (pa_cons (pv 2) (pa_cons (pe_ix ix_tup (pv 3) pe_int (fun _ _ => rfl)) pa_nil)))))
        (pss_one (ps_set (i := 2) scApply.nd rfl (.inl rfl) (pe_call GR hr3 rfl D4.m D4.F.kp D4.b .nil pass0 (pa_cons (pv 2) (pa_cons (pe_ix ix_tup (pv 3) pe_int (fun _ _ => rfl)) (pa_cons (pe_ix ix_tup (pv 3) pe_int (fun _ _ => rfl)) pa_nil))))))))) 
    (pss_one (ps_ret (pv 2)))), ?_⟩
  rcases k with ⟨r, hrun, k⟩ | ⟨p, rfl, hne, hpl, ho, hno, k⟩
  · refine ⟨_, rfl, _, rfl, l, rfl, ⟨_, hl⟩, for_list (K := K) (a := l) (xs := ys) (fun i σ H' => ∃ o u' v', σ = [some u, some (.ref l), some u', o] ∧ Same H H' ∧ VolAt H' u' v' ∧ Runs v' (cs.drop i) r)
      ⟨_, u, v, rfl, Same.refl _, hv, hrun⟩ (fun i σ H' _ ⟨_, _, _, _, s1, _⟩ => s1.seq hl) ?_ ?_⟩
    · rintro i x σ H' hx ⟨o, u', v', rfl, s1, hu, hrun'⟩
      obtain ⟨d, hd, hxd⟩ := TpAll.get hc hx
      obtain ⟨c, hci, rfl⟩ := map_at hd
      rw [drop_at hci] at hrun'
      obtain ⟨r1, r2, r3, u2, r4, r5⟩ := hrun'
      have hxd' : ChgAt H' x c := Tp.mono (ts_of s1) hxd
      rcases chg_view hxd' with ⟨p, t, q, rfl, rfl, ht, hq⟩ | ⟨vn, s, t, q, z, e1, e2, rfl, ht, hq, hz, e3⟩
      · refine ⟨_, rfl, t, _, 0, _, rfl, rfl, SqT.of ht, at0 _ _, rfl, _, rfl, ?_⟩
        refine ite2 (fun _ => ?_) (fun c1 => absurd (decide_eq_true rfl) c1)
        refine ⟨_, rfl, _, rfl, t, _, 1, _, rfl, rfl, SqT.of ht, at1 _ _ _, _, _, v', p, rfl, hu, hq, r3, r1, r2, .inl ⟨u2, r4, fun r' H2 s2 h2 => ?_⟩⟩
        exact ⟨_, _, u2, rfl, s1.trans s2, h2, r5⟩
      · refine ⟨_, rfl, t, _, 0, _, rfl, rfl, SqT.of ht, at0 _ _, rfl, _, rfl, ?_⟩
        refine ite2 (fun c1 => ?_) (fun _ => ?_)
        · have c2 := of_decide_eq_true c1
          injection c2 with c2
          exact absurd c2 e2
        rw [e3] at r4
        refine ⟨_, rfl, _, rfl, t, _, 1, _, rfl, rfl, SqT.of ht, at1 _ _ _, _, rfl, t, _, 2, _, rfl, rfl, SqT.of ht, at2 _ _ _ _, _, _, _, v', vn, u2, c.path, rfl, hu, hq, hz, r1, r2, r4, fun r' H2 s2 h2 => ?_⟩
        exact ⟨_, _, u2, rfl, s1.trans s2, h2, r5⟩
    · rintro σ H' ⟨o, u', v', rfl, s1, hu, hrun'⟩
      have e : ys.length = cs.length := by rw [hc.len, List.length_map]
      rw [e, List.drop_length] at hrun'
      have e2 : v' = r := hrun'
      subst e2
      exact ⟨_, rfl, k _ _ s1 hu⟩
  · obtain ⟨x, r, rfl, hx, hr0⟩ := TpAll.cons_inv hc
    have e0 := TpAll.nil_inv hr0
    subst e0
    obtain ⟨t, q, rfl, ht, hq⟩ := ChgAt.removed_inv hx
    refine ⟨_, rfl, _, rfl, l, rfl, ⟨_, hl⟩, for_list (K := K) (a := l) (xs := [.ref t]) (fun i σ H' => i = 0 ∧ H' = H ∧ ∃ o, σ = [some u, some (.ref l), some u, o])
      ⟨rfl, rfl, _, rfl⟩ (fun i σ H' _ ⟨_, h1, _⟩ => by rw [h1]; exact hl) ?_ ?_⟩
    · rintro i x σ H' hx' ⟨rfl, rfl, o, rfl⟩
      cases hx'
      refine ⟨_, rfl, t, _, 0, _, rfl, rfl, SqT.of ht, at0 _ _, rfl, _, rfl, ?_⟩
      refine ite2 (fun _ => ?_) (fun c1 => absurd (decide_eq_true rfl) c1)
      exact ⟨_, rfl, _, rfl, t, _, 1, _, rfl, rfl, SqT.of ht, at1 _ _ _, _, _, v, p, rfl, hv, hq, hne, ho, hpl, .inr ⟨hno, k⟩⟩
    · rintro σ H' ⟨h0, _⟩
      exact absurd h0 (Nat.succ_ne_zero 0)
end
end Sc

namespace Sc
open PySem L2
section
variable {P : Program} {w : World} {K : PySem.W.Frag} {mg : Str → Option Value} {base : Heap} {CA CN : Addr}
/-! ### sorted of texts, any number of them -/
theorem ltCps_dec : ∀ l m : List Nat, PySem.Spec.ltCps l m = decide (l < m)
  | [], [] => by simp [PySem.Spec.ltCps]
  | [], b :: t => by simp [PySem.Spec.ltCps]
  | a :: r, [] => by simp [PySem.Spec.ltCps]
  | a :: r, b :: t => by
    rw [PySem.Spec.ltCps, ltCps_dec r t]
    by_cases h1 : a < b
    · simp [h1, List.cons_lt_cons_iff]
    · by_cases h2 : a = b
      · subst h2
        simp [List.cons_lt_cons_iff]
      · simp [h1, h2, List.cons_lt_cons_iff]
theorem rising_ord : ∀ (l : List Str) (p : Str), PyProof.Rows.risingS p l = true → Ord (p :: l)
  | [], p, _ => List.pairwise_singleton _ _
  | x :: r, p, h => by
    rw [PyProof.Rows.risingS, Bool.and_eq_true, ltCps_dec] at h
    have h1 : ¬ nlt x p := by
      have := h.1
      simp at this
      exact fun q => by
        have q' : x.cps.toList < p.cps.toList := q
        exact absurd q' (by simpa using this)
    have ih := rising_ord r x h.2
    refine List.pairwise_cons.mpr ⟨fun z hz => ?_, ih⟩
    rcases List.mem_cons.mp hz with e | e
    · subst e
      exact h1
    · exact nle_trans h1 ((List.pairwise_cons.mp ih).1 z e)
theorem sortedS_ord {l : List Str} (h : PyProof.Rows.sortedS l = true) : Ord l := by
  cases l with
  | nil => exact List.Pairwise.nil
  | cons x r => exact rising_ord r x h
/-- sorted(xs), texts -/
def rSortedT (K : PySem.W.Frag) : List V → Hp → VK → Prop := fun vs H Q => ∃ (a : Addr) (xs : List Str), vs = [V.ref a] ∧ SqL K H a (xs.map V.str) ∧ ∀ p, H p = none → Q (.ref p) (upd H p (.lst ((isort xs).map V.str)))
theorem cr_sortedT {X : Cx} : CallR X (.builtin "sorted") (rSortedT X.K) := by
  intro pins s σ H vs us Q I r h
  obtain ⟨a, xs, rfl, hs, q⟩ := h
  obtain ⟨its, rv, hl, hz⟩ := I.list hs
  rw [Vals.ref1 r]
  refine PyProof.Rows.sorted_strsAny hl.isList rv.strs (by rw [← rv.length]; exact hz) fun out ys h1 h2 h3 => ?_
  obtain ⟨ep, he'⟩ := PyProof.Rows.sortedAll_at s.heap its out
  have e : ys = isort xs := isort_of h2 (sortedS_ord h3)
  have hlen : (ys.map V.str).length ≤ sizeLine := by
    rw [List.length_map, h2.length_eq]
    rw [List.length_map] at hz
    exact hz
  refine ⟨.ref _, upd H (s.heap.objs.size + 1) (.lst (ys.map V.str)), I.laid (t' := s.toks) (fun _ _ => PyProof.Rows.sortedAll_old) (Nat.le_succ _) ⟨hlen, out.toList, ep, vals_of_strs h1, he'⟩, rfl, ?_⟩
  rw [e]
  exact q _ (I.hok.fresh (Nat.le_succ _))
end
end Sc

namespace Sc
open PySem L2
section
variable {P : Program} {w : World} {K : PySem.W.Frag} {mg : Str → Option Value} {base : Heap} {CA CN : Addr}
end
/-! ### name = {k: v for ..} on one line, the name a local -/
section
variable {X : Cx}
theorem ps_setDc {i : Nat} {y : Str} {py : Pos} {kx vx tg iter : Expr} {ifs : List Expr} {scope : Scope} {own : List (Str × Nat)} {pos spos : Pos} {wi : TI} {g : TG} {tt : TT} {tk tv : TE} (hc : X.calm = true) (hN : X.N.Nodup) (hy : X.N[i]? = some y) (hyl : X.env.scope.names.lookup y = some .local)
    (hsw : swapsWith (.DictComp kx vx [⟨tg, iter, ifs, 0⟩] scope pos) (some (.Name y py)) spos.line X.env = pure true) (hi : PI X tg iter wi) (ok : BlkOk X.N X.env.scope scope own)
    (hg : ∀ (s : Shared) (H : Hp) (C : Addr) (cl : List (Str × Addr)) (fp : List Addr), PG (X.blk s H scope (compEnvC scope cl C X.env) fp) tg g) (ht : ∀ (s : Shared) (H : Hp) (C : Addr) (cl : List (Str × Addr)) (fp : List Addr), PTs (X.blk s H scope (compEnvC scope cl C X.env) fp) ifs tt)
    (hk : ∀ (s : Shared) (H : Hp) (C : Addr) (cl : List (Str × Addr)) (fp : List Addr), PE (X.blk s H scope (compEnvC scope cl C X.env) fp) kx tk)
    (he : ∀ (s : Shared) (H : Hp) (C : Addr) (cl : List (Str × Addr)) (fp : List Addr), PE (X.blk s H scope (compEnvC scope cl C X.env) fp) vx tv) (hs : ∀ x, foldedSetIterable iter X.env x = pure x := by intro _; rfl) :
    PS X (.Assign [.Name y py] (.DictComp kx vx [⟨tg, iter, ifs, 0⟩] scope pos) spos) (tAsg (tDc wi g tt tk tv (own.map (·.2))) (gName i)) := by
  refine ⟨fun pins s σ H D I h => ?_⟩
  rw [exec_Assign_Name_used _ _ _ _ hsw]
  refine wpAny_bind (wpAny_standAt (wpAny_bind ?_))
  show wpAny _ X.A (do let _ ← comprehension (.DictComp kx vx [⟨tg, iter, ifs, 0⟩] scope pos) scope X.env (firstIterPos [⟨tg, iter, ifs, 0⟩] pos) newDict false (eval iter X.env) (some (assign (.Name y py) X.env))) _ _ s
  have h : tDc wi g tt tk tv (own.map (·.2)) σ H (fun x H1 => gName i x σ H1 D.nx) := h
  refine wpAny_bind (thn (dc_core (Qf := fun _ s' => SP X pins D .next s') hc hN I hi ok hg ht hk he hs h fun L C s' m H' I' q hn f => ?_) fun _ s' hq => wpAny_pure (wpAny_pure hq))
  show wpAny _ _ (assign (.Name y py) X.env (.ref L)) _ _ _
  refine wpAny_assign_Name (store_ok2 (v := V.ref L) I' hN hy (.inl hyl) rfl (fun s2 I2 ⟨a, sb, ha⟩ => ?_) (.inr hyl))
  obtain ⟨f0, f1, f2, f3, f4, f5⟩ := f
  have haC : C ≠ a := by
    rcases ha with z | z
    · rw [z]; exact f1
    · exact fun e => f4 y a z e.symm
  refine ⟨m, hn.sameBut sb haC, fun h3 sb3 => ?_⟩
  exact ⟨_, H', I2.turned (t' := s2.toks) (fun b o hb e => (sb3.2 b hb).trans e) f0 f1 f3 f4 f5, q⟩
theorem swd_true {kx vx : Expr} {gs : List Comprehension} {scope : Scope} {pos py : Pos} {y : Str} {l : Nat} {env : Env} (hk : env.scope.kind = .function) (hy : env.scope.names.lookup y = some .local) (hl : (py.line == pos.line) = true)
    (ha : (scope.names.any fun (n, k) => n == y && (k == .local || k == .cell)) = false) : swapsWith (.DictComp kx vx gs scope pos) (some (.Name y py)) l env = pure true := by
  have ky : env.kindOf y = some .local := hy
  have hb : env.blockKind = .function := by unfold Env.blockKind; rw [hk]; rfl
  unfold swapsWith
  simp only [hb, ky, ha, Expr.pos, hl]
  rfl
end
end Sc

namespace Sc
open PySem L2
section
variable {P : Program} {w : World} {K : PySem.W.Frag} {mg : Str → Option Value} {base : Heap} {CA CN : Addr}
/-! ### a folder's entries as a dict -/
abbrev KvAt (H : Hp) : List (Key × V) → Ents → Prop := Paired fun kv p => kv.1 = Sum.inr p.1 ∧ VolAt H kv.2 p.2
theorem KvAt.mono {H H' : Hp} {kvs : List (Key × V)} {es : Ents} (s : TS H H') (h : KvAt H kvs es) : KvAt H' kvs es := Paired.mapP h fun _ _ z => ⟨z.1, Tp.mono s z.2⟩
theorem KvAt.len {H : Hp} {kvs : List (Key × V)} {es : Ents} (h : KvAt H kvs es) : kvs.length = es.length := Paired.length h
theorem KvAt.keys {H : Hp} : ∀ {kvs : List (Key × V)} {es : Ents}, KvAt H kvs es → kvs.map (fun kv => kV kv.1) = (names es).map V.str
  | _, _, .nil => rfl
  | (k, v) :: kvs, (n, x) :: es, .cons h t => by
    have e : k = Sum.inr n := h.1
    subst e
    show V.str n :: _ = V.str n :: _
    exact congrArg _ (KvAt.keys t)
theorem KvAt.yes {H : Hp} {n : Str} {v : Vol} : ∀ {kvs : List (Key × V)} {es : Ents}, KvAt H kvs es → look es n = some v → ∃ u, valV kvs (Sum.inr n : Key) = some u ∧ VolAt H u v
  | _, _, .nil, h => by simp [look] at h
  | (k, u) :: kvs, (m, x) :: es, .cons h t, e => by
    have ek : k = Sum.inr m := h.1
    subst ek
    by_cases c : m = n
    · subst c
      rw [look_head] at e
      cases e
      exact ⟨u, valV_pos rfl, h.2⟩
    · rw [look_tail c] at e
      obtain ⟨u', h1, h2⟩ := KvAt.yes t e
      exact ⟨u', (valV_neg (fun z => c (Sum.inr.inj z))).trans h1, h2⟩
theorem KvAt.no {H : Hp} {n : Str} : ∀ {kvs : List (Key × V)} {es : Ents}, KvAt H kvs es → look es n = none → valV kvs (Sum.inr n : Key) = none
  | _, _, .nil, h => valV_nil
  | (k, u) :: kvs, (m, x) :: es, .cons h t, e => by
    have ek : k = Sum.inr m := h.1
    subst ek
    by_cases c : m = n
    · subst c
      rw [look_head] at e
      cases e
    · rw [look_tail c] at e
      exact (valV_neg (fun z => c (Sum.inr.inj z))).trans (KvAt.no t e)
theorem KvAt.snoc {H : Hp} {kvs : List (Key × V)} {es : Ents} {n : Str} {u : V} {v : Vol} (h : KvAt H kvs es) (hn : look es n = none) (hu : VolAt H u v) : KvAt H (putK kvs (Sum.inr n) u) (es ++ [(n, v)]) := by
  rw [putK_new _ (h.no hn)]
  clear hn
  induction h with
  | nil => exact .cons ⟨rfl, hu⟩ .nil
  | cons a _ ih => exact .cons a ih
theorem asc_take {es : Ents} {i : Nat} {n : Str} {v : Vol} (h : AscE es) (e : es[i]? = some (n, v)) : look (es.take i) n = none := by
  refine look_none.mpr fun z => ?_
  obtain ⟨p, hp, rfl⟩ := List.mem_map.mp z
  obtain ⟨j, hj, hj2⟩ := List.getElem_of_mem hp
  have hji : j < i := by
    rw [List.length_take] at hj
    omega
  have e2 : es[j]? = some p := by
    have e3 : (es.take i)[j]? = some p := by rw [List.getElem?_eq_getElem hj, hj2]
    rw [List.getElem?_take] at e3
    rw [if_pos hji] at e3
    exact e3
  obtain ⟨l1, g1⟩ := List.getElem?_eq_some_iff.mp e
  obtain ⟨l2, g2⟩ := List.getElem?_eq_some_iff.mp e2
  have pw := List.pairwise_iff_getElem.mp (ascE_iff.mp h) j i l2 l1 hji
  rw [g1, g2] at pw
  exact nlt_irrefl _ pw
theorem dc_same {H H' : Hp} {B : Addr} {kvs : List (Key × V)} (hB : H B = none) (s : ∀ c o, H c = some o → H' c = some o) : Same H (upd H' B (.dK kvs)) := fun c o z => by
  rw [upd_ne (ne_of_none z hB)]
  exact s c o z
theorem ts_dk {H : Hp} {p : Addr} {ys zs : List (Key × V)} (h : H p = some (.dK ys)) : TS H (upd H p (.dK zs)) := fun a xs q => by
  rw [upd_ne (ne_of q h (by intro z; cases z))]; exact q
/-- a comprehension over a locked dict -/
theorem lc_keys {d : Addr} {o : Obj} {kvs : List (Key × V)} {g : TG} {tt : TT} {te : TE} {vs : List Nat} {σ : L2.St} {H1 : Hp} {D : Addr} {Qd : Hp → Prop} (Pv : Nat → Hp → Prop) (h0 : Pv 0 (upd H1 D (.lst []))) (hl : ∀ i H, i ≤ kvs.length → Pv i H → H d = some (.frz o (.dK kvs)))
    (hs : ∀ i k v H, kvs[i]? = some (k, v) → Pv i H → g (kV k) (wipe σ vs) H fun σ2 H2 => wipe σ2 vs = wipe σ vs ∧ tt σ2 H2 fun b H3 =>
      if b = true then te σ2 H3 fun y H4 => ∃ acc, H4 D = some (.lst acc) ∧ acc.length < sizeLine ∧ Pv (i + 1) (upd H4 D (.lst (acc ++ [y]))) else Pv (i + 1) H3) (hd : ∀ H, Pv kvs.length H → Qd H) :
    ∃ W : Nat → Nat → Hp → Prop, (∃ m, W 0 m (upd H1 D (.lst []))) ∧ ∀ i m H, W i m H →
      ((Itk d o kvs).stop i H ∧ Qd H) ∨ ((Itk d o kvs).go i H ∧ ∃ Nx : Hp → Prop, (∀ H', Nx H' → ∃ m', m' < m ∧ W (i + 1) m' H') ∧ ∀ x H', (Itk d o kvs).yld i H x H' → g x (wipe σ vs) H' fun σ2 H2 => wipe σ2 vs = wipe σ vs ∧ tt σ2 H2 fun b H3 =>
        if b = true then te σ2 H3 fun y H4 => ∃ acc, H4 D = some (.lst acc) ∧ acc.length < sizeLine ∧ Nx (upd H4 D (.lst (acc ++ [y]))) else Nx H3) := by
  refine ⟨fun i m H => m = kvs.length - i ∧ i ≤ kvs.length ∧ Pv i H, ⟨kvs.length, by simp, Nat.zero_le _, h0⟩, ?_⟩
  rintro i m H ⟨rfl, hi, p⟩
  have q := hl i H hi p
  by_cases hlt : i < kvs.length
  · refine .inr ⟨⟨q, hlt⟩, Pv (i + 1), fun H' p' => ⟨kvs.length - (i + 1), by omega, rfl, hlt, p'⟩, fun x H' y => ?_⟩
    obtain ⟨e, k, v, hk, rfl⟩ := y
    subst e
    exact hs i k v _ hk p
  · have e : i = kvs.length := by omega
    subst e
    exact .inl ⟨⟨q, Nat.le_refl _⟩, hd H p⟩
theorem shaped_vol {v : Vol} {W : Nat} (h : v.Ok W) (d : v.depth ≤ 20) : SeqAt.shaped v.data = true := by
  have h1 := data_lay v h
  have h2 := data_depth v
  unfold SeqAt.shaped
  rw [h1, decide_eq_true (by omega)]
  rfl
theorem ok_wf {v : Vol} {W : Nat} (h : v.Ok W) : v.Wf := ⟨W, h⟩
/-- all but the list at l stays -/
def Keep (l : Addr) (H H' : Hp) : Prop := ∀ c o, H c = some o → c ≠ l → H' c = some o
theorem Keep.ts {l : Addr} {H H' : Hp} {xs : List V} (h : H l = some (.lst xs)) (k : Keep l H H') : TS H H' := fun a ys q => k a _ q (ne_of q h (by intro z; cases z))
theorem keep_of {l : Addr} {H H' : Hp} (s : Same H H') : Keep l H H' := fun c o h _ => s c o h
theorem Keep.trans {l : Addr} {H H1 H2 : Hp} (a : Keep l H H1) (b : Keep l H1 H2) : Keep l H H2 := fun c o h n => b c o (a c o h n) n
theorem keep_upd {l : Addr} {H : Hp} {o : HO} : Keep l H (upd H l o) := fun c u h n => by rw [upd_ne n]; exact h
end
end Sc

namespace Sc
open PySem L2
section
variable {P : Program} {w : World} {K : PySem.W.Frag} {mg : Str → Option Value} {base : Heap} {CA CN : Addr}
/-! ### _collect -/
/-- the changes below the path p, as data -/
def under (p : Path) (cs : List Chg) : List PyData := (cs.map (Chg.under p)).map Chg.data
theorem under_app (p : Path) (a b : List Chg) : under p (a ++ b) = under p a ++ under p b := by unfold under; rw [List.map_append, List.map_append]
theorem under_under' (p q : Path) (cs : List Chg) : under p (cs.map (Chg.under q)) = under (p ++ q) cs := by
  refine congrArg (List.map Chg.data) ?_
  rw [List.map_map]
  exact List.map_congr_left fun c _ => under_under p q c
theorem under_len (p : Path) (cs : List Chg) : (under p cs).length = cs.length := by unfold under; rw [List.length_map, List.length_map]
def spCollect (n : Nat) : Sp := fun vs H Q _ => ∃ (u v q : V) (l : Addr) (xs : List V) (a b : Vol) (p : Path) (W : Nat), vs = [u, v, q, .ref l] ∧ VolAt H u a ∧ VolAt H v b ∧ PathAt H q p ∧ H l = some (.lst xs) ∧
  a.depth ≤ n ∧ n ≤ 20 ∧ b.depth ≤ 20 ∧ a.Ok W ∧ b.Ok W ∧ W ≤ 100000 ∧ p.length + n ≤ 1000 ∧ xs.length + (diff n a b).length ≤ 100000 ∧
  ∀ H' ys, Keep l H H' → H' l = some (.lst (xs ++ ys)) → TpAll H' ys (under p (diff n a b)) → Q .non H'
abbrev nCol : List Str := ["first", "second", "path", "found", "before", "after", "name", "place", "child"]
theorem scCollect : FnScope nCol ["first", "second", "path", "found"] (defScope sPCollect) := ⟨rfl, rfl, rfl, by decide +kernel, rfl, by decide +kernel, by decide +kernel⟩
theorem len_room {a b g t m : Nat} (h : b + g ≤ t) (h0 : b = m) (k : a + t ≤ 100000) (e : g = 1) : a + b ≤ 1000000 := by omega
theorem head_ne {v : Vol} (h : v.isF = false) : (!decide (V.str v.kind = V.str "folder")) = true := by
  rw [decide_eq_false]
  · rfl
  · intro z
    injection z with z
    have := (kind_iff v).mp z
    rw [h] at this
    cases this
theorem collect_step {f : Addr} {fd : FuncData} {n : Nat} (T : Txt K mg CA CN) (D : DPCollect K mg f fd) (G : FnOk P w K mg base CX0 n f fd ["first", "second", "path", "found"] (spCollect n)) :
    FnOk P w K mg base CX0 (n + 1) f fd ["first", "second", "path", "found"] (spCollect (n + 1)) := by
  refine D.F.ok scCollect (fun vs H Q E h => ?_) (fun cdv A outer s H vs Q E hr h => ?_)
  · obtain ⟨u, v, q, l, xs, a, b, p, W, rfl, _⟩ := h
    rfl
  obtain ⟨u, v, q, l, xs, a, b, p, W, rfl, hu, hv, hq, hl, da, n20, db, oa, ob, hW, lp, hlen, k⟩ := h
  refine ⟨_, pss_cons (ps_if (pt_cmpR (op_eqD hr.units) (pv 0) (pv 1) (nomark _)) (pss_one ps_retN) pss_nil)
    (pss_cons (ps_if (PW.pt (pw_or (pt_cmpR op_ne (pe_ix ix_tup (pv 0) pe_int (fun _ _ => rfl)) pe_str (nomark _)) (pw_or1 (pt_cmpR op_ne (pe_ix ix_tup (pv 1) pe_int (fun _ _ => rfl)) pe_str (nomark _)))))
      (pss_cons (ps_expr (pe_bm PySem.F.plainAttrs_list PySem.F.slot_list_append PySem.F.type_list_append mt_append (pv 3) (pa_cons (pe_tup (pa_cons pe_str (pa_cons (pv 2) (pa_cons (pv 1) pa_nil)))) pa_nil))) (pss_one ps_retN)) pss_nil)
    (pss_cons (ps_set (i := 4) scCollect.nd rfl (.inr rfl) (pe_dc (own := [("name", 6), ("child", 8)]) (g := gTup K 2 (gCons (gName 6) (gCons (gName 8) gNil))) (tt := tYes) (tk := tVar 6) (tv := tVar 8) rfl scCollect.nd (pi_tup (pe_ix ix_tup (pv 0) pe_int (fun _ _ => rfl)))
        (blkOk_by (N := nCol) (sc := defScope sPCollect) (by decide +kernel)) (fun _ _ _ _ _ => pg_tup rfl (pgs_cons (pg_name (i := 6) scCollect.nd rfl (.inl rfl)) (pgs_cons (pg_name (i := 8) scCollect.nd rfl (.inl rfl)) pgs_nil)))
        (fun _ _ _ _ _ => pts_nil) (fun _ _ _ _ _ => pv 6) (fun _ _ _ _ _ => pv 8)))
    (pss_cons (ps_setDc (i := 5) (own := [("name", 6), ("child", 8)]) (g := gTup K 2 (gCons (gName 6) (gCons (gName 8) gNil))) (tt := tYes) (tk := tVar 6) (tv := tVar 8) rfl scCollect.nd rfl rfl (swd_true rfl rfl rfl (by decide +kernel)) (pi_tup (pe_ix ix_tup (pv 1) pe_int (fun _ _ => rfl)))
        (blkOk_by (N := nCol) (sc := defScope sPCollect) (by decide +kernel)) (fun _ _ _ _ _ => pg_tup rfl (pgs_cons (pg_name (i := 6) scCollect.nd rfl (.inl rfl)) (pgs_cons (pg_name (i := 8) scCollect.nd rfl (.inl rfl)) pgs_nil)))
        (fun _ _ _ _ _ => pts_nil) (fun _ _ _ _ _ => pv 6) (fun _ _ _ _ _ => pv 8))
    (pss_one (ps_for PassesOwn.never rfl (pi_list (pe_callB cr_sortedT (by rfl) T.mSorted (by decide +kernel) (pa_cons (pe_op op_cat (pe_callTy (call_list_dK rfl) (by rfl) T.mList (by decide +kernel) (pa_cons (pv 4) pa_nil))
        (pe_lock (pe_lc (own := [("name", 6)]) (g := gName 6) rfl scCollect.nd (pi_keys (pv 5)) (blkOk_by (N := nCol) (sc := defScope sPCollect) (by decide +kernel)) (fun _ _ _ _ _ => pg_name (i := 6) scCollect.nd rfl (.inl rfl))
          (fun _ _ _ _ _ => pts_one (pt_cmp (pc_dnotin (hu_of hr) (pv 6) (pv 4)))) (fun _ _ _ _ _ => pv 6)))) pa_nil))) (pg_name (i := 6) scCollect.nd rfl (.inl rfl))
      (pss_cons (ps_set (i := 7) scCollect.nd rfl (.inl rfl) (pe_op op_catP (pv 2) (pe_tup (pa_cons (pv 6) pa_nil))))
      (pss_one (ps_if (pt_cmp (pc_dnotin (hu_of hr) (pv 6) (pv 5)))
        (pss_one (ps_expr (pe_bm PySem.F.plainAttrs_list PySem.F.slot_list_append PySem.F.type_list_append mt_append (pv 3) (pa_cons (pe_tup (pa_cons pe_str (pa_cons (pv 7) pa_nil))) pa_nil))))
        (pss_one (ps_if (pt_cmp (pc_dnotin (hu_of hr) (pv 6) (pv 4)))
          (pss_one (ps_expr (pe_bm PySem.F.plainAttrs_list PySem.F.slot_list_append PySem.F.type_list_append mt_append (pv 3) (pa_cons (pe_tup (pa_cons pe_str (pa_cons (pv 7) (pa_cons (pe_dget (hu_of hr) (pv 5) (pv 6) (fun _ _ => rfl)) pa_nil)))) pa_nil))))
          (pss_one (ps_expr (pe_call G hr rfl D.m D.F.kp D.b .nil pass0 (pa_cons (pe_dget (hu_of hr) (pv 4) (pv 6) (fun _ _ => rfl)) (pa_cons (pe_dget (hu_of hr) (pv 5) (pv 6) (fun _ _ => rfl)) (pa_cons (pv 7) (pa_cons (pv 3) pa_nil))))))))))))))))), ?_⟩
  rw [diff_succ] at hlen k
  refine ⟨_, rfl, _, rfl, a.data, b.data, hu.dp, hv.dp, shaped_vol oa (by omega), shaped_vol ob db, _, rfl, ?_⟩
  refine ite2 (fun c => ?_) (fun c => ?_)
  · rw [if_pos (show veq a b = true from c)] at k
    exact k H [] (fun _ _ h _ => h) (by rw [List.append_nil]; exact hl) .nil
  rw [if_neg (show ¬ veq a b = true from c)] at hlen k
  rcases isF_cases a b with ⟨as, bs, rfl, rfl⟩ | ho
  rotate_left
  · -- a leaf on one side
    rw [diffAt_other ho] at hlen k
    obtain ⟨a1, ys1, rfl, ha1⟩ := hu.head
    obtain ⟨b1, ys2, rfl, hb1⟩ := hv.head
    refine ⟨_, rfl, a1, _, 0, _, rfl, rfl, SqT.of ha1, at0 _ _, rfl, _, rfl, ?_⟩
    have fin : ∀ t, H t = none → Q .non (upd (upd H t (.tup [.str "changed", q, .ref b1])) l (.lst (xs ++ [.ref t]))) := fun t nt => by
      have hl' : upd H t (.tup [.str "changed", q, .ref b1]) l = some (.lst xs) := same_new nt _ _ _ hl
      have tt : TS H (upd (upd H t (.tup [.str "changed", q, .ref b1])) l (.lst (xs ++ [.ref t]))) := (ts_new nt _).trans (ts_lst hl')
      refine k _ [.ref t] ((keep_of (same_new nt _)).trans keep_upd) upd_same ?_
      have e : under p [Chg.changed [] b] = [(Chg.changed p b).data] := by
        show [(Chg.changed (p ++ []) b).data] = _
        rw [List.append_nil]
      rw [e]
      refine .cons (.tup (ts_lst hl' _ _ upd_same) (.cons (.str _) (.cons (Tp.mono tt hq) (.cons (Tp.mono tt hv) .nil)))) .nil
    by_cases fa : a.isF = false
    · refine ifT (head_ne fa) (iteT ?_)
      exact ⟨_, rfl, .inl ⟨rfl, _, SqL.of hl⟩, _, rfl, _, rfl, sz3 _ _ _, fun t nt => ⟨l, xs, _, rfl, rfl, same_new nt _ _ _ hl, small (by omega), fin t nt⟩⟩
    · have fa' : a.isF = true := by cases h : a.isF <;> simp_all
      have fb : b.isF = false := by
        rcases ho with h | h
        · exact absurd h fa
        · exact h
      refine ifF (by rw [(kind_iff a).mpr fa']; simp) ?_
      refine ⟨_, rfl, b1, _, 0, _, rfl, rfl, SqT.of hb1, at0 _ _, rfl, _, rfl, ?_⟩
      refine ifT (head_ne fb) ?_
      exact ⟨_, rfl, .inl ⟨rfl, _, SqL.of hl⟩, _, rfl, _, rfl, sz3 _ _ _, fun t nt => ⟨l, xs, _, rfl, rfl, same_new nt _ _ _ hl, small (by omega), fin t nt⟩⟩
  -- two folders
  rw [diffAt_folders] at hlen k
  obtain ⟨a1, e1, ys1, rfl, ha1, he1, te1⟩ := hu.folder_inv
  obtain ⟨b1, e2, ys2, rfl, hb1, he2, te2⟩ := hv.folder_inv
  refine ⟨_, rfl, a1, _, 0, _, rfl, rfl, SqT.of ha1, at0 _ _, rfl, _, rfl, ?_⟩
  refine ifF (by simp) ?_
  refine ⟨_, rfl, b1, _, 0, _, rfl, rfl, SqT.of hb1, at0 _ _, rfl, _, rfl, ?_⟩
  refine ifF (by simp) ?_
  rw [Vol.Ok] at oa ob
  obtain ⟨wa, asca, eoa⟩ := oa
  obtain ⟨wb, ascb, eob⟩ := ob
  have la := te1.len
  have lb := te2.len
  -- before
  refine ⟨_, rfl, a1, _, 1, _, rfl, rfl, SqT.of ha1, at1 _ _ _, e1, rfl, ⟨_, SqT.of he1⟩, fun B nB => dc_tup (K := K) (a := e1) (xs := ys1)
    (fun i H' => ∃ kvs, H' B = some (.dK kvs) ∧ KvAt H' kvs (as.take i) ∧ Same H H') ⟨[], upd_same, .nil, same_new nB _⟩ (fun i H' _ ⟨_, _, _, s⟩ => SqT.of (s _ _ he1)) ?_ ?_⟩
  · rintro i x H' hx ⟨kvs, hB, hk, s1⟩
    obtain ⟨m, v', c', u', h1, rfl, h2, h3⟩ := te1.get hx
    refine ⟨c', _, rfl, SqT.of (s1 _ _ h2), rfl, _, _, rfl, _, _, rfl, rfl, rfl, _, rfl, _, rfl, kvs, Sum.inr m, rfl, hB, small (by have := hk.len; rw [List.length_take] at this; omega), _, upd_same, ?_, dc_same nB s1⟩
    rw [take_at h1]
    exact KvAt.snoc (hk.mono (ts_dk hB)) (asc_take asca h1) (Tp.mono ((ts_of s1).trans (ts_dk hB)) h3)
  rintro H1 ⟨kvA, hB1, hkA, s1⟩
  rw [la, List.take_length] at hkA
  -- after
  refine ⟨_, rfl, b1, _, 1, _, rfl, rfl, SqT.of (s1 _ _ hb1), at1 _ _ _, e2, rfl, ⟨_, SqT.of (s1 _ _ he2)⟩, fun A' nA => dc_tup (K := K) (a := e2) (xs := ys2)
    (fun i H' => ∃ kvs, H' A' = some (.dK kvs) ∧ KvAt H' kvs (bs.take i) ∧ Same H1 H') ⟨[], upd_same, .nil, same_new nA _⟩ (fun i H' _ ⟨_, _, _, s⟩ => SqT.of (s _ _ (s1 _ _ he2))) ?_ ?_⟩
  · rintro i x H' hx ⟨kvs, hA, hk, s2⟩
    obtain ⟨m, v', c', u', h1, rfl, h2, h3⟩ := te2.get hx
    refine ⟨c', _, rfl, SqT.of (s2 _ _ (s1 _ _ h2)), rfl, _, _, rfl, _, _, rfl, rfl, rfl, _, rfl, _, rfl, kvs, Sum.inr m, rfl, hA, small (by have := hk.len; rw [List.length_take] at this; omega), _, upd_same, ?_, dc_same nA s2⟩
    rw [take_at h1]
    exact KvAt.snoc (hk.mono (ts_dk hA)) (asc_take ascb h1) (Tp.mono ((ts_of (s1.trans s2)).trans (ts_dk hA)) h3)
  rintro H2 ⟨kvB, hA2, hkB, s2⟩
  rw [lb, List.take_length] at hkB
  have hB2 : H2 B = some (.dK kvA) := s2 _ _ hB1
  have nAB : A' ≠ B := (ne_of_none hB1 nA).symm
  have s12 := s1.trans s2
  have hkA2 : KvAt H2 kvA as := hkA.mono (ts_of s2)
  -- sorted(list(before) + [..])
  refine ⟨_, rfl, B, kvA, rfl, hB2, fun L nL => ?_⟩
  have s3 : Same H2 (upd H2 L (.lst (kvA.map fun kv => kV kv.1))) := same_new nL _
  refine ⟨A', .dK kvB, s3 _ _ hA2, trivial, fun od => ?_⟩
  refine ⟨_, rfl, A', od, rfl, .inl ⟨kvB, upd_same, fun C nC => lc_keys
    (fun i H' => H' C = some (.lst ((((names bs).take i).filter fun n => !decide (n ∈ names as)).map V.str)) ∧ Same (upd (upd H2 L (.lst (kvA.map fun kv => kV kv.1))) A' (.frz od (.dK kvB))) H')
    ⟨upd_same, same_new nC _⟩ (fun i H' _ ⟨_, s⟩ => s _ _ upd_same) ?_ ?_⟩⟩
  · rintro i kk vv H' hk ⟨hC, s4⟩
    obtain ⟨⟨m, x⟩, hb', hkk, _⟩ := paired_get hkB hk
    have hkk' : kk = Sum.inr m := hkk
    subst hkk'
    have hBl : H' B = some (.dK kvA) := s4 _ _ (by rw [upd_ne nAB.symm]; exact s3 _ _ hB2)
    have hnm : (names bs)[i]? = some m := by
      show (bs.map (·.1))[i]? = _
      rw [List.getElem?_map, hb']
      rfl
    refine ⟨rfl, _, rfl, _, rfl, B, _, rfl, DGet.k (k := (Sum.inr m : Key)) hBl, _, rfl, ?_⟩
    rw [take_at hnm, List.filter_append]
    cases hlk : look as m with
    | none =>
      rw [hkA2.no hlk]
      have e0 : ([m].filter fun n => !decide (n ∈ names as)) = [m] := by simp [look_none.mp hlk]
      rw [e0]
      refine iteT ⟨_, rfl, _, hC, small ?_, ?_, fun c o z => ?_⟩
      · rw [List.length_map]
        refine Nat.le_trans (List.length_filter_le _ _) ?_
        rw [List.length_take]
        have : (names bs).length = bs.length := List.length_map _
        omega
      · rw [upd_same, List.map_append]
        rfl
      · rw [upd_ne (ne_of_none z nC)]
        exact s4 c o z
    | some x' =>
      obtain ⟨u0, h0, _⟩ := hkA2.yes hlk
      rw [h0]
      have e0 : ([m].filter fun n => !decide (n ∈ names as)) = [] := by simp [look_in hlk]
      rw [e0, List.append_nil]
      exact iteF ⟨hC, s4⟩
  rintro H4 ⟨hC, s4⟩
  have nb : (names bs).length = kvB.length := by rw [hkB.len]; exact List.length_map _
  rw [← nb, List.take_length] at hC
  have hA4 := s4 _ _ upd_same
  refine ⟨hA4, ?_⟩
  have nCA : C ≠ A' := (ne_of_none upd_same nC).symm
  have s5 : Same (upd H2 L (.lst (kvA.map fun kv => kV kv.1))) (upd H4 A' (.dK kvB)) := fun c o z => by
    by_cases e : c = A'
    · subst e
      rw [upd_same]
      exact (s3 _ _ hA2).symm.trans z
    · rw [upd_ne e]
      exact s4 c o (by rw [upd_ne e]; exact z)
  have hC5 : upd H4 A' (.dK kvB) C = some (.lst (((names bs).filter fun n => !decide (n ∈ names as)).map V.str)) := by rw [upd_ne nCA]; exact hC
  have s25 : Same H2 (upd H4 A' (.dK kvB)) := s3.trans s5
  generalize hH5 : upd H4 A' (.dK kvB) = H5 at s5 hC5 s25
  have hL5 : H5 L = some (.lst ((names as).map V.str)) := by rw [← hkA2.keys]; exact s5 _ _ upd_same
  have na : (names as).length = as.length := List.length_map _
  have nb' : (names bs).length = bs.length := List.length_map _
  refine ⟨L, C, _, _, rfl, rfl, hL5, hC5, small' ?_, fun R nR => ?_⟩
  · rw [List.length_map, List.length_map]
    have := List.length_filter_le (fun n => !decide (n ∈ names as)) (names bs)
    omega
  rw [← List.map_append]
  refine ⟨R, _, rfl, SqL.of upd_same, fun S nS => ?_⟩
  have s57 := (same_new nR (.lst ((names as ++ (names bs).filter fun n => !decide (n ∈ names as)).map V.str))).trans (same_new nS (.lst ((isort (names as ++ (names bs).filter fun n => !decide (n ∈ names as))).map V.str)))
  have s07 := s12.trans (s25.trans s57)
  have nSl : S ≠ l := fun z => by
    subst z
    have := (same_new nR (.lst ((names as ++ (names bs).filter fun n => !decide (n ∈ names as)).map V.str))) _ _ (s25 _ _ (s12 _ _ hl))
    rw [nS] at this
    cases this
  have hBl : B ≠ l := fun z => by
    subst z
    rw [nB] at hl
    cases hl
  have hAl : A' ≠ l := fun z => by
    subst z
    have := s1 _ _ hl
    rw [nA] at this
    cases this
  obtain ⟨q0, rfl, hq0⟩ := hq.inv
  refine ⟨S, rfl, ⟨_, SqL.of upd_same⟩, for_list (K := K) (a := S) (xs := (union as bs).map V.str)
    (fun i σ H' => ∃ o1 o2 ys, σ = [some (.ref a1), some (.ref b1), some (.ref q0), some (.ref l), some (.ref B), some (.ref A'), o1, o2, none] ∧ Keep l H H' ∧ H' l = some (.lst (xs ++ ys)) ∧
      TpAll H' ys (under p (((union as bs).take i).flatMap (grp (diff n) as bs))) ∧ H' B = some (.dK kvA) ∧ H' A' = some (.dK kvB) ∧ H' S = some (.lst ((union as bs).map V.str)) ∧ TS H2 H')
    ⟨_, _, [], rfl, keep_of s07, by rw [List.append_nil]; exact s07 _ _ hl, .nil, (s25.trans s57) _ _ hB2, (s25.trans s57) _ _ hA2, upd_same, ts_of (s25.trans s57)⟩ (fun i σ H' _ ⟨_, _, _, _, _, _, _, _, _, h, _⟩ => SqL.of h) ?_ ?_⟩
  rotate_left
  · rintro σ H' ⟨o1, o2, ys, rfl, kp, hl', ht, _⟩
    rw [List.length_map, List.take_length] at ht
    exact k H' ys kp hl' ht
  rintro i x σ H' hx ⟨o1, o2, ys, rfl, kp, hl', ht, hB', hA', hS', ts2⟩
  obtain ⟨m, hm, rfl⟩ := map_at hx
  have tsH := kp.ts hl
  have ml := ht.len
  rw [under_len] at ml
  have mlen : ys.length + (grp (diff n) as bs m).length ≤ ((union as bs).flatMap (grp (diff n) as bs)).length := by
    have e : union as bs = (union as bs).take i ++ m :: (union as bs).drop (i + 1) := by rw [← drop_at hm, List.take_append_drop]
    conv => rhs; rw [e, List.flatMap_append, List.flatMap_cons, List.length_append, List.length_append]
    omega
  have q0' : H' q0 = some (.tup (p.map V.str)) := tsH _ _ hq0
  refine ⟨_, rfl, _, rfl, sz1 _, fun t1 n1 => ⟨q0, t1, p, m, rfl, rfl, same_new n1 _ _ _ q0', upd_same, by omega, fun z Hz sz hz => ?_⟩⟩
  have s6 : Same H' Hz := (same_new n1 _).trans sz
  have hlz := s6 _ _ hl'
  have fl : (union as bs).take (i + 1) = (union as bs).take i ++ [m] := take_at hm
  have hmem : m ∈ names as ∨ m ∈ names bs := union_mem.mp (List.mem_of_getElem? hm)
  -- a new change of ours behind ys
  have fin : ∀ (c : Chg) (t : Addr) (ts : List V) (Ht : Hp), Same Hz Ht → Ht t = none → (∀ H2, TS Ht H2 → H2 t = some (.tup ts) → Tp H2 (.ref t) (c.under p).data) → grp (diff n) as bs m = [c] →
      ∃ o1 o2 ys', [some (V.ref a1), some (.ref b1), some (.ref q0), some (.ref l), some (.ref B), some (.ref A'), some (.str m), some (.ref z), none] = [some (V.ref a1), some (.ref b1), some (.ref q0), some (.ref l), some (.ref B), some (.ref A'), o1, o2, none] ∧
        Keep l H (upd (upd Ht t (.tup ts)) l (.lst (xs ++ ys ++ [.ref t]))) ∧ upd (upd Ht t (.tup ts)) l (.lst (xs ++ ys ++ [.ref t])) l = some (.lst (xs ++ ys')) ∧
        TpAll (upd (upd Ht t (.tup ts)) l (.lst (xs ++ ys ++ [.ref t]))) ys' (under p (((union as bs).take (i + 1)).flatMap (grp (diff n) as bs))) ∧
        upd (upd Ht t (.tup ts)) l (.lst (xs ++ ys ++ [.ref t])) B = some (.dK kvA) ∧ upd (upd Ht t (.tup ts)) l (.lst (xs ++ ys ++ [.ref t])) A' = some (.dK kvB) ∧ upd (upd Ht t (.tup ts)) l (.lst (xs ++ ys ++ [.ref t])) S = some (.lst ((union as bs).map V.str)) ∧ TS H2 (upd (upd Ht t (.tup ts)) l (.lst (xs ++ ys ++ [.ref t]))) := by
    intro c t ts Ht s7 nt hc hg
    have s8 : Same H' (upd Ht t (.tup ts)) := s6.trans (s7.trans (same_new nt _))
    have hl8 := s8 _ _ hl'
    refine ⟨_, _, ys ++ [.ref t], rfl, (kp.trans (keep_of s8)).trans keep_upd, by rw [upd_same, List.append_assoc], ?_, by rw [upd_ne hBl]; exact s8 _ _ hB', by rw [upd_ne hAl]; exact s8 _ _ hA', by rw [upd_ne nSl]; exact s8 _ _ hS', ts2.trans ((ts_of s8).trans (ts_lst hl8))⟩
    rw [fl, List.flatMap_append, under_app]
    refine TpAll.app (TpAll.mono ((ts_of s8).trans (ts_lst hl8)) ht) ?_
    rw [List.flatMap_cons, List.flatMap_nil, List.append_nil, hg]
    exact .cons (hc _ ((ts_new nt _).trans (ts_lst hl8)) (ts_lst hl8 _ _ upd_same)) .nil
  refine ⟨_, rfl, _, rfl, A', _, rfl, DGet.k (k := (Sum.inr m : Key)) (s6 _ _ hA'), _, rfl, ?_⟩
  cases hlb : look bs m with
  | none =>
    rw [hkB.no hlb]
    refine iteT ⟨_, rfl, .inl ⟨rfl, _, SqL.of hlz⟩, _, rfl, sz2 _ _, fun t nt => ⟨l, _, _, rfl, rfl, same_new nt _ _ _ hlz, small (by rw [List.length_append]; exact len_room mlen ml hlen (by rw [grp_removed hlb]; rfl)), ?_⟩⟩
    exact fin (.removed [m]) t _ Hz (Same.refl _) nt (fun H2 t2 h2 => .tup h2 (.cons (.str _) (.cons (PathAt.mk (t2 _ _ hz)) .nil))) (grp_removed hlb)
  | some vb =>
    obtain ⟨ub, hub, hvb⟩ := hkB.yes hlb
    rw [hub]
    refine iteF ⟨_, rfl, _, rfl, B, _, rfl, DGet.k (k := (Sum.inr m : Key)) (s6 _ _ hB'), _, rfl, ?_⟩
    have tz : TS H2 Hz := ts2.trans (ts_of s6)
    cases hla : look as m with
    | none =>
      rw [hkA2.no hla]
      refine iteT ⟨_, rfl, .inl ⟨rfl, _, SqL.of hlz⟩, _, rfl, _, rfl, _, rfl, A', ub, rfl, ?_, sz3 _ _ _, fun t nt => ⟨l, _, _, rfl, rfl, same_new nt _ _ _ hlz, small (by rw [List.length_append]; exact len_room mlen ml hlen (by rw [grp_added hla hlb]; rfl)), ?_⟩⟩
      · rw [← hub]
        exact DGet.k (k := (Sum.inr m : Key)) (s6 _ _ hA')
      · exact fin (.added [m] vb) t _ Hz (Same.refl _) nt (fun H3 t2 h2 => .tup h2 (.cons (.str _) (.cons (PathAt.mk (t2 _ _ hz)) (.cons (Tp.mono (tz.trans t2) hvb) .nil)))) (grp_added hla hlb)
    | some va =>
      obtain ⟨ua, hua, hva⟩ := hkA2.yes hla
      rw [hua]
      have g0 := grp_both (rec := diff n) hla hlb
      rw [g0, List.length_map] at mlen
      refine iteF ⟨_, rfl, _, rfl, B, ua, rfl, by rw [← hua]; exact DGet.k (k := (Sum.inr m : Key)) (s6 _ _ hB'), _, rfl, _, rfl, A', ub, rfl, by rw [← hub]; exact DGet.k (k := (Sum.inr m : Key)) (s6 _ _ hA'), _, rfl, _, rfl, ?_⟩
      have d1 := depth_mem (look_mem hla)
      have d2 := depth_mem (look_mem hlb)
      rw [Vol.depth] at da db
      refine ⟨ua, ub, .ref z, l, xs ++ ys, va, vb, p ++ [m], W, rfl, Tp.mono tz hva, Tp.mono tz hvb, PathAt.mk hz, hlz, Nat.le_trans d1 (by omega), by omega, Nat.le_trans d2 (by omega), (entsOk_iff.mp eoa _ (look_mem hla)).2, (entsOk_iff.mp eob _ (look_mem hlb)).2, hW,
        by rw [List.length_append]; show p.length + 1 + n ≤ 1000; omega, by rw [List.length_append]; omega, fun H9 ys9 k9 h9 t9 => ?_⟩
      have k8 : Keep l H' H9 := (keep_of s6).trans k9
      refine ⟨_, _, ys ++ ys9, rfl, kp.trans k8, by rw [h9, List.append_assoc], ?_, k8 _ _ hB' hBl, k8 _ _ hA' hAl, k8 _ _ hS' nSl, ts2.trans (k8.ts hl')⟩
      rw [fl, List.flatMap_append, under_app]
      refine TpAll.app (TpAll.mono (k8.ts hl') ht) ?_
      rw [List.flatMap_cons, List.flatMap_nil, List.append_nil, g0, under_under']
      exact t9
end
end Sc

namespace Sc
open PySem L2
section
variable {P : Program} {w : World} {K : PySem.W.Frag} {mg : Str → Option Value} {base : Heap} {CA CN : Addr}
/-! ### compare -/
theorem no_calls {f : Addr} {fd : FuncData} {CX : CXT} {ps : List Str} {sp : Sp} (no : ∀ vs H Q E, ¬ sp vs H Q E) : FnOk P w K mg base CX 0 f fd ps sp :=
  ⟨fun vs H Q E h => absurd h (no vs H Q E), fun A outer s H args us vs Q E _ _ _ _ h => absurd h (no vs H Q E)⟩
theorem ok_collect {f : Addr} {fd : FuncData} (T : Txt K mg CA CN) (D : DPCollect K mg f fd) : ∀ n : Nat, FnOk P w K mg base CX0 n f fd ["first", "second", "path", "found"] (spCollect n)
  | 0 => no_calls fun vs H Q E h => by
    obtain ⟨u, v, q, l, xs, a, b, p, W, _, _, _, _, _, d, _⟩ := h
    have := depth_pos a
    omega
  | n + 1 => collect_step T D (ok_collect T D n)
theorem under_nil' (cs : List Chg) : under [] cs = cs.map Chg.data := by
  refine congrArg (List.map Chg.data) ?_
  have : Chg.under [] = id := funext fun c => under_nil c
  rw [this, List.map_id]
def spCompare : Sp := fun vs H Q _ => ∃ (u v : V) (a b : Vol) (W : Nat), vs = [u, v] ∧ VolAt H u a ∧ VolAt H v b ∧ a.depth ≤ 20 ∧ b.depth ≤ 20 ∧ a.Ok W ∧ b.Ok W ∧ W ≤ 100000 ∧ (diff 20 a b).length ≤ 100000 ∧
  ∀ l ys H', Same H H' → H' l = some (.lst ys) → TpAll H' ys ((diff 20 a b).map Chg.data) → Q (.ref l) H'
theorem scCompare : FnScope ["first", "second", "found"] ["first", "second"] (defScope sPCompare) := ⟨rfl, rfl, rfl, by decide +kernel, rfl, by decide +kernel, by decide +kernel⟩
theorem ok_compare {f g : Addr} {fd gd : FuncData} (T : Txt K mg CA CN) (D : DPCompare K mg f fd) (D1 : DPCollect K mg g gd) : FnOk P w K mg base CX0 21 f fd ["first", "second"] spCompare := by
  have G := ok_collect (P := P) (w := w) (base := base) T D1 20
  refine D.F.ok scCompare (fun vs H Q E h => ?_) (fun cdv A outer s H vs Q E hr h => ?_)
  · obtain ⟨u, v, a, b, W, rfl, _⟩ := h
    rfl
  obtain ⟨u, v, a, b, W, rfl, hu, hv, da, db, oa, ob, hW, hl, k⟩ := h
  refine ⟨_, pss_cons (ps_set (i := 2) scCompare.nd rfl (.inl rfl) (pe_lst pa_nil))
    (pss_cons (ps_expr (pe_call G hr rfl D1.m D1.F.kp D1.b .nil pass0 (pa_cons (pv 0) (pa_cons (pv 1) (pa_cons (pe_tup pa_nil) (pa_cons (pv 2) pa_nil))))))
    (pss_one (ps_ret (pv 2)))), ?_⟩
  refine ⟨sz0, fun l nl => ?_⟩
  have s1 := same_new nl (.lst [])
  refine ⟨_, rfl, _, rfl, sz0, fun t nt => ⟨_, rfl, ?_⟩⟩
  have s2 := s1.trans (same_new nt (.tup []))
  refine ⟨u, v, .ref t, l, [], a, b, [], W, rfl, Tp.mono (ts_of s2) hu, Tp.mono (ts_of s2) hv, PathAt.mk upd_same, same_new nt _ _ _ upd_same, da, Nat.le_refl _, db, oa, ob, hW, by decide, by rw [List.length_nil]; omega, fun H' ys k1 h1 t1 => ?_⟩
  rw [under_nil'] at t1
  refine ⟨_, rfl, k l ys H' (fun c o z => k1 c o (s2 c o z) (ne_of_none z nl)) h1 t1⟩
end
end Sc

namespace Sc
open PySem L2
section
variable {P : Program} {w : World} {K : PySem.W.Frag} {mg : Str → Option Value} {base : Heap} {CA CN : Addr}
/-! ### the law's numbers -/
def spCell (K : PySem.W.Frag) : Sp := fun vs H Q _ => ∃ (a : Addr) (ns : List Int) (k : Int), vs = [.ref a, .int k] ∧ SqL K H a (ns.map V.int) ∧ 0 ≤ k ∧ ∀ z : Int, Q (.int z) H
theorem scCell : FnScope ["_law_script", "_law_k"] ["_law_script", "_law_k"] (defScope sLCell) := ⟨rfl, rfl, rfl, by decide +kernel, rfl, by decide +kernel, by decide +kernel⟩
theorem ok_cell {f : Addr} {fd : FuncData} (T : Txt K mg CA CN) (D : DLCell K mg f fd) : FnOk P w K mg base CX0 1 f fd ["_law_script", "_law_k"] (spCell K) := by
  refine D.F.ok scCell (fun vs H Q E h => ?_) (fun cdv A outer s H vs Q E hr h => ?_)
  · obtain ⟨a, ns, k, rfl, _⟩ := h
    rfl
  obtain ⟨a, ns, k, rfl, hs, h0, q⟩ := h
  refine ⟨_, pss_cons (ps_if (pt_cmpR op_lt (pv 1) (pe_callB call_len_seq (by rfl) T.mLen PySem.boot_len (pa_cons (pv 0) pa_nil)) (nomark _))
      (pss_one (ps_ret (pe_callTy call_int1 (by rfl) T.mInt (by decide +kernel) (pa_cons (pe_ix ix_list (pv 0) (pv 1) (fun _ _ => rfl)) pa_nil)))) pss_nil)
    (pss_one (ps_ret pe_int)), ?_⟩
  refine ⟨_, rfl, _, rfl, a, _, rfl, .inl hs, _, _, rfl, rfl, _, rfl, ?_⟩
  refine ite2 (fun c => ?_) (fun c => ?_)
  · have c' : k < ((ns.map V.int).length : Int) := of_decide_eq_true c
    obtain ⟨j, rfl⟩ := Int.eq_ofNat_of_zero_le h0
    have hj : j < ns.length := by rw [List.length_map] at c'; omega
    have e : (ns.map V.int)[j]? = some (.int ns[j]) := by rw [List.getElem?_map, List.getElem?_eq_getElem hj]; rfl
    exact ⟨_, rfl, _, rfl, a, _, _, _, rfl, rfl, hs, atI_nat e, .inl ⟨_, rfl, q _⟩⟩
  · exact q 0
def spMix : Sp := fun vs H Q _ => ∃ (c k : Int), vs = [.int c, .int k] ∧ ∀ z : Int, 0 ≤ z → Q (.int z) H
theorem scMix : FnScope ["_law_cell_here", "_law_k", "_law_number"] ["_law_cell_here", "_law_k"] (defScope sLMix) := ⟨rfl, rfl, rfl, by decide +kernel, rfl, by decide +kernel, by decide +kernel⟩
theorem mul_r {i : Int} {n : Int} (h : -(2 ^ 64) < n ∧ n < 2 ^ 64) : CMul i n := .inr h
theorem mul_l {i : Int} {n : Int} (h : -(2 ^ 64) < n ∧ n < 2 ^ 64) : CMul n i := .inl h
theorem ok_mix {f : Addr} {fd : FuncData} (T : Txt K mg CA CN) (D : DLMix K mg f fd) : FnOk P w K mg base CX0 1 f fd ["_law_cell_here", "_law_k"] spMix := by
  refine D.F.ok scMix (fun vs H Q E h => ?_) (fun cdv A outer s H vs Q E hr h => ?_)
  · obtain ⟨c, k, rfl, _⟩ := h
    rfl
  obtain ⟨c, k, rfl, q⟩ := h
  refine ⟨_, pss_cons (ps_set (i := 2) scMix.nd rfl (.inl rfl) (pe_op op_mod (pe_callTy call_int1 (by rfl) T.mInt (by decide +kernel) (pa_cons (pe_op op_add (pe_op op_add (pe_op op_mul (pv 0) pe_int) (pe_op op_mul (pv 1) pe_int)) pe_int) pa_nil)) pe_int))
    (pss_cons (ps_set (i := 2) scMix.nd rfl (.inl rfl) (pe_op op_mod (pe_callTy call_int1 (by rfl) T.mInt (by decide +kernel) (pa_cons (pe_op op_add (pe_op op_add (pe_op op_mul (pv 2) pe_int) (pe_op op_mul (pv 1) pe_int)) pe_int) pa_nil)) pe_int))
    (pss_one (ps_ret (pe_op op_fdiv (pv 2) pe_int)))), ?_⟩
  refine ⟨_, rfl, _, _, rfl, rfl, mul_r (by decide), _, rfl, _, _, rfl, rfl, mul_r (by decide), _, _, rfl, rfl, _, _, rfl, rfl, .inl ⟨_, rfl, _, _, rfl, rfl, (show (0 : Int) < 2147483647 by decide), ?_⟩⟩
  refine ⟨_, rfl, _, _, rfl, rfl, mul_r (by decide), _, rfl, _, _, rfl, rfl, mul_r (by decide), _, _, rfl, rfl, _, _, rfl, rfl, .inl ⟨_, rfl, _, _, rfl, rfl, (show (0 : Int) < 2147483629 by decide), ?_⟩⟩
  refine ⟨_, rfl, _, _, rfl, rfl, ⟨by decide, by decide⟩, q _ ?_⟩
  exact Int.ediv_nonneg (Int.emod_nonneg _ (by decide)) (by decide)
def spRow : Sp := fun vs H Q _ => ∃ (c n b : Int), vs = [.int c, .int n, .int b] ∧ 0 ≤ n ∧ n ≤ 1000 ∧ 0 < b ∧ b < 1073741824 ∧ ∀ (l : Addr) (ns : List Int) (H' : Hp), Same H H' → H' l = some (.lst (ns.map V.int)) → ns.length = n.toNat → (∀ z ∈ ns, 0 ≤ z ∧ z < b) → Q (.ref l) H'
theorem scRow : FnScope ["_law_cell_here", "_law_count", "_law_bound", "_law_found", "_law_rest", "_law_k"] ["_law_cell_here", "_law_count", "_law_bound"] (defScope sLRow) := ⟨rfl, rfl, rfl, by decide +kernel, rfl, by decide +kernel, by decide +kernel⟩
theorem ok_row {f g : Addr} {fd gd : FuncData} (T : Txt K mg CA CN) (D : DLRow K mg f fd) (D1 : DLMix K mg g gd) : FnOk P w K mg base CX0 2 f fd ["_law_cell_here", "_law_count", "_law_bound"] spRow := by
  have G := ok_mix (P := P) (w := w) (base := base) T D1
  refine D.F.ok scRow (fun vs H Q E h => ?_) (fun cdv A outer s H vs Q E hr h => ?_)
  · obtain ⟨c, n, b, rfl, _⟩ := h
    rfl
  obtain ⟨c, n, b, rfl, n0, n1, b0, b1, q⟩ := h
  refine ⟨_, pss_cons (ps_set (i := 3) scRow.nd rfl (.inl rfl) (pe_lst pa_nil))
    (pss_cons (ps_set (i := 4) scRow.nd rfl (.inl rfl) (pe_callB call_abs (by rfl) T.mAbs (by decide +kernel) (pa_cons (pv 0) pa_nil)))
    (pss_cons (ps_for PassesOwn.never rfl (pi_range1 (by rfl) T.mRange (pa_cons (pv 1) pa_nil)) (pg_name (i := 5) scRow.nd rfl (.inl rfl))
      (pss_one (ps_if (pt_cmpR op_ge (pe_callB call_abs (by rfl) T.mAbs (by decide +kernel) (pa_cons (pv 0) pa_nil)) pe_int (nomark _))
        (pss_cons (ps_expr (pe_bm PySem.F.plainAttrs_list PySem.F.slot_list_append PySem.F.type_list_append mt_append (pv 3) (pa_cons (pe_op op_mod (pe_callTy call_int1 (by rfl) T.mInt (by decide +kernel) (pa_cons (pv 4) pa_nil)) (pv 2)) pa_nil)))
        (pss_one (ps_set (i := 4) scRow.nd rfl (.inl rfl) (pe_op op_fdiv (pv 4) (pv 2)))))
        (pss_one (ps_expr (pe_bm PySem.F.plainAttrs_list PySem.F.slot_list_append PySem.F.type_list_append mt_append (pv 3) (pa_cons (pe_op op_mod (pe_callTy call_int1 (by rfl) T.mInt (by decide +kernel) (pa_cons (pe_call G hr rfl D1.m D1.F.kp D1.b .nil pass0 (pa_cons (pv 0) (pa_cons (pv 5) pa_nil))) pa_nil)) (pv 2)) pa_nil)))))))
    (pss_one (ps_ret (pv 3))))), ?_⟩
  refine ⟨sz0, fun l nl => ⟨_, rfl, _, rfl, ?_⟩⟩
  refine ⟨_, rfl, n, rfl, by omega, by omega, for_range (lo := 0) (n := n.toNat) (fun i σ H' => ∃ r o ns, σ = [some (.int c), some (.int n), some (.int b), some (.ref l), some (.int r), o] ∧ Same H H' ∧ H' l = some (.lst (ns.map V.int)) ∧ ns.length = i ∧ ∀ z ∈ ns, 0 ≤ z ∧ z < b)
    ⟨_, _, [], rfl, same_new nl _, upd_same, rfl, fun z hz => by simp at hz⟩ ?_ ?_⟩
  · rintro i σ H' hi ⟨r, o, ns, rfl, s1, hl, hn, hb⟩
    have next : ∀ z : Int, 0 ≤ z → z < b → Same H (upd H' l (.lst (ns.map V.int ++ [.int z]))) ∧ upd H' l (.lst (ns.map V.int ++ [.int z])) l = some (.lst ((ns ++ [z]).map V.int)) ∧ (ns ++ [z]).length = i + 1 ∧ ∀ y ∈ ns ++ [z], 0 ≤ y ∧ y < b := fun z h0 h1 => by
      refine ⟨fun c o z => by rw [upd_ne (ne_of_none z nl)]; exact s1 c o z, by rw [upd_same, List.map_append]; rfl, by rw [List.length_append, hn]; rfl, fun y hy => ?_⟩
      rcases List.mem_append.mp hy with q | q
      · exact hb y q
      · rw [List.mem_singleton] at q
        subst q
        exact ⟨h0, h1⟩
    have sm : (ns.map V.int).length < sizeLine := small (by rw [List.length_map]; omega)
    refine ⟨_, rfl, _, rfl, _, _, rfl, rfl, _, rfl, ?_⟩
    refine ite2 (fun _ => ?_) (fun _ => ?_)
    · obtain ⟨t1, t2, t3, t4⟩ := next (r % b) (Int.emod_nonneg _ (by omega)) (Int.emod_lt_of_pos _ b0)
      refine ⟨_, rfl, .inl ⟨rfl, _, SqL.of hl⟩, _, rfl, .inl ⟨_, rfl, _, rfl, _, _, rfl, rfl, b0, l, _, _, rfl, rfl, hl, sm, ?_⟩⟩
      exact ⟨_, rfl, _, rfl, _, _, rfl, rfl, ⟨b0, b1⟩, _, _, _, rfl, t1, t2, t3, t4⟩
    · refine ⟨_, rfl, .inl ⟨rfl, _, SqL.of hl⟩, _, rfl, _, rfl, _, _, rfl, fun z hz => .inl ⟨_, rfl, _, rfl, _, _, rfl, rfl, b0, l, _, _, rfl, rfl, hl, sm, ?_⟩⟩
      obtain ⟨t1, t2, t3, t4⟩ := next (z % b) (Int.emod_nonneg _ (by omega)) (Int.emod_lt_of_pos _ b0)
      exact ⟨_, _, _, rfl, t1, t2, t3, t4⟩
  · rintro σ H' ⟨r, o, ns, rfl, s1, hl, hn, hb⟩
    exact ⟨_, rfl, q l ns H' s1 hl hn hb⟩
def spIsCode : Sp := fun vs H Q _ => ∃ (o : Int), vs = [.int o] ∧ ∀ b : Bool, Q (.bl b) H
theorem scIsCode : FnScope ["_law_octet"] ["_law_octet"] (defScope sLIsCode) := ⟨rfl, rfl, rfl, by decide +kernel, rfl, by decide +kernel, by decide +kernel⟩
theorem ok_is_code {f : Addr} {fd : FuncData} (D : DLIsCode K mg f fd) : FnOk P w K mg base CX0 1 f fd ["_law_octet"] spIsCode := by
  refine D.F.ok scIsCode (fun vs H Q E h => ?_) (fun cdv A outer s H vs Q E hr h => ?_)
  · obtain ⟨o, rfl, _⟩ := h
    rfl
  obtain ⟨o, rfl, q⟩ := h
  refine ⟨_, pss_one (ps_ret (pe_or (pe_cmpR op_eq (pv 0) pe_int (nomark _)) (pe_one (pe_and (pe_chain op_le op_le pe_int (pv 0) pe_int) (pe_one (pe_cmpR op_ne (pv 0) pe_int (nomark _))))))), ?_⟩
  refine ⟨_, rfl, rfl, _, rfl, ?_⟩
  refine ite2 (fun _ => q _) (fun _ => ?_)
  refine ⟨_, rfl, _, _, rfl, rfl, _, rfl, ?_⟩
  have tail : ∀ b : Bool, (if b = true then tOp rNe (tVar 0) (tC (.int 37)) [some (.int o)] H Q else Q (.bl false) H) := fun b => by
    refine ite2 (fun _ => ?_) (fun _ => q _)
    exact ⟨_, rfl, rfl, q _⟩
  refine ite2 (fun _ => ?_) (fun _ => ?_)
  · exact ⟨_, _, rfl, rfl, _, rfl, tail _⟩
  · exact ⟨_, rfl, tail _⟩
end
end Sc

namespace Sc
open PySem L2
section
variable {P : Program} {w : World} {K : PySem.W.Frag} {mg : Str → Option Value} {base : Heap} {CA CN : Addr}
/-! ### the law's texts -/
def lawChars : Str := (" !\"#$&'()*+,-./0123456789:;<=>?@ABCDEFGHIJKLMNOPQRSTUVWXYZ[\\]^_`" : Str) ++ ("abcdefghijklmnopqrstuvwxyz{|}~\n" : Str)
theorem lawChars_ok : lawChars.cps.toList.all (fun c => decide (c < 1114112)) = true := by decide +kernel
theorem lawChars_len : lawChars.length = 95 := by decide +kernel
theorem lawChars_at {j : Nat} (h : j < lawChars.length) : ∃ c, lawChars.cps.toList[j]? = some c ∧ c < 1114112 := by
  have h' : j < lawChars.cps.toList.length := h
  refine ⟨_, List.getElem?_eq_getElem h', ?_⟩
  exact of_decide_eq_true (List.all_eq_true.mp lawChars_ok _ (List.getElem_mem h'))
/-- texts of one sign each -/
def chS (l : List Nat) : List Str := l.map fun c => ⟨#[c]⟩
theorem joinL_one : ∀ l : List Nat, TL.joinL [] (l.map fun c => [c]) = l
  | [] => rfl
  | [c] => rfl
  | c :: d :: r => by
    show [c] ++ ([] ++ TL.joinL [] ((d :: r).map fun c => [c])) = _
    rw [joinL_one (d :: r)]
    rfl
theorem join_chars (l : List Nat) : Txt.join ("" : Str) (chS l) = ⟨l.toArray⟩ := by
  rw [TL.join_eq]
  refine str_ext ?_
  show TL.tl (Str.join ("" : Str) (chS l)) = l
  rw [TL.tl_join]
  have e1 : TL.tl ("" : Str) = [] := by decide +kernel
  have e2 : (chS l).map TL.tl = l.map fun c => [c] := by
    unfold chS
    rw [List.map_map]
    rfl
  rw [e1, e2, joinL_one]
theorem okS_of {l : List Nat} (h : ∀ c ∈ l, c < 1114112) (n : l.length ≤ 1000) : okS ⟨l.toArray⟩ := by
  refine ⟨?_, ?_⟩
  · show (l.toArray).all (fun c => decide (c < 0x110000)) = true
    rw [List.all_toArray, List.all_eq_true]
    exact fun c hc => decide_eq_true (h c hc)
  · show l.toArray.size ≤ 1000
    rw [List.size_toArray]
    exact n
theorem chS_sum (l : List Nat) : ((chS l).map (·.length)).sum + (chS l).length * ("" : Str).length = l.length := by
  have e : ("" : Str).length = 0 := by decide +kernel
  rw [e, Nat.mul_zero, Nat.add_zero]
  induction l with
  | nil => rfl
  | cons c r ih =>
    show 1 + ((chS r).map (·.length)).sum = _
    rw [ih, List.length_cons]
    omega
def spChars : Sp := fun vs H Q _ => vs = [] ∧ Q (.str lawChars) H
theorem scChars : FnScope ["_law_first"] [] (defScope sLChars) := ⟨rfl, rfl, rfl, by decide +kernel, rfl, by decide +kernel, by decide +kernel⟩
theorem ok_chars {f : Addr} {fd : FuncData} (D : DLChars K mg f fd) : FnOk P w K mg base CX0 1 f fd [] spChars := by
  refine D.F.ok scChars (fun vs H Q E h => ?_) (fun cdv A outer s H vs Q E hr h => ?_)
  · obtain ⟨rfl, _⟩ := h
    rfl
  obtain ⟨rfl, q⟩ := h
  refine ⟨_, pss_cons (ps_set (i := 0) scChars.nd rfl (.inl rfl) pe_str) (pss_one (ps_ret (pe_op op_add_str (pv 0) pe_str))), ?_⟩
  refine ⟨_, rfl, _, _, rfl, rfl, small' (by decide +kernel), q⟩
def spText : Sp := fun vs H Q _ => ∃ (c n : Int), vs = [.int c, .int n] ∧ 0 ≤ n ∧ n ≤ 1000 ∧ ∀ (z : Str) (H' : Hp), Same H H' → okS z → Q (.str z) H'
abbrev nText : List Str := ["_law_cell_here", "_law_size_here", "_law_chars_here", "_law_k"]
theorem scText : FnScope nText ["_law_cell_here", "_law_size_here"] (defScope sLText) := ⟨rfl, rfl, rfl, by decide +kernel, rfl, by decide +kernel, by decide +kernel⟩
theorem ok_text' {f g1 g2 g3 : Addr} {fd gd1 gd2 gd3 : FuncData} (T : Txt K mg CA CN) (D : DLText K mg f fd) (D1 : DLMix K mg g1 gd1) (D2 : DLRow K mg g2 gd2) (D3 : DLChars K mg g3 gd3) : FnOk P w K mg base CX0 3 f fd ["_law_cell_here", "_law_size_here"] spText := by
  have GR := ok_row (P := P) (w := w) (base := base) T D2 D1
  have GC := ok_chars (P := P) (w := w) (base := base) D3
  refine D.F.ok scText (fun vs H Q E h => ?_) (fun cdv A outer s H vs Q E hr h => ?_)
  · obtain ⟨c, n, rfl, _⟩ := h
    rfl
  obtain ⟨c, n, rfl, n0, n1, q⟩ := h
  have hr1 : Room 1 _ := hr.mono (by decide)
  refine ⟨_, pss_cons (ps_set (i := 2) scText.nd rfl (.inr rfl) (pe_call0 GC hr1 rfl D3.m D3.F.kp D3.b .nil pass0))
    (pss_one (ps_ret (pe_join pe_str (pe_lc (own := [("_law_k", 3)]) (g := gName 3) rfl scText.nd (pi_list (pe_call GR hr rfl D2.m D2.F.kp D2.b .nil pass0 (pa_cons (pv 0) (pa_cons (pv 1) (pa_cons (pe_callB call_len_str (by rfl) T.mLen PySem.boot_len (pa_cons (pv 2) pa_nil)) pa_nil)))))
      (blkOk_by (N := nText) (sc := defScope sLText) (by decide +kernel)) (fun _ _ _ _ _ => pg_name (i := 3) scText.nd rfl (.inl rfl)) (fun _ _ _ _ _ => pts_nil) (fun _ _ _ _ _ => pe_ix ix_str (pv 2) (pv 3) (fun _ _ => rfl)))))), ?_⟩
  refine ⟨rfl, ?_⟩
  have lc : lawChars.length ≤ sizeLine := small' (by rw [lawChars_len]; decide)
  refine ⟨⟨_, rfl⟩, _, rfl, _, rfl, _, rfl, _, rfl, lc, c, n, _, rfl, n0, n1, by rw [lawChars_len]; decide, by rw [lawChars_len]; decide, fun l ns H1 s1 hl hn hb => ?_⟩
  refine ⟨l, rfl, ⟨_, SqL.of hl⟩, fun D nD => lc_list (K := K) (a := l) (xs := ns.map V.int) (fun i H' => ∃ cs, H' D = some (.lst ((chS cs).map V.str)) ∧ cs.length = i ∧ (∀ c ∈ cs, c < 1114112) ∧ Same H1 H')
    ⟨[], upd_same, rfl, fun c hc => by simp at hc, same_new nD _⟩ (fun i H' _ ⟨_, _, _, _, s2⟩ => s2.seq (SqL.of hl)) ?_ ?_⟩
  · rintro i x H' hx ⟨cs, hD, hc, ho, s2⟩
    obtain ⟨z, hz, rfl⟩ := map_at hx
    obtain ⟨z0, z1⟩ := hb z (List.mem_of_getElem? hz)
    obtain ⟨j, rfl⟩ := Int.eq_ofNat_of_zero_le z0
    obtain ⟨ch, h1, h2⟩ := lawChars_at (j := j) (by omega)
    refine ⟨rfl, _, rfl, _, rfl, lawChars, _, ch, rfl, rfl, lc, atI_nat h1, _, hD, small ?_, cs ++ [ch], ?_, by rw [List.length_append, hc]; rfl, fun y hy => ?_, fun c o z => by rw [upd_ne (ne_of_none z nD)]; exact s2 c o z⟩
    · have := at_lt hz
      rw [List.length_map]
      unfold chS
      rw [List.length_map]
      omega
    · rw [upd_same]
      unfold chS
      rw [List.map_append, List.map_append]
      rfl
    · rcases List.mem_append.mp hy with w1 | w1
      · exact ho y w1
      · rw [List.mem_singleton] at w1
        subst w1
        exact h2
  · rintro H2 ⟨cs, hD, hc, ho, s2⟩
    rw [List.length_map] at hc
    refine ⟨_, D, chS cs, rfl, rfl, .inl (SqL.of hD), by rw [chS_sum]; omega, ?_⟩
    rw [join_chars]
    exact q _ _ (s1.trans s2) (okS_of ho (by omega))
end
end Sc

namespace Sc
open PySem L2
section
variable {P : Program} {w : World} {K : PySem.W.Frag} {mg : Str → Option Value} {base : Heap} {CA CN : Addr}
/-! ### the law's names -/
def nameChars : Str := "abcdefghijklmnopqrstuvwxyz0123456789-."
theorem nameChars_ok : nameChars.cps.toList.all (fun c => decide (c < 1114112)) = true := by decide +kernel
theorem nameChars_len : nameChars.length = 38 := by decide +kernel
theorem nameChars_at {j : Nat} (h : j < nameChars.length) : ∃ c, nameChars.cps.toList[j]? = some c ∧ c < 1114112 := by
  have h' : j < nameChars.cps.toList.length := h
  refine ⟨_, List.getElem?_eq_getElem h', ?_⟩
  exact of_decide_eq_true (List.all_eq_true.mp nameChars_ok _ (List.getElem_mem h'))
theorem inV_strs (n : Str) (l : List Str) : inV (.str n) (l.map V.str) = decide (n ∈ l) := by
  unfold inV
  rw [List.any_map]
  by_cases h : n ∈ l
  · rw [decide_eq_true h, List.any_eq_true]
    exact ⟨n, h, by simp [eqV]⟩
  · rw [decide_eq_false h, List.any_eq_false]
    intro y hy
    have : y ≠ n := fun e => h (e ▸ hy)
    simp [eqV, this]
theorem flat_strs (l : List Str) : (l.map V.str).all flatV = true := by
  rw [List.all_map, List.all_eq_true]
  intro _ _
  rfl
def spNames : Sp := fun vs H Q _ => ∃ (c n : Int), vs = [.int c, .int n] ∧ 0 ≤ n ∧ n ≤ 1000 ∧
  ∀ (l : Addr) (ns : List Str) (H' : Hp), Same H H' → H' l = some (.lst (ns.map V.str)) → Asc ns → ns.length ≤ n.toNat → (∀ x ∈ ns, okS x) → (1 ≤ n → ns ≠ []) → Q (.ref l) H'
abbrev nNames : List Str := ["_law_cell_here", "_law_count", "_law_chars_here", "_law_found", "_law_k", "_law_size_here", "_law_name", "_law_j"]
theorem scNames : FnScope nNames ["_law_cell_here", "_law_count"] (defScope sLNames) := ⟨rfl, rfl, rfl, by decide +kernel, rfl, by decide +kernel, by decide +kernel⟩
theorem ok_names {f g1 : Addr} {fd gd1 : FuncData} (T : Txt K mg CA CN) (D : DLNames K mg f fd) (D1 : DLMix K mg g1 gd1) : FnOk P w K mg base CX0 2 f fd ["_law_cell_here", "_law_count"] spNames := by
  have G := ok_mix (P := P) (w := w) (base := base) T D1
  refine D.F.ok scNames (fun vs H Q E h => ?_) (fun cdv A outer s H vs Q E hr h => ?_)
  · obtain ⟨c, n, rfl, _⟩ := h
    rfl
  obtain ⟨c, n, rfl, n0, n1, q⟩ := h
  refine ⟨_, pss_cons (ps_set (i := 2) scNames.nd rfl (.inr rfl) pe_str)
    (pss_cons (ps_set (i := 3) scNames.nd rfl (.inl rfl) (pe_lst pa_nil))
    (pss_cons (ps_for PassesOwn.never rfl (pi_range1 (by rfl) T.mRange (pa_cons (pv 1) pa_nil)) (pg_name (i := 4) scNames.nd rfl (.inr rfl))
      (pss_cons (ps_set (i := 5) scNames.nd rfl (.inl rfl) (pe_op op_add pe_int (pe_op op_mod (pe_call G hr rfl D1.m D1.F.kp D1.b .nil pass0 (pa_cons (pv 0) (pa_cons (pe_op op_mul pe_int (pv 4)) pa_nil))) pe_int)))
      (pss_cons (ps_if (pt_cmpR op_eq (pe_op op_mod (pe_call G hr rfl D1.m D1.F.kp D1.b .nil pass0 (pa_cons (pv 0) (pa_cons (pe_op op_add (pe_op op_mul pe_int (pv 4)) pe_int) pa_nil))) pe_int) pe_int (nomark _)) (pss_one (ps_set (i := 5) scNames.nd rfl (.inl rfl) pe_int)) pss_nil)
      (pss_cons (ps_set (i := 6) scNames.nd rfl (.inl rfl) (pe_join pe_str (pe_lc (own := [("_law_j", 7)]) (g := gName 7) rfl scNames.nd (pi_range1 (by rfl) T.mRange (pa_cons (pv 5) pa_nil))
          (blkOk_by (N := nNames) (sc := defScope sLNames) (by decide +kernel)) (fun _ _ _ _ _ => pg_name (i := 7) scNames.nd rfl (.inl rfl)) (fun _ _ _ _ _ => pts_nil)
          (fun _ _ _ _ _ => pe_ix ix_str (pv 2) (pe_op op_mod (pe_call G hr rfl D1.m D1.F.kp D1.b .nil pass0 (pa_cons (pv 0) (pa_cons (pe_op op_add (pe_op op_mul pe_int (pv 4)) (pv 7)) pa_nil))) (pe_callB call_len_str (by rfl) T.mLen PySem.boot_len (pa_cons (pv 2) pa_nil))) (fun _ _ => rfl)))))
      (pss_one (ps_if (pt_cmpR op_notIn_seq (pv 6) (pv 3) (by rfl)) (pss_one (ps_expr (pe_bm PySem.F.plainAttrs_list PySem.F.slot_list_append PySem.F.type_list_append mt_append (pv 3) (pa_cons (pv 6) pa_nil)))) pss_nil))))))
    (pss_one (ps_ret (pe_callB cr_sortedT (by rfl) T.mSorted (by decide +kernel) (pa_cons (pv 3) pa_nil)))))), ?_⟩
  refine ⟨sz0, fun l nl => ?_⟩
  have lc : nameChars.length ≤ sizeLine := small' (by rw [nameChars_len]; decide)
  refine ⟨_, rfl, n, rfl, by omega, by omega, for_range (lo := 0) (n := n.toNat) (fun i σ H' => ∃ o1 o2 o3 ns, σ = [some (.int c), some (.int n), some (.str nameChars), some (.ref l), o1, o2, o3, none] ∧ Same H H' ∧ H' l = some (.lst (ns.map V.str)) ∧ ns.Nodup ∧ ns.length ≤ i ∧ (∀ x ∈ ns, okS x) ∧ (1 ≤ i → ns ≠ []))
    ⟨_, _, _, [], rfl, same_new nl _, upd_same, List.nodup_nil, Nat.le_refl _, fun x hx => by simp at hx, fun h => absurd h (by omega)⟩ ?_ ?_⟩
  · rintro i σ H' hi ⟨o1, o2, o3, ns, rfl, s1, hl, hn, hle, ho, hne⟩
    refine ⟨_, rfl, _, rfl, _, _, rfl, rfl, mul_l (by decide), _, _, rfl, fun z1 hz1 => ?_⟩
    refine ⟨_, _, rfl, rfl, (show (0 : Int) < 3 by decide), _, _, rfl, rfl, ?_⟩
    have b1 := Int.emod_nonneg z1 (show (3 : Int) ≠ 0 by decide)
    have b2 := Int.emod_lt_of_pos z1 (show (0 : Int) < 3 by decide)
    refine ⟨_, rfl, _, rfl, _, _, rfl, rfl, mul_l (by decide), _, _, rfl, rfl, _, _, rfl, fun z2 hz2 => ?_⟩
    refine ⟨_, _, rfl, rfl, (show (0 : Int) < 11 by decide), rfl, _, rfl, ?_⟩
    -- the rest of the turn, whatever the size
    have rest : ∀ sz : Int, 1 ≤ sz → sz ≤ 20 → ∀ (D' : Ends), D'.nx = (fun σ H' => ∃ o1 o2 o3 ns, σ = [some (.int c), some (.int n), some (.str nameChars), some (.ref l), o1, o2, o3, none] ∧ Same H H' ∧ H' l = some (.lst (ns.map V.str)) ∧ ns.Nodup ∧ ns.length ≤ i + 1 ∧ (∀ x ∈ ns, okS x) ∧ (1 ≤ i + 1 → ns ≠ [])) →
        tSeq (tAsg (tM1 (fun x xs H Q => ∃ a p, ∃ ys : List Str, x = .str a ∧ xs = [.ref p] ∧ (SqL K H p (ys.map V.str) ∨ SqT K H p (ys.map V.str)) ∧ (ys.map (·.length)).sum + ys.length * a.length ≤ 16777216 ∧ Q (.str (Txt.join a ys)) H) (tC (.str ""))
          (tLc (iRng1 (tCons (tVar 5) tNil)) (gName 7) tYes (tOp rIxS (tVar 2) (tOp (rI (fun _ j => 0 < j) fun i j => .int (i % j)) (tCall spMix [] E0 (tCons (tVar 0) (tCons (tOp (rI0 fun i j => .int (i + j)) (tOp (rI CMul fun i j => .int (i * j)) (tC (.int 31)) (tVar 4)) (tVar 7)) tNil)))
            (tCB (fun xs H Q => ∃ z, xs = [.str z] ∧ z.length ≤ sizeLine ∧ Q (.int z.length) H) (tCons (tVar 2) tNil)))) [7])) (gName 6))
          (tIfS (tTest (tOp (rIn K true) (tVar 6) (tVar 3))) (tDrop (tBM K "list" rAppend (tVar 3) (tCons (tVar 6) tNil))) tNext) D' [some (.int c), some (.int n), some (.str nameChars), some (.ref l), some (.int (0 + i)), some (.int sz), o3, none] H' := fun sz h1 h2 D' hD => by
      refine ⟨⟨_, rfl⟩, _, rfl, sz, rfl, by omega, by omega, fun D nD => lc_range (lo := 0) (n := sz.toNat) (fun i H2 => ∃ cs, H2 D = some (.lst ((chS cs).map V.str)) ∧ cs.length = i ∧ (∀ c ∈ cs, c < 1114112) ∧ Same H' H2)
        ⟨[], upd_same, rfl, fun c hc => by simp at hc, same_new nD _⟩ ?_ ?_⟩
      · rintro j H2 hj ⟨cs, hD2, hc, ho2, s2⟩
        refine ⟨rfl, _, rfl, _, rfl, _, rfl, _, _, rfl, rfl, mul_l (by decide), _, rfl, _, _, rfl, rfl, _, _, rfl, fun z3 hz3 => ?_⟩
        refine ⟨_, rfl, _, rfl, lc, _, _, rfl, rfl, (show (0 : Int) < (nameChars.length : Int) by rw [nameChars_len]; decide), ?_⟩
        have e0 := Int.emod_nonneg z3 (show ((nameChars.length : Nat) : Int) ≠ 0 by rw [nameChars_len]; decide)
        have e1 := Int.emod_lt_of_pos z3 (show (0 : Int) < (nameChars.length : Int) by rw [nameChars_len]; decide)
        obtain ⟨jj, hjj⟩ := Int.eq_ofNat_of_zero_le e0
        obtain ⟨ch, k1, k2⟩ := nameChars_at (j := jj) (by omega)
        have k3 : atI nameChars.cps.toList (z3 % (nameChars.length : Int)) = some ch := by rw [hjj]; exact atI_nat k1
        refine ⟨nameChars, _, ch, rfl, rfl, lc, k3, _, hD2, small ?_, cs ++ [ch], ?_, by rw [List.length_append, hc]; rfl, fun y hy => ?_, fun c o z => by rw [upd_ne (ne_of_none z nD)]; exact s2 c o z⟩
        · rw [List.length_map]
          unfold chS
          rw [List.length_map]
          omega
        · rw [upd_same]
          unfold chS
          rw [List.map_append, List.map_append]
          rfl
        · rcases List.mem_append.mp hy with w1 | w1
          · exact ho2 y w1
          · rw [List.mem_singleton] at w1
            subst w1
            exact k2
      · rintro H2 ⟨cs, hD2, hc, ho2, s2⟩
        refine ⟨_, D, chS cs, rfl, rfl, .inl (SqL.of hD2), by rw [chS_sum]; omega, ?_⟩
        rw [join_chars]
        have oks := okS_of ho2 (by omega)
        generalize (⟨cs.toArray⟩ : Str) = nm at oks
        have hl2 := s2 _ _ hl
        refine ⟨_, rfl, _, rfl, l, _, rfl, .inl (SqL.of hl2), rfl, flat_strs ns, _, rfl, ?_⟩
        show if (!inV (.str nm) (ns.map V.str)) = true then _ else _
        rw [inV_strs]
        by_cases hin : nm ∈ ns
        · refine ifF (by simp [hin]) ?_
          show D'.nx _ _
          rw [hD]
          exact ⟨_, _, _, ns, rfl, s1.trans s2, hl2, hn, by omega, ho, fun _ e => by subst e; simp at hin⟩
        · refine ifT (by simp [hin]) ?_
          refine ⟨_, rfl, .inl ⟨rfl, _, SqL.of hl2⟩, _, rfl, l, _, _, rfl, rfl, hl2, small (by rw [List.length_map]; omega), ?_⟩
          rw [hD]
          refine ⟨_, _, _, ns ++ [nm], rfl, fun c o z => by rw [upd_ne (ne_of_none z nl)]; exact (s1.trans s2) c o z, by rw [upd_same, List.map_append]; rfl, List.nodup_append.mpr ⟨hn, List.nodup_cons.mpr ⟨by simp, List.nodup_nil⟩, fun x hx y hy e => ?_⟩, by rw [List.length_append]; show ns.length + 1 ≤ _; omega, fun x hx => ?_, fun _ => by simp⟩
          · rw [List.mem_singleton] at hy
            subst hy
            subst e
            exact hin hx
          · rcases List.mem_append.mp hx with w1 | w1
            · exact ho x w1
            · rw [List.mem_singleton] at w1
              subst w1
              exact oks
    refine ite2 (fun _ => rest 20 (by decide) (by decide) _ rfl) (fun _ => rest _ (by omega) (by omega) _ rfl)
  · rintro σ H' ⟨o1, o2, o3, ns, rfl, s1, hl, hn, hle, ho, hne⟩
    refine ⟨_, rfl, l, ns, rfl, SqL.of hl, fun p np => ?_⟩
    have pm := isort_perm ns
    refine q p (isort ns) _ (s1.trans (same_new np _)) upd_same (isort_asc hn) (by rw [pm.length_eq]; exact hle) (fun x hx => ho x (pm.mem_iff.mp hx)) fun h1 e => hne (by omega) ?_
    rw [e] at pm
    exact pm.symm.eq_nil
end
end Sc

namespace Sc
open PySem L2
section
variable {P : Program} {w : World} {K : PySem.W.Frag} {mg : Str → Option Value} {base : Heap} {CA CN : Addr}
/-! ### the law's leaves -/
theorem texts_ok {xs : List Str} {z : Str} (h : ∀ x ∈ xs, okS x) (k : okS z) : ∀ x ∈ xs ++ [z], okS x := fun x hx => by
  rcases List.mem_append.mp hx with q | q
  · exact h x q
  · rw [List.mem_singleton] at q
    subst q
    exact k
def spLeaf : Sp := fun vs H Q _ => ∃ (c : Int), vs = [.int c] ∧ ∀ (r : V) (H' : Hp) (v : Vol), Same H H' → VolAt H' r v → v.isF = false → v.Ok 0 → Q r H'
abbrev nLeaf : List Str := ["_law_cell_here", "_law_size_here", "_law_width", "_law_header", "_law_rows", "_law_j", "_law_k"]
theorem scLeaf : FnScope nLeaf ["_law_cell_here"] (defScope sLLeaf) := ⟨rfl, rfl, rfl, by decide +kernel, rfl, by decide +kernel, by decide +kernel⟩
theorem ok_leaf {f g1 g2 g3 g4 : Addr} {fd gd1 gd2 gd3 gd4 : FuncData} (T : Txt K mg CA CN) (D : DLLeaf K mg f fd) (D1 : DLMix K mg g1 gd1) (D2 : DLRow K mg g2 gd2) (D3 : DLChars K mg g3 gd3) (D4 : DLText K mg g4 gd4) : FnOk P w K mg base CX0 4 f fd ["_law_cell_here"] spLeaf := by
  have G := ok_text' (P := P) (w := w) (base := base) T D4 D1 D2 D3
  refine D.F.ok scLeaf (fun vs H Q E h => ?_) (fun cdv A outer s H vs Q E hr h => ?_)
  · obtain ⟨c, rfl, _⟩ := h
    rfl
  obtain ⟨c, rfl, q⟩ := h
  refine ⟨_, pss_cons (ps_if (pt_cmpR op_eq (pe_op op_mod (pv 0) pe_int) pe_int (nomark _))
      (pss_cons (ps_set (i := 1) scLeaf.nd rfl (.inl rfl) (pe_op op_mod (pe_op op_fdiv (pv 0) pe_int) pe_int))
      (pss_cons (ps_if (pt_cmpR op_eq (pe_op op_mod (pe_op op_fdiv (pv 0) pe_int) pe_int) pe_int (nomark _)) (pss_one (ps_set (i := 1) scLeaf.nd rfl (.inl rfl) (pe_op op_add (pv 1) pe_int))) pss_nil)
      (pss_one (ps_ret (pe_tup (pa_cons pe_str (pa_cons (pe_call G hr rfl D4.m D4.F.kp D4.b .nil pass0 (pa_cons (pe_op op_fdiv (pv 0) pe_int) (pa_cons (pv 1) pa_nil))) pa_nil)))))))
      pss_nil)
    (pss_cons (ps_set (i := 2) scLeaf.nd rfl (.inl rfl) (pe_op op_add pe_int (pe_op op_mod (pe_op op_fdiv (pv 0) pe_int) pe_int)))
    (pss_cons (ps_set (i := 3) scLeaf.nd rfl (.inl rfl) (pe_callTy call_tuple_of (by rfl) T.mTuple (by decide +kernel) (pa_cons (pe_lc (own := [("_law_k", 6)]) (g := gName 6) rfl scLeaf.nd (pi_range1 (by rfl) T.mRange (pa_cons (pv 2) pa_nil))
        (blkOk_by (N := nLeaf) (sc := defScope sLLeaf) (by decide +kernel)) (fun _ _ _ _ _ => pg_name (i := 6) scLeaf.nd rfl (.inl rfl)) (fun _ _ _ _ _ => pts_nil)
        (fun _ _ _ _ _ => pe_call G hr rfl D4.m D4.F.kp D4.b .nil pass0 (pa_cons (pe_op op_add (pv 0) (pv 6)) (pa_cons (pe_op op_mod (pv 6) pe_int) pa_nil)))) pa_nil)))
    (pss_cons (ps_set (i := 4) scLeaf.nd rfl (.inl rfl) (pe_lst pa_nil))
    (pss_cons (ps_for PassesOwn.never rfl (pi_range1 (by rfl) T.mRange (pa_cons (pe_op op_mod (pe_op op_fdiv (pv 0) pe_int) pe_int) pa_nil)) (pg_name (i := 5) scLeaf.nd rfl (.inr rfl))
      (pss_one (ps_expr (pe_bm PySem.F.plainAttrs_list PySem.F.slot_list_append PySem.F.type_list_append mt_append (pv 4) (pa_cons (pe_callTy call_tuple_of (by rfl) T.mTuple (by decide +kernel) (pa_cons
        (pe_lc (own := [("_law_k", 6)]) (g := gName 6) rfl scLeaf.nd (pi_range1 (by rfl) T.mRange (pa_cons (pv 2) pa_nil))
        (blkOk_by (N := nLeaf) (sc := defScope sLLeaf) (by decide +kernel)) (fun _ _ _ _ _ => pg_name (i := 6) scLeaf.nd rfl (.inl rfl)) (fun _ _ _ _ _ => pts_nil)
        (fun _ _ _ _ _ => pe_call G hr rfl D4.m D4.F.kp D4.b .nil pass0 (pa_cons (pe_op op_add (pe_op op_add (pv 0) (pe_op op_mul pe_int (pv 5))) (pv 6)) (pa_cons (pe_op op_mod (pe_op op_add (pv 5) (pv 6)) pe_int) pa_nil)))) pa_nil)) pa_nil)))))
    (pss_one (ps_ret (pe_tup (pa_cons pe_str (pa_cons (pv 3) (pa_cons (pe_callTy call_tuple_of (by rfl) T.mTuple (by decide +kernel) (pa_cons (pv 4) pa_nil)) pa_nil)))))))))), ?_⟩
  refine ⟨_, rfl, _, _, rfl, rfl, (show (0 : Int) < 2 by decide), rfl, _, rfl, ?_⟩
  refine ite2 (fun _ => ?_) (fun _ => ?_)
  · -- a text
    refine ⟨_, rfl, _, _, rfl, rfl, ⟨by decide, by decide⟩, _, _, rfl, rfl, (show (0 : Int) < 12 by decide), ?_⟩
    have b1 := Int.emod_nonneg (c / 2) (show (12 : Int) ≠ 0 by decide)
    have b2 := Int.emod_lt_of_pos (c / 2) (show (0 : Int) < 12 by decide)
    refine ⟨_, rfl, _, _, rfl, rfl, ⟨by decide, by decide⟩, _, _, rfl, rfl, (show (0 : Int) < 16 by decide), rfl, _, rfl, ?_⟩
    have fin : ∀ (z : Str) (H1 : Hp), Same H H1 → okS z → ∀ p, H1 p = none → Q (.ref p) (upd H1 p (.tup [.str "text", .str z])) := fun z H1 s1 hz p np =>
      q _ _ (.text z) (s1.trans (same_new np _)) (VolAt.text upd_same) rfl (by rw [Vol.Ok]; exact hz)
    refine ite2 (fun _ => ?_) (fun _ => ?_)
    · refine ⟨_, rfl, _, _, rfl, rfl, ?_⟩
      exact ⟨_, rfl, _, _, rfl, rfl, ⟨by decide, by decide⟩, _, rfl, _, _, rfl, by omega, by omega, fun z H1 s1 hz => ⟨sz2 _ _, fin z H1 s1 hz⟩⟩
    · exact ⟨_, rfl, _, _, rfl, rfl, ⟨by decide, by decide⟩, _, rfl, _, _, rfl, by omega, by omega, fun z H1 s1 hz => ⟨sz2 _ _, fin z H1 s1 hz⟩⟩
  -- a table
  refine ⟨_, rfl, _, _, rfl, rfl, ⟨by decide, by decide⟩, _, _, rfl, rfl, (show (0 : Int) < 3 by decide), _, _, rfl, rfl, ?_⟩
  have b1 := Int.emod_nonneg (c / 2) (show (3 : Int) ≠ 0 by decide)
  have b2 := Int.emod_lt_of_pos (c / 2) (show (0 : Int) < 3 by decide)
  refine ⟨_, rfl, (1 + c / 2 % 3), rfl, by omega, by omega, fun B nB => lc_range (lo := 0) (n := (1 + c / 2 % 3).toNat) (fun i H' => ∃ xs : List Str, H' B = some (.lst (xs.map V.str)) ∧ xs.length = i ∧ (∀ x ∈ xs, okS x) ∧ Same H H')
    ⟨[], upd_same, rfl, fun x hx => by simp at hx, same_new nB _⟩ ?_ ?_⟩
  · rintro i H' hi ⟨xs, hB, hl, ho, s1⟩
    refine ⟨rfl, _, rfl, _, rfl, _, _, rfl, rfl, _, rfl, _, _, rfl, rfl, (show (0 : Int) < 3 by decide), _, _, rfl, Int.emod_nonneg _ (by decide), by have := Int.emod_lt_of_pos (0 + (i : Int)) (show (0 : Int) < 3 by decide); omega, fun z H1 s2 hz => ?_⟩
    have hB1 := s2 _ _ hB
    refine ⟨_, hB1, small (by rw [List.length_map]; omega), xs ++ [z], by rw [upd_same, List.map_append]; rfl, by rw [List.length_append, hl]; rfl, texts_ok ho hz, fun c o z => by rw [upd_ne (ne_of_none z nB)]; exact s2 c o (s1 c o z)⟩
  rintro H1 ⟨hd, hB, hdl, hdo, s1⟩
  refine ⟨B, _, rfl, .inl ⟨SqL.of hB, fun h nh => ?_⟩⟩
  have s2 := s1.trans (same_new nh (.tup (hd.map V.str)))
  refine ⟨sz0, fun l nl => ?_⟩
  have s3 := s2.trans (same_new nl (.lst []))
  have c1 := Int.emod_nonneg (c / 6) (show (4 : Int) ≠ 0 by decide)
  have c2 := Int.emod_lt_of_pos (c / 6) (show (0 : Int) < 4 by decide)
  refine ⟨_, rfl, _, _, rfl, rfl, ⟨by decide, by decide⟩, _, _, rfl, rfl, (show (0 : Int) < 4 by decide), _, rfl, by omega, by omega, for_range (lo := 0) (n := (c / 6 % 4).toNat)
    (fun i σ H' => ∃ o ys rs, σ = [some (.int c), none, some (.int (1 + c / 2 % 3)), some (.ref h), some (.ref l), o, none] ∧ Same (upd H1 h (.tup (hd.map V.str))) H' ∧ H' l = some (.lst ys) ∧ TpAll H' ys (rs.map rowD) ∧ rs.length = i ∧ ∀ r ∈ rs, r.length ≤ 10 ∧ ∀ x ∈ r, okS x)
    ⟨_, [], [], rfl, same_new nl _, upd_same, .nil, rfl, fun r hr => by simp at hr⟩ ?_ ?_⟩
  · rintro j σ H' hj ⟨o, ys, rs, rfl, s4, hl, ht, hn, hr'⟩
    refine ⟨_, rfl, .inl ⟨rfl, _, SqL.of hl⟩, _, rfl, (1 + c / 2 % 3), rfl, by omega, by omega, fun C nC => lc_range (lo := 0) (n := (1 + c / 2 % 3).toNat) (fun i H2 => ∃ xs : List Str, H2 C = some (.lst (xs.map V.str)) ∧ xs.length = i ∧ (∀ x ∈ xs, okS x) ∧ Same H' H2)
      ⟨[], upd_same, rfl, fun x hx => by simp at hx, same_new nC _⟩ ?_ ?_⟩
    · rintro i H2 hi ⟨xs, hC, hl2, ho, s5⟩
      refine ⟨rfl, _, rfl, _, rfl, _, _, rfl, rfl, mul_l (by decide), _, _, rfl, rfl, _, rfl, _, _, rfl, rfl, _, rfl, _, rfl, _, _, rfl, rfl, _, _, rfl, rfl, (show (0 : Int) < 4 by decide), _, _, rfl, Int.emod_nonneg _ (by decide), by have := Int.emod_lt_of_pos (0 + (j : Int) + (0 + (i : Int))) (show (0 : Int) < 4 by decide); omega, fun z H3 s6 hz => ?_⟩
      have hC3 := s6 _ _ hC
      refine ⟨_, hC3, small (by rw [List.length_map]; omega), xs ++ [z], by rw [upd_same, List.map_append]; rfl, by rw [List.length_append, hl2]; rfl, texts_ok ho hz, fun c o z => by rw [upd_ne (ne_of_none z nC)]; exact s6 c o (s5 c o z)⟩
    · rintro H2 ⟨xs, hC, hl2, ho, s5⟩
      refine ⟨C, _, rfl, .inl ⟨SqL.of hC, fun t nt => ?_⟩⟩
      have s6 := s5.trans (same_new nt (.tup (xs.map V.str)))
      have hl3 := s6 _ _ hl
      have ly := ht.len
      rw [List.length_map] at ly
      refine ⟨l, ys, _, rfl, rfl, hl3, small (by omega), ?_⟩
      refine ⟨_, ys ++ [.ref t], rs ++ [xs], rfl, fun c o z => by rw [upd_ne (ne_of_none z nl)]; exact s6 c o (s4 c o z), upd_same, ?_, by rw [List.length_append, hn]; rfl, fun r hrr => ?_⟩
      · rw [List.map_append]
        refine TpAll.app (TpAll.mono ((ts_of s6).trans (ts_lst hl3)) ht) (.cons ?_ .nil)
        exact PathAt.mk (ts_lst hl3 _ _ upd_same)
      · rcases List.mem_append.mp hrr with w1 | w1
        · exact hr' r w1
        · rw [List.mem_singleton] at w1
          subst w1
          exact ⟨by omega, ho⟩
  · rintro σ H' ⟨o, ys, rs, rfl, s4, hl, ht, hn, hr'⟩
    refine ⟨_, rfl, _, rfl, l, _, rfl, .inl ⟨SqL.of hl, fun t nt => ⟨sz3 _ _ _, fun p np => ?_⟩⟩⟩
    have s5 := (same_new nt (.tup ys)).trans (same_new np (.tup [.str "table", .ref h, .ref t]))
    refine q _ _ (.table hd rs) (s2.trans (s4.trans s5)) (VolAt.table upd_same (s5 _ _ (s4 _ _ upd_same)) (same_new np _ _ _ upd_same) (TpAll.mono (ts_of s5) ht)) rfl ?_
    rw [Vol.Ok]
    exact ⟨by omega, by omega, hdo, hr'⟩
end
end Sc

namespace Sc
open PySem L2
section
variable {P : Program} {w : World} {K : PySem.W.Frag} {mg : Str → Option Value} {base : Heap} {CA CN : Addr}
/-! ### a folder of parts -/
theorem ents_zip {H : Hp} : ∀ {ts : List Addr} {ns : List Str} {ps : List V} {vols : List Vol}, Paired (fun (t : Addr) (q : V × V) => H t = some (.tup [q.1, q.2])) ts ((ns.map V.str).zip ps) → TpAll H ps (vols.map Vol.data) → EntsAt H (ts.map V.ref) (ns.zip vols)
  | ts, [], ps, vols, h, _ => by
    cases h
    exact EntsAt.nil
  | ts, n :: ns, [], vols, h, k => by
    cases h
    cases vols with
    | nil => exact EntsAt.nil
    | cons v r => cases k
  | ts, n :: ns, p :: ps, [], h, k => by cases k
  | ts, n :: ns, p :: ps, v :: vols, h, k => by
    cases k with
    | cons k1 k2 =>
      cases ts with
      | nil => cases h
      | cons t ts =>
        cases h with
        | cons h1 h2 => exact EntsAt.cons h1 k1 (ents_zip h2 k2)
theorem zip_names : ∀ (ns : List Str) (vols : List Vol), ((ns.zip vols).map (·.1)).Sublist ns
  | [], _ => by simp
  | n :: ns, [] => by simp
  | n :: ns, v :: vols => (zip_names ns vols).cons_cons n
def spFolder (K : PySem.W.Frag) : Sp := fun vs H Q _ => ∃ (c : Int) (l : Addr) (ps : List V) (vols : List Vol), vs = [.int c, .ref l] ∧ SqL K H l ps ∧ TpAll H ps (vols.map Vol.data) ∧ ps.length ≤ 300 ∧
  ∀ (r : V) (H' : Hp) (es : Ents), Same H H' → VolAt H' r (.folder es) → Asc (es.map (·.1)) → es.length ≤ ps.length → (∀ p ∈ es, okS p.1 ∧ p.2 ∈ vols) → Q r H'
abbrev nFolder : List Str := ["_law_cell_here", "_law_parts", "_law_names_here"]
theorem scFolder : FnScope nFolder ["_law_cell_here", "_law_parts"] (defScope sLFolder) := ⟨rfl, rfl, rfl, by decide +kernel, rfl, by decide +kernel, by decide +kernel⟩
theorem ok_folder' {f g g1 : Addr} {fd gd gd1 : FuncData} (T : Txt K mg CA CN) (D : DLFolder K mg f fd) (DN : DLNames K mg g gd) (D1 : DLMix K mg g1 gd1) : FnOk P w K mg base CX0 3 f fd ["_law_cell_here", "_law_parts"] (spFolder K) := by
  have G := ok_names (P := P) (w := w) (base := base) T DN D1
  refine D.F.ok scFolder (fun vs H Q E h => ?_) (fun cdv A outer s H vs Q E hr h => ?_)
  · obtain ⟨c, l, _, _, rfl, _⟩ := h
    rfl
  obtain ⟨c, l, ps, vols, rfl, hl, hp, hn, q⟩ := h
  refine ⟨_, pss_cons (ps_set (i := 2) scFolder.nd rfl (.inl rfl) (pe_call G hr rfl DN.m DN.F.kp DN.b .nil pass0 (pa_cons (pv 0) (pa_cons (pe_callB call_len_seq (by rfl) T.mLen PySem.boot_len (pa_cons (pv 1) pa_nil)) pa_nil))))
    (pss_one (ps_ret (pe_tup (pa_cons pe_str (pa_cons (pe_callTy call_tuple_of (by rfl) T.mTuple (by decide +kernel) (pa_cons (pe_listZip rfl (pa_cons (pv 2) (pa_cons (pv 1) pa_nil)) (by rfl) T.mList (by rfl) T.mZip (by decide +kernel)) pa_nil)) pa_nil))))), ?_⟩
  refine ⟨_, rfl, _, rfl, l, ps, rfl, .inl hl, c, (ps.length : Int), rfl, by omega, by omega, fun a ns H1 s1 ha asc hle ho _ => ?_⟩
  refine ⟨_, rfl, _, rfl, a, l, _, ps, rfl, SqL.of ha, s1.seq hl, fun H2 p ts s2 hp2 hts => ?_⟩
  refine ⟨p, _, rfl, .inl ⟨SqL.of hp2, fun t nt => ⟨sz2 _ _, fun b nb => ?_⟩⟩⟩
  have s3 : Same H2 (upd (upd H2 t (.tup (ts.map V.ref))) b (.tup [.str "folder", .ref t])) := (same_new nt _).trans (same_new nb _)
  have he := ents_zip hts (TpAll.mono (ts_of (s1.trans s2)) hp)
  have lz : (ns.zip vols).length ≤ ps.length := by
    rw [List.length_zip]
    have := TpAll.len hp
    rw [List.length_map] at this
    omega
  refine q _ _ (ns.zip vols) (s1.trans (s2.trans s3)) (VolAt.folder upd_same (same_new nb _ _ _ upd_same) (TpAll.mono (ts_of s3) he)) (asc.sublist (zip_names _ _)) lz fun x hx => ?_
  have := List.of_mem_zip (a := x.1) (b := x.2) hx
  exact ⟨ho _ this.1, this.2⟩
end
end Sc

namespace Sc
open PySem L2
section
variable {P : Program} {w : World} {K : PySem.W.Frag} {mg : Str → Option Value} {base : Heap} {CA CN : Addr}
/-! ### a wide folder -/
def digs : Str := "0123456789"
theorem digs_len : digs.length = 10 := by decide +kernel
theorem digs_at {j : Nat} (h : j < 10) : digs.cps.toList[j]? = some (48 + j) := by
  have e : digs.cps.toList = [48, 49, 50, 51, 52, 53, 54, 55, 56, 57] := by decide +kernel
  rw [e]
  match j, h with
  | 0, _ => rfl
  | 1, _ => rfl
  | 2, _ => rfl
  | 3, _ => rfl
  | 4, _ => rfl
  | 5, _ => rfl
  | 6, _ => rfl
  | 7, _ => rfl
  | 8, _ => rfl
  | 9, _ => rfl
  | n + 10, h => omega
def wN (a b c : Nat) : Str := ((("n" : Str) ++ (⟨#[a]⟩ : Str)) ++ (⟨#[b]⟩ : Str)) ++ (⟨#[c]⟩ : Str)
theorem wN_cps (a b c : Nat) : (wN a b c).cps.toList = [110, a, b, c] := by
  have e : ("n" : Str).cps.toList = [110] := by decide +kernel
  have app : ∀ x y : Str, (x ++ y).cps.toList = x.cps.toList ++ y.cps.toList := fun x y => by
    show (x.cps ++ y.cps).toList = _
    rw [Array.toList_append]
  unfold wN
  rw [app, app, app, e]
  rfl
def wName (k : Nat) : Str := wN (48 + k / 100) (48 + k / 10 % 10) (48 + k % 10)
theorem wName_lt {i j : Nat} (h : i < j) (hj : j < 1000) : nlt (wName i) (wName j) := by
  unfold nlt wName
  rw [wN_cps, wN_cps]
  have c : i / 100 < j / 100 ∨ i / 100 = j / 100 ∧ (i / 10 % 10 < j / 10 % 10 ∨ i / 10 % 10 = j / 10 % 10 ∧ i % 10 < j % 10) := by omega
  rw [List.cons_lt_cons_iff, List.cons_lt_cons_iff, List.cons_lt_cons_iff, List.cons_lt_cons_iff]
  refine .inr ⟨rfl, ?_⟩
  rcases c with h1 | ⟨h1, h2 | ⟨h2, h3⟩⟩
  · exact .inl (by omega)
  · exact .inr ⟨by omega, .inl (by omega)⟩
  · exact .inr ⟨by omega, .inr ⟨by omega, .inl (by omega)⟩⟩
theorem wName_ok {k : Nat} (h : k < 1000) : okS (wName k) := by
  have e := wN_cps (48 + k / 100) (48 + k / 10 % 10) (48 + k % 10)
  have e' : wName k = ⟨#[110, 48 + k / 100, 48 + k / 10 % 10, 48 + k % 10]⟩ := str_ext e
  rw [e']
  refine okS_of (l := [110, 48 + k / 100, 48 + k / 10 % 10, 48 + k % 10]) (fun c hc => ?_) (by show 4 ≤ 1000; omega)
  simp only [List.mem_cons, List.not_mem_nil, or_false] at hc
  omega
def wEnts (n : Nat) : Ents := (List.range n).map fun k => (wName k, Vol.text "")
theorem wEnts_succ (n : Nat) : wEnts (n + 1) = wEnts n ++ [(wName n, Vol.text "")] := by
  unfold wEnts
  rw [List.range_succ, List.map_append]
  rfl
theorem wEnts_len (n : Nat) : (wEnts n).length = n := by simp [wEnts]
theorem wEnts_asc {n : Nat} (h : n ≤ 1000) : Asc ((wEnts n).map (·.1)) := by
  unfold wEnts
  rw [List.map_map]
  refine List.pairwise_map.mpr ?_
  refine List.Pairwise.imp_of_mem (R := fun a b => a < b) (fun {a b} _ hb hlt => ?_) List.pairwise_lt_range
  exact wName_lt hlt (by have := List.mem_range.mp hb; omega)
theorem wEnts_ok {n : Nat} (h : n ≤ 1000) : ∀ p ∈ wEnts n, okS p.1 ∧ p.2 = .text "" := fun p hp => by
  obtain ⟨k, hk, rfl⟩ := List.mem_map.mp hp
  exact ⟨wName_ok (by have := List.mem_range.mp hk; omega), rfl⟩
def spWide : Sp := fun vs H Q _ => ∃ (n : Int), vs = [.int n] ∧ 0 ≤ n ∧ n ≤ 240 ∧
  ∀ (r : V) (H' : Hp) (es : Ents), Same H H' → VolAt H' r (.folder es) → Asc (es.map (·.1)) → es.length ≤ 240 → (∀ p ∈ es, okS p.1 ∧ p.2 = .text "") → Q r H'
abbrev nWide : List Str := ["_law_count", "_law_digits", "_law_entries", "_law_k", "_law_name"]
theorem scWide : FnScope nWide ["_law_count"] (defScope sLWide) := ⟨rfl, rfl, rfl, by decide +kernel, rfl, by decide +kernel, by decide +kernel⟩
theorem ok_wide {f : Addr} {fd : FuncData} (T : Txt K mg CA CN) (D : DLWide K mg f fd) : FnOk P w K mg base CX0 1 f fd ["_law_count"] spWide := by
  refine D.F.ok scWide (fun vs H Q E h => ?_) (fun cdv A outer s H vs Q E hr h => ?_)
  · obtain ⟨n, rfl, _⟩ := h
    rfl
  obtain ⟨n, rfl, n0, n1, q⟩ := h
  refine ⟨_, pss_cons (ps_set (i := 1) scWide.nd rfl (.inl rfl) pe_str)
    (pss_cons (ps_set (i := 2) scWide.nd rfl (.inl rfl) (pe_lst pa_nil))
    (pss_cons (ps_for PassesOwn.never rfl (pi_range1 (by rfl) T.mRange (pa_cons (pv 0) pa_nil)) (pg_name (i := 3) scWide.nd rfl (.inl rfl))
      (pss_cons (ps_set (i := 4) scWide.nd rfl (.inl rfl) (pe_op op_add_str (pe_op op_add_str (pe_op op_add_str pe_str (pe_ix ix_str (pv 1) (pe_op op_fdiv (pv 3) pe_int) (fun _ _ => rfl)))
          (pe_ix ix_str (pv 1) (pe_op op_mod (pe_callTy call_int1 (by rfl) T.mInt (by decide +kernel) (pa_cons (pe_op op_fdiv (pv 3) pe_int) pa_nil)) pe_int) (fun _ _ => rfl)))
          (pe_ix ix_str (pv 1) (pe_op op_mod (pe_callTy call_int1 (by rfl) T.mInt (by decide +kernel) (pa_cons (pv 3) pa_nil)) pe_int) (fun _ _ => rfl))))
      (pss_one (ps_expr (pe_bm PySem.F.plainAttrs_list PySem.F.slot_list_append PySem.F.type_list_append mt_append (pv 2) (pa_cons (pe_tup (pa_cons (pv 4) (pa_cons (pe_tup (pa_cons pe_str (pa_cons pe_str pa_nil))) pa_nil))) pa_nil))))))
    (pss_one (ps_ret (pe_tup (pa_cons pe_str (pa_cons (pe_callTy call_tuple_of (by rfl) T.mTuple (by decide +kernel) (pa_cons (pv 2) pa_nil)) pa_nil))))))), ?_⟩
  refine ⟨sz0, fun l nl => ?_⟩
  have ld : digs.length ≤ sizeLine := small' (by rw [digs_len]; decide)
  have atD : ∀ {z : Int} {j : Nat}, z = (j : Int) → j < 10 → atI digs.cps.toList z = some (48 + j) := fun e h => by rw [e]; exact atI_nat (digs_at h)
  refine ⟨_, rfl, n, rfl, by omega, by omega, for_range (lo := 0) (n := n.toNat) (fun i σ H' => ∃ o1 o2 ts, σ = [some (.int n), some (.str digs), some (.ref l), o1, o2] ∧ Same H H' ∧ H' l = some (.lst ts) ∧ EntsAt H' ts (wEnts i))
    ⟨_, _, [], rfl, same_new nl _, upd_same, EntsAt.nil⟩ ?_ ?_⟩
  · rintro i σ H' hi ⟨o1, o2, ts, rfl, s1, hl, he⟩
    have hlen := he.len
    rw [wEnts_len] at hlen
    refine ⟨_, rfl, _, rfl, _, _, rfl, rfl, ⟨by decide, by decide⟩, digs, _, 48 + i / 100, rfl, rfl, ld, atD (by omega) (by omega), _, _, rfl, rfl, small' (by show 1 + 1 ≤ _; omega), ?_⟩
    refine ⟨_, rfl, _, rfl, _, _, rfl, rfl, ⟨by decide, by decide⟩, .inl ⟨_, rfl, _, _, rfl, rfl, (show (0 : Int) < 10 by decide), digs, _, 48 + i / 10 % 10, rfl, rfl, ld, atD (by omega) (by omega), _, _, rfl, rfl, small' (by show 1 + 1 + 1 ≤ _; omega), ?_⟩⟩
    refine ⟨_, rfl, _, rfl, .inl ⟨_, rfl, _, _, rfl, rfl, (show (0 : Int) < 10 by decide), digs, _, 48 + i % 10, rfl, rfl, ld, atD (by omega) (by omega), _, _, rfl, rfl, small' (by show 1 + 1 + 1 + 1 ≤ _; omega), ?_⟩⟩
    refine ⟨_, rfl, .inl ⟨rfl, _, SqL.of hl⟩, _, rfl, sz2 _ _, fun t nt => ⟨sz2 _ _, fun b nb => ?_⟩⟩
    have s3 : Same H' (upd (upd H' t (.tup [.str "text", .str ""])) b (.tup [.str (wName i), .ref t])) := (same_new nt _).trans (same_new nb _)
    refine ⟨l, _, _, rfl, rfl, s3 _ _ hl, small (by omega), _, _, _, rfl, fun c o z => by rw [upd_ne (ne_of_none z nl)]; exact s3 _ _ (s1 c o z), upd_same, ?_⟩
    rw [wEnts_succ]
    have s4 : TS _ (upd _ l (.lst (ts ++ [V.ref b]))) := ts_lst (s3 _ _ hl)
    refine TpAll.mono s4 (EntsAt.app (TpAll.mono (ts_of s3) he) (EntsAt.cons upd_same (VolAt.text ?_) EntsAt.nil))
    exact same_new nb _ _ _ upd_same
  · rintro σ H' ⟨o1, o2, ts, rfl, s1, hl, he⟩
    refine ⟨_, rfl, l, ts, rfl, .inl ⟨SqL.of hl, fun t nt => ⟨sz2 _ _, fun b nb => ?_⟩⟩⟩
    have s3 : Same H' (upd (upd H' t (.tup ts)) b (.tup [.str "folder", .ref t])) := (same_new nt _).trans (same_new nb _)
    refine q _ _ (wEnts n.toNat) (s1.trans s3) (VolAt.folder upd_same (same_new nb _ _ _ upd_same) (TpAll.mono (ts_of s3) he)) (wEnts_asc (by omega)) (by rw [wEnts_len]; omega) (wEnts_ok (by omega))
end
end Sc

namespace Sc
open PySem L2
section
variable {P : Program} {w : World} {K : PySem.W.Frag} {mg : Str → Option Value} {base : Heap} {CA CN : Addr}
/-! ### the law's volumes -/
theorem none_of {H H' : Hp} {p : Addr} (s : Same H H') (h : H' p = none) : H p = none := by
  cases e : H p with
  | none => rfl
  | some o => rw [s _ _ e] at h; cases h
def VOk (d : Nat) (v : Vol) : Prop := v.Ok 240 ∧ v.depth ≤ d
theorem VOk.mono {d e : Nat} {v : Vol} (h : VOk d v) (k : d ≤ e) : VOk e v := ⟨h.1, Nat.le_trans h.2 k⟩
theorem leaf_ok {w w' : Nat} {v : Vol} (h : v.isF = false) (k : v.Ok w) : v.Ok w' ∧ v.depth = 1 := by
  cases v with
  | text s => rw [Vol.Ok] at k; exact ⟨by rw [Vol.Ok]; exact k, by rw [Vol.depth]⟩
  | table hd rs => rw [Vol.Ok] at k; exact ⟨by rw [Vol.Ok]; exact k, by rw [Vol.depth]⟩
  | folder es => cases h
theorem folder_vok {d : Nat} {es : Ents} (hn : es.length ≤ 240) (ha : Asc (es.map (·.1))) (h : ∀ p ∈ es, okS p.1 ∧ VOk d p.2) : VOk (d + 1) (.folder es) := by
  refine ⟨?_, ?_⟩
  · rw [Vol.Ok]
    exact ⟨hn, ha, entsOk_iff.mpr fun p hp => ⟨(h p hp).1, (h p hp).2.1⟩⟩
  · rw [Vol.depth]
    exact Nat.succ_le_succ (entsDepth_le fun p hp => (h p hp).2.2)
theorem cut_all {H : Hp} {ts : List V} {vols : List Vol} (lo hi : Option Int) (h : TpAll H ts (vols.map Vol.data)) : ∃ us : List Vol, TpAll H (cutV ts lo hi) (us.map Vol.data) ∧ (∀ v ∈ us, v ∈ vols) ∧ us.length ≤ vols.length := by
  refine ⟨(vols.drop (HT.sIx ts.length 0 lo)).take (HT.sIx ts.length ts.length hi - HT.sIx ts.length 0 lo), ?_, fun v hv => List.mem_of_mem_drop (List.mem_of_mem_take hv), ?_⟩
  · rw [List.map_take, List.map_drop]
    exact TpAll.take _ (TpAll.drop _ h)
  · rw [List.length_take, List.length_drop]
    omega
theorem and_ite {u : TT} {σ : L2.St} {H : Hp} {Q : Bool → Hp → Prop} {b1 b2 : Bool} (h2 : ∀ Q : Bool → Hp → Prop, Q b2 H → u σ H Q) (q : Q (b1 && b2) H) : if b1 = true then u σ H Q else Q false H := by
  cases b1 with
  | true => exact h2 _ q
  | false => exact q
theorem or_ite {u : TT} {σ : L2.St} {H : Hp} {Q : Bool → Hp → Prop} {b1 b2 : Bool} (h2 : ∀ Q : Bool → Hp → Prop, Q b2 H → u σ H Q) (q : Q (b1 || b2) H) : if b1 = true then Q true H else u σ H Q := by
  cases b1 with
  | true => exact q
  | false => exact h2 _ q
def VSt (a : Addr) (H : Hp) (i : Nat) (σ : L2.St) (H' : Hp) : Prop := ∃ (o1 o2 o3 : Option V) (l : Addr) (ts : List V) (vols : List Vol), σ = [some (.ref a), some (.ref l), o1, o2, o3] ∧ Same H H' ∧ H l = none ∧ H' l = some (.lst ts) ∧ TpAll H' ts (vols.map Vol.data) ∧ vols.length ≤ i ∧ ∀ v ∈ vols, VOk (i + 1) v
theorem VSt.put {a l : Addr} {H H' H2 : Hp} {i : Nat} {ts : List V} {vols : List Vol} {r : V} {v : Vol} (s1 : Same H H') (nl : H l = none) (hl : H' l = some (.lst ts)) (ht : TpAll H' ts (vols.map Vol.data)) (hlen : vols.length ≤ i) (hv : ∀ v ∈ vols, VOk (i + 1) v)
    (s2 : Same H' H2) (hr : VolAt H2 r v) (hk : VOk (i + 2) v) (o1 o2 o3 : Option V) : VSt a H (i + 1) [some (.ref a), some (.ref l), o1, o2, o3] (upd H2 l (.lst (ts ++ [r]))) := by
  have t3 : TS H2 (upd H2 l (.lst (ts ++ [r]))) := ts_lst (s2 _ _ hl)
  refine ⟨o1, o2, o3, l, ts ++ [r], vols ++ [v], rfl, fun c o z => by rw [upd_ne (ne_of_none z nl)]; exact s2 _ _ (s1 c o z), nl, upd_same, ?_, by rw [List.length_append]; show vols.length + 1 ≤ _; omega, fun u hu => ?_⟩
  · rw [List.map_append]
    exact TpAll.app (TpAll.mono ((ts_of s2).trans t3) ht) (.cons (Tp.mono t3 hr) .nil)
  · rcases List.mem_append.mp hu with q | q
    · exact (hv u q).mono (by omega)
    · rw [List.mem_singleton] at q
      subst q
      exact hk
def spVolume (K : PySem.W.Frag) : Sp := fun vs H Q _ => ∃ (a : Addr) (ns : List Int), vs = [.ref a] ∧ SqL K H a (ns.map V.int) ∧ ns.length ≤ 60 ∧ ∀ (r : V) (H' : Hp) (v : Vol), Same H H' → VolAt H' r v → VOk (ns.length + 2) v → Q r H'
abbrev nVolume : List Str := ["_law_cells", "_law_stack", "_law_cell_here", "_law_kind", "_law_count"]
theorem scVolume : FnScope nVolume ["_law_cells"] (defScope sLVolume) := ⟨rfl, rfl, rfl, by decide +kernel, rfl, by decide +kernel, by decide +kernel⟩
theorem ok_volume {f g1 g2 g3 g4 g5 g6 g7 g8 : Addr} {fd gd1 gd2 gd3 gd4 gd5 gd6 gd7 gd8 : FuncData} (T : Txt K mg CA CN) (D : DLVolume K mg f fd) (D1 : DLMix K mg g1 gd1) (D2 : DLRow K mg g2 gd2) (D3 : DLChars K mg g3 gd3) (D4 : DLText K mg g4 gd4)
    (D5 : DLLeaf K mg g5 gd5) (D6 : DLNames K mg g6 gd6) (D7 : DLFolder K mg g7 gd7) (D8 : DLWide K mg g8 gd8) : FnOk P w K mg base CX0 5 f fd ["_law_cells"] (spVolume K) := by
  have GL := ok_leaf (P := P) (w := w) (base := base) T D5 D1 D2 D3 D4
  have GF := ok_folder' (P := P) (w := w) (base := base) T D7 D6 D1
  have GW := ok_wide (P := P) (w := w) (base := base) T D8
  refine D.F.ok scVolume (fun vs H Q E h => ?_) (fun cdv A outer s H vs Q E hr h => ?_)
  · obtain ⟨c, l, rfl, _⟩ := h
    rfl
  obtain ⟨a, ns, rfl, ha, hn, q⟩ := h
  have hr1 : Room 1 _ := hr.mono (by decide)
  have hr3 : Room 3 _ := hr.mono (by decide)
  refine ⟨_, pss_cons (ps_set (i := 1) scVolume.nd rfl (.inl rfl) (pe_lst pa_nil))
    (pss_cons (ps_for PassesOwn.never rfl (pi_list (pv 0)) (pg_name (i := 2) scVolume.nd rfl (.inl rfl))
      (pss_cons (ps_set (i := 3) scVolume.nd rfl (.inl rfl) (pe_op op_mod (pv 2) pe_int))
      (pss_one (ps_if (PW.pt (pw_and (pt_cmpR op_eq (pv 3) pe_int (nomark _)) (pw_and1 (pt_cmpR op_gt (pe_callB call_len_seq (by rfl) T.mLen PySem.boot_len (pa_cons (pv 1) pa_nil)) pe_int (nomark _)))))
        (pss_cons (ps_set (i := 4) scVolume.nd rfl (.inl rfl) (pe_op op_add pe_int (pe_op op_mod (pe_op op_fdiv (pv 2) pe_int) pe_int)))
        (pss_one (ps_set (i := 1) scVolume.nd rfl (.inl rfl) (pe_op op_cat (pe_slice sl_list (pv 1) po_none (po_some (pe_un un_neg (pv 4))))
          (pe_lst (pa_cons (pe_call GF hr3 rfl D7.m D7.F.kp D7.b .nil pass0 (pa_cons (pe_op op_fdiv (pv 2) pe_int) (pa_cons (pe_slice sl_list (pv 1) (po_some (pe_un un_neg (pv 4))) po_none) pa_nil))) pa_nil))))))
        (pss_one (ps_if (PW.pt (pw_and (pt_cmpR op_eq (pv 3) pe_int (nomark _)) (pw_and1 (pt_cmpR op_eq (pe_op op_mod (pe_op op_fdiv (pv 2) pe_int) pe_int) pe_int (nomark _)))))
          (pss_one (ps_expr (pe_bm PySem.F.plainAttrs_list PySem.F.slot_list_append PySem.F.type_list_append mt_append (pv 1) (pa_cons (pe_tup (pa_cons pe_str (pa_cons (pe_tup pa_nil) pa_nil))) pa_nil))))
          (pss_one (ps_if (PW.pt (pw_and (pt_cmpR op_eq (pv 3) pe_int (nomark _)) (pw_and1 (pt_cmpR op_eq (pe_op op_mod (pe_op op_fdiv (pv 2) pe_int) pe_int) pe_int (nomark _)))))
            (pss_one (ps_expr (pe_bm PySem.F.plainAttrs_list PySem.F.slot_list_append PySem.F.type_list_append mt_append (pv 1) (pa_cons (pe_call GW hr1 rfl D8.m D8.F.kp D8.b .nil pass0 (pa_cons (pe_op op_add pe_int (pe_op op_mod (pe_op op_fdiv (pv 2) pe_int) pe_int)) pa_nil)) pa_nil))))
            (pss_one (ps_expr (pe_bm PySem.F.plainAttrs_list PySem.F.slot_list_append PySem.F.type_list_append mt_append (pv 1) (pa_cons (pe_call GL hr rfl D5.m D5.F.kp D5.b .nil pass0 (pa_cons (pe_op op_fdiv (pv 2) pe_int) pa_nil)) pa_nil))))))))))))
    (pss_cons (ps_if (pt_cmpR op_eq (pe_callB call_len_seq (by rfl) T.mLen PySem.boot_len (pa_cons (pv 1) pa_nil)) pe_int (nomark _)) (pss_one (ps_ret (pe_ix ix_list (pv 1) pe_int (fun _ _ => rfl)))) pss_nil)
    (pss_one (ps_ret (pe_call GF hr3 rfl D7.m D7.F.kp D7.b .nil pass0 (pa_cons (pe_callB call_len_seq (by rfl) T.mLen PySem.boot_len (pa_cons (pv 1) pa_nil)) (pa_cons (pv 1) pa_nil))))))), ?_⟩
  refine ⟨sz0, fun l nl => ?_⟩
  refine ⟨_, rfl, a, rfl, ⟨_, (same_new nl _).seq ha⟩, for_list (K := K) (a := a) (xs := ns.map V.int) (VSt a H)
    ⟨_, _, _, l, [], [], rfl, same_new nl _, nl, upd_same, .nil, Nat.le_refl _, fun v hv => by simp at hv⟩ (fun i σ H' _ ⟨_, _, _, _, _, _, _, s1, _⟩ => s1.seq ha) ?_ ?_⟩
  · rintro i x σ H' hx ⟨o1, o2, o3, l, ts, vols, rfl, s1, nl, hl, ht, hlen, hv⟩
    obtain ⟨c, hc, rfl⟩ := map_at hx
    have hi := at_lt hc
    have tl := TpAll.len ht
    rw [List.length_map] at tl
    have b0 := Int.emod_nonneg c (show (6 : Int) ≠ 0 by decide)
    refine ⟨_, rfl, _, _, rfl, rfl, (show (0 : Int) < 6 by decide), ?_⟩
    refine ⟨_, rfl, rfl, _, rfl, ?_⟩
    refine and_ite (fun Q h => ⟨_, rfl, _, _, rfl, .inl (SqL.of hl), _, _, rfl, rfl, _, rfl, h⟩) ?_
    refine ite2 (fun _ => ?_) (fun _ => ?_)
    · -- the last ones together
      refine ⟨_, rfl, _, _, rfl, rfl, ⟨by decide, by decide⟩, _, _, rfl, rfl, (show (0 : Int) < 4 by decide), _, _, rfl, rfl, ?_⟩
      refine ⟨_, rfl, _, rfl, _, rfl, _, rfl, l, ts, rfl, SqL.of hl, fun p np => ?_⟩
      have s2 := same_new np (.lst (cutV ts none (some (-(1 + c / 6 % 4)))))
      have hl2 := s2 _ _ hl
      refine ⟨_, rfl, _, _, rfl, rfl, ⟨by decide, by decide⟩, _, rfl, _, rfl, _, rfl, _, rfl, l, ts, rfl, SqL.of hl2, fun p2 np2 => ?_⟩
      have s3 := same_new np2 (.lst (cutV ts (some (-(1 + c / 6 % 4))) none))
      obtain ⟨us, hu, u1, u2⟩ := cut_all none (some (-(1 + c / 6 % 4))) ht
      obtain ⟨vs, hw, w1, w2⟩ := cut_all (some (-(1 + c / 6 % 4))) none ht
      have lu := TpAll.len hu
      have lw := TpAll.len hw
      rw [List.length_map] at lu lw
      refine ⟨_, p2, _, vs, rfl, SqL.of upd_same, TpAll.mono (ts_of (s2.trans s3)) hw, by omega, fun r H2 es s4 hr asc le hes => ⟨sz1 _, fun q nq => ?_⟩⟩
      have s5 := same_new nq (.lst [r])
      refine ⟨p, q, _, _, rfl, rfl, s5 _ _ (s4 _ _ (s3 _ _ upd_same)), upd_same, small' (by show _ + 1 ≤ _; omega), fun p6 n6 => ?_⟩
      have s6 := same_new n6 (.lst (cutV ts none (some (-(1 + c / 6 % 4))) ++ [r]))
      have sA := s2.trans (s3.trans (s4.trans (s5.trans s6)))
      have n7 : H p6 = none := none_of (s1.trans (s2.trans (s3.trans (s4.trans s5)))) n6
      refine ⟨_, _, _, p6, _, us ++ [.folder es], rfl, s1.trans sA, n7, upd_same, ?_, by rw [List.length_append]; show us.length + 1 ≤ _; omega, fun u hu' => ?_⟩
      · rw [List.map_append]
        exact TpAll.app (TpAll.mono (ts_of sA) hu) (.cons (Tp.mono (ts_of (s5.trans s6)) hr) .nil)
      · rcases List.mem_append.mp hu' with x | x
        · exact (hv u (u1 u x)).mono (by omega)
        · rw [List.mem_singleton] at x
          subst x
          exact folder_vok (by omega) asc fun p hp => ⟨(hes p hp).1, hv _ (w1 _ (hes p hp).2)⟩
    refine ⟨_, rfl, rfl, _, rfl, ?_⟩
    refine and_ite (fun Q h => ⟨_, rfl, _, _, rfl, rfl, ⟨by decide, by decide⟩, _, _, rfl, rfl, (show (0 : Int) < 8 by decide), rfl, _, rfl, h⟩) ?_
    refine ite2 (fun _ => ?_) (fun _ => ?_)
    · refine ⟨_, rfl, .inl ⟨rfl, _, SqL.of hl⟩, sz0, fun t nt => ⟨sz2 _ _, fun b nb => ?_⟩⟩
      have s3 : Same H' (upd (upd H' t (.tup [])) b (.tup [.str "folder", .ref t])) := (same_new nt _).trans (same_new nb _)
      refine ⟨l, _, _, rfl, rfl, s3 _ _ hl, small (by omega), ?_⟩
      exact VSt.put s1 nl hl ht hlen hv s3 (VolAt.folder upd_same (same_new nb _ _ _ upd_same) EntsAt.nil) (folder_vok (by show 0 ≤ 240; omega) List.Pairwise.nil (fun p hp => by simp at hp)) _ _ _
    refine ⟨_, rfl, rfl, _, rfl, ?_⟩
    refine and_ite (fun Q h => ⟨_, rfl, _, _, rfl, rfl, ⟨by decide, by decide⟩, _, _, rfl, rfl, (show (0 : Int) < 8 by decide), rfl, _, rfl, h⟩) ?_
    refine ite2 (fun _ => ?_) (fun _ => ?_)
    · have e0 := Int.emod_nonneg (c / 48) (show (30 : Int) ≠ 0 by decide)
      have e1 := Int.emod_lt_of_pos (c / 48) (show (0 : Int) < 30 by decide)
      refine ⟨_, rfl, .inl ⟨rfl, _, SqL.of hl⟩, _, rfl, _, _, rfl, rfl, ⟨by decide, by decide⟩, _, _, rfl, rfl, (show (0 : Int) < 30 by decide), _, _, rfl, rfl, _, rfl, by omega, by omega, fun r H2 es s2 hr asc le hes => ?_⟩
      refine ⟨l, _, _, rfl, rfl, s2 _ _ hl, small (by omega), ?_⟩
      refine VSt.put s1 nl hl ht hlen hv s2 hr (folder_vok le asc fun p hp => ⟨(hes p hp).1, ?_⟩) _ _ _
      rw [(hes p hp).2]
      refine ⟨?_, by rw [Vol.depth]; omega⟩
      rw [Vol.Ok]
      exact ⟨by decide +kernel, by decide +kernel⟩
    · refine ⟨_, rfl, .inl ⟨rfl, _, SqL.of hl⟩, _, rfl, _, _, rfl, rfl, ⟨by decide, by decide⟩, _, rfl, fun r H2 v s2 hr hf hk => ?_⟩
      refine ⟨l, _, _, rfl, rfl, s2 _ _ hl, small (by omega), ?_⟩
      obtain ⟨k1, k2⟩ := leaf_ok (w' := 240) hf hk
      exact VSt.put s1 nl hl ht hlen hv s2 hr ⟨k1, by omega⟩ _ _ _
  · rintro σ H' ⟨o1, o2, o3, l, ts, vols, rfl, s1, nl, hl, ht, hlen, hv⟩
    rw [List.length_map] at hlen hv
    have tl := TpAll.len ht
    rw [List.length_map] at tl
    refine ⟨_, rfl, _, _, rfl, .inl (SqL.of hl), rfl, _, rfl, ?_⟩
    refine ite2 (fun c1 => ?_) (fun _ => ?_)
    · have c2 : ts.length = 1 := by
        have c3 : V.int ((ts.length : Nat) : Int) = V.int 1 := of_decide_eq_true c1
        injection c3 with c4
        omega
      match ts, vols, c2, ht with
      | [t], [v], _, .cons h1 h2 => exact ⟨_, rfl, l, [t], 0, t, rfl, rfl, SqL.of hl, at0 _ _, q _ _ v s1 h1 ((hv v List.mem_cons_self).mono (by omega))⟩
    · refine ⟨_, rfl, _, _, rfl, .inl (SqL.of hl), _, rfl, _, l, ts, vols, rfl, SqL.of hl, ht, by omega, fun r H2 es s2 hr asc le hes => ?_⟩
      exact q _ _ (.folder es) (s1.trans s2) hr (folder_vok (by omega) asc fun p hp => ⟨(hes p hp).1, hv _ (hes p hp).2⟩)
end
end Sc

namespace Sc
open PySem L2
section
variable {P : Program} {w : World} {K : PySem.W.Frag} {mg : Str → Option Value} {base : Heap} {CA CN : Addr}
/-! ### the law's tests of texts and names -/
def spIsText : Sp := fun vs H Q _ => ∃ (s : Str), vs = [.str s] ∧ ∀ b : Bool, Q (.bl b) H
theorem scIsText : FnScope ["_law_text_here", "_law_char"] ["_law_text_here"] (defScope sLIsText) := ⟨rfl, rfl, rfl, by decide +kernel, rfl, by decide +kernel, by decide +kernel⟩
theorem ok_is_text {f g1 : Addr} {fd gd1 : FuncData} (T : Txt K mg CA CN) (D : DLIsText K mg f fd) (D1 : DLIsCode K mg g1 gd1) : FnOk P w K mg base CX0 2 f fd ["_law_text_here"] spIsText := by
  have G := ok_is_code (P := P) (w := w) (base := base) D1
  refine D.F.ok scIsText (fun vs H Q E h => ?_) (fun cdv A outer s H vs Q E hr h => ?_)
  · obtain ⟨z, rfl, _⟩ := h
    rfl
  obtain ⟨z, rfl, q⟩ := h
  refine ⟨_, pss_cons (ps_for PassesOwn.never rfl (pi_str (pv 0)) (pg_name (i := 1) scIsText.nd rfl (.inl rfl))
      (pss_one (ps_if (pt_not (pt_val (pe_call G hr rfl D1.m D1.F.kp D1.b .nil pass0 (pa_cons (pe_callB call_ord (by rfl) T.mOrd (by decide +kernel) (pa_cons (pv 1) pa_nil)) pa_nil)))) (pss_one (ps_ret pe_bl)) pss_nil)))
    (pss_one (ps_ret pe_bl)), ?_⟩
  refine ⟨_, rfl, z, rfl, for_it walk_str (fun i σ H' => H' = H ∧ ∃ o, σ = [some (.str z), o]) ⟨rfl, _, rfl⟩ (fun _ _ _ _ _ => trivial) ?_ ?_⟩
  · rintro i x σ H' H2 hi ⟨rfl, o, rfl⟩ ⟨rfl, c, hc, rfl⟩
    refine ⟨_, rfl, _, rfl, rfl, _, rfl, fun b => ⟨_, rfl, ?_⟩⟩
    refine ite2 (fun _ => ?_) (fun _ => ?_)
    · exact q false
    · exact ⟨rfl, _, rfl⟩
  · rintro σ H' ⟨rfl, o, rfl⟩
    exact q true
def spIsName : Sp := fun vs H Q _ => ∃ (s : Str), vs = [.str s] ∧ s.length ≤ sizeLine ∧ ∀ b : Bool, Q (.bl b) H
theorem scIsName : FnScope ["_law_text_here", "_law_char"] ["_law_text_here"] (defScope sLIsName) := ⟨rfl, rfl, rfl, by decide +kernel, rfl, by decide +kernel, by decide +kernel⟩
theorem ok_is_name {f : Addr} {fd : FuncData} (T : Txt K mg CA CN) (D : DLIsName K mg f fd) : FnOk P w K mg base CX0 1 f fd ["_law_text_here"] spIsName := by
  refine D.F.ok scIsName (fun vs H Q E h => ?_) (fun cdv A outer s H vs Q E hr h => ?_)
  · obtain ⟨z, rfl, _⟩ := h
    rfl
  obtain ⟨z, rfl, hz, q⟩ := h
  refine ⟨_, pss_cons (ps_for PassesOwn.never rfl (pi_str (pv 0)) (pg_name (i := 1) scIsName.nd rfl (.inl rfl))
      (pss_one (ps_if (pt_cmpR op_notIn_sign (pv 1) pe_str (by rfl)) (pss_one (ps_ret pe_bl)) pss_nil)))
    (pss_one (ps_ret (pe_chain op_le op_le pe_int (pe_callB call_len_str (by rfl) T.mLen PySem.boot_len (pa_cons (pv 0) pa_nil)) pe_int))), ?_⟩
  refine ⟨_, rfl, z, rfl, for_it walk_str (fun i σ H' => H' = H ∧ ∃ o, σ = [some (.str z), o]) ⟨rfl, _, rfl⟩ (fun _ _ _ _ _ => trivial) ?_ ?_⟩
  · rintro i x σ H' H2 hi ⟨rfl, o, rfl⟩ ⟨rfl, c, hc, rfl⟩
    refine ⟨_, rfl, c, _, rfl, rfl, _, rfl, ?_⟩
    refine ite2 (fun _ => ?_) (fun _ => ?_)
    · exact q false
    · exact ⟨rfl, _, rfl⟩
  · rintro σ H' ⟨rfl, o, rfl⟩
    refine ⟨_, rfl, _, rfl, hz, _, _, rfl, rfl, _, rfl, ?_⟩
    refine ite2 (fun _ => ?_) (fun _ => q _)
    exact ⟨_, _, rfl, rfl, q _⟩
theorem catA_one {K : PySem.W.Frag} {a b : Addr} {xs ys : List V} {H : Hp} {Q : VK} (ha : H a = some (.tup xs)) (hb : H b = some (.tup ys)) (hz : xs.length + ys.length ≤ sizeLine) (q : ∀ p H', Same H H' → H' p = some (.tup (xs ++ ys)) → Q (.ref p) H') : rCatA K (.ref a) (.ref b) H Q := by
  refine ⟨a, b, xs, ys, rfl, rfl, SqT.of ha, SqT.of hb, hz, fun e => ?_, fun _ e => ?_, fun _ _ p np => q p _ (same_new np _) upd_same⟩
  · subst e
    exact q b H (Same.refl _) hb
  · subst e
    exact q a H (Same.refl _) (by rw [List.append_nil]; exact ha)
def spIsBad : Sp := fun vs H Q _ => ∃ (u : V) (v : Vol), vs = [u] ∧ VolAt H u v ∧ v.Ok 250 ∧ ∀ (b : Bool) (H' : Hp), Same H H' → Q (.bl b) H'
abbrev nIsBad : List Str := ["_law_volume_here", "_law_row_here", "_law_text_here", "_law_before", "_law_name", "_law_child"]
theorem scIsBad : FnScope nIsBad ["_law_volume_here"] (defScope sLIsBad) := ⟨rfl, rfl, rfl, by decide +kernel, rfl, by decide +kernel, by decide +kernel⟩
theorem rows_get {H : Hp} {ys : List V} {rs : List (List Str)} {i : Nat} {x : V} (h : TpAll H ys (rs.map rowD)) (hx : ys[i]? = some x) : ∃ (r : List Str) (a : Addr), x = .ref a ∧ H a = some (.tup (r.map V.str)) := by
  obtain ⟨d, h1, h2⟩ := h.get hx
  obtain ⟨r, h3, rfl⟩ := map_at h1
  obtain ⟨a, e, ha⟩ := PathAt.inv h2
  exact ⟨r, a, e, ha⟩
theorem ok_is_bad {f g1 g2 g3 : Addr} {fd gd1 gd2 gd3 : FuncData} (T : Txt K mg CA CN) (D : DLIsBad K mg f fd) (D1 : DLIsCode K mg g1 gd1) (D2 : DLIsText K mg g2 gd2) (D3 : DLIsName K mg g3 gd3) : FnOk P w K mg base CX0 3 f fd ["_law_volume_here"] spIsBad := by
  have GT := ok_is_text (P := P) (w := w) (base := base) T D2 D1
  have GN := ok_is_name (P := P) (w := w) (base := base) T D3
  refine D.F.ok scIsBad (fun vs H Q E h => ?_) (fun cdv A outer s H vs Q E hr h => ?_)
  · obtain ⟨u, v, rfl, _⟩ := h
    rfl
  obtain ⟨u, v, rfl, hv, hok, q⟩ := h
  have hr1 : Room 1 _ := hr.mono (by decide)
  refine ⟨_, pss_cons (ps_if (pt_cmpR op_eq (pe_ix ix_tup (pv 0) pe_int (fun _ _ => rfl)) pe_str (nomark _)) (pss_one (ps_ret (pe_not (pe_call GT hr rfl D2.m D2.F.kp D2.b .nil pass0 (pa_cons (pe_ix ix_tup (pv 0) pe_int (fun _ _ => rfl)) pa_nil))))) pss_nil)
    (pss_cons (ps_if (pt_cmpR op_eq (pe_ix ix_tup (pv 0) pe_int (fun _ _ => rfl)) pe_str (nomark _))
        (pss_cons (ps_if (pt_cmpR op_eq (pe_callB call_len_seq (by rfl) T.mLen PySem.boot_len (pa_cons (pe_ix ix_tup (pv 0) pe_int (fun _ _ => rfl)) pa_nil)) pe_int (nomark _)) (pss_one (ps_ret pe_bl)) pss_nil)
        (pss_cons (ps_for PassesOwn.never rfl (pi_tup (pe_op op_catA (pe_tup (pa_cons (pe_ix ix_tup (pv 0) pe_int (fun _ _ => rfl)) pa_nil)) (pe_ix ix_tup (pv 0) pe_int (fun _ _ => rfl)))) (pg_name (i := 1) scIsBad.nd rfl (.inl rfl))
          (pss_cons (ps_if (pt_cmpR op_ne (pe_callB call_len_seq (by rfl) T.mLen PySem.boot_len (pa_cons (pv 1) pa_nil)) (pe_callB call_len_seq (by rfl) T.mLen PySem.boot_len (pa_cons (pe_ix ix_tup (pv 0) pe_int (fun _ _ => rfl)) pa_nil)) (nomark _)) (pss_one (ps_ret pe_bl)) pss_nil)
          (pss_one (ps_for PassesOwn.never rfl (pi_tup (pv 1)) (pg_name (i := 2) scIsBad.nd rfl (.inl rfl))
            (pss_one (ps_if (pt_not (pt_val (pe_call GT hr rfl D2.m D2.F.kp D2.b .nil pass0 (pa_cons (pv 2) pa_nil)))) (pss_one (ps_ret pe_bl)) pss_nil))))))
        (pss_one (ps_ret pe_bl))))
        pss_nil)
    (pss_cons (ps_set (i := 3) scIsBad.nd rfl (.inl rfl) pe_str)
    (pss_cons (ps_for PassesOwn.never rfl (pi_tup (pe_ix ix_tup (pv 0) pe_int (fun _ _ => rfl))) (pg_tup rfl (pgs_cons (pg_name (i := 4) scIsBad.nd rfl (.inl rfl)) (pgs_cons (pg_name (i := 5) scIsBad.nd rfl (.inl rfl)) pgs_nil)))
        (pss_cons (ps_if (PW.pt (pw_or (pt_not (pt_val (pe_call GN hr1 rfl D3.m D3.F.kp D3.b .nil pass0 (pa_cons (pv 4) pa_nil)))) (pw_or1 (pt_cmpR op_le_str (pv 4) (pv 3) (nomark _))))) (pss_one (ps_ret pe_bl)) pss_nil)
        (pss_one (ps_set (i := 3) scIsBad.nd rfl (.inl rfl) (pv 4)))))
    (pss_one (ps_ret pe_bl))))), ?_⟩
  obtain ⟨a, xs, rfl, ha⟩ := hv.head
  refine ⟨_, rfl, a, _, 0, _, rfl, rfl, SqT.of ha, at0 _ _, rfl, _, rfl, ?_⟩
  cases v with
  | text s =>
    refine ifT (decide_eq_true rfl) ?_
    obtain ⟨a', ea, ha'⟩ := hv.text_inv
    cases ea
    exact ⟨_, rfl, a, _, 1, _, rfl, rfl, SqT.of ha', at1 _ _ _, s, rfl, fun b => ⟨_, rfl, q _ _ (Same.refl _)⟩⟩
  | table hd rs =>
    refine ifF (decide_eq_false (by simp [Vol.kind, Ne.symm ne_tt])) ?_
    refine ⟨_, rfl, a, _, 0, _, rfl, rfl, SqT.of ha, at0 _ _, rfl, _, rfl, ?_⟩
    refine ifT (decide_eq_true rfl) ?_
    obtain ⟨a', b, c, ys, ea, ha', hb, hc, ht⟩ := hv.table_inv
    cases ea
    rw [Vol.Ok] at hok
    have lt := TpAll.len ht
    rw [List.length_map] at lt
    refine ⟨_, rfl, a, _, 1, _, rfl, rfl, SqT.of ha', at1 _ _ _, b, _, rfl, .inr (SqT.of hb), rfl, _, rfl, ?_⟩
    refine ite2 (fun _ => q true _ (Same.refl _)) (fun _ => ?_)
    refine ⟨_, rfl, a, _, 1, _, rfl, rfl, SqT.of ha', at1 _ _ _, sz1 _, fun t nt => ?_⟩
    have s1 := same_new nt (.tup [.ref b])
    refine ⟨_, rfl, a, _, 2, _, rfl, rfl, SqT.of (s1 _ _ ha'), at2 _ _ _ _, ?_⟩
    refine catA_one upd_same (s1 _ _ hc) (small' (by show 1 + _ ≤ _; omega)) fun p H1 s2 hp => ?_
    have s3 := s1.trans s2
    refine ⟨p, rfl, ⟨_, SqT.of hp⟩, for_tup (K := K) (a := p) (xs := [.ref b] ++ ys) (fun i σ H' => H' = H1 ∧ ∃ o1 o2 o3 o4 o5, σ = [some (.ref a), o1, o2, o3, o4, o5])
      ⟨rfl, _, _, _, _, _, rfl⟩ (fun i σ H' _ ⟨h1, _⟩ => by rw [h1]; exact SqT.of hp) ?_ ?_⟩
    · rintro i x σ H' hx ⟨rfl, o1, o2, o3, o4, o5, rfl⟩
      obtain ⟨r, c', rfl, hr'⟩ : ∃ (r : List Str) (c' : Addr), x = .ref c' ∧ H' c' = some (.tup (r.map V.str)) := by
        cases i with
        | zero => exact ⟨hd, b, (Option.some.inj hx).symm, s3 _ _ hb⟩
        | succ j => exact rows_get (TpAll.mono (ts_of s3) ht) hx
      refine ⟨_, rfl, c', _, rfl, .inr (SqT.of hr'), _, rfl, a, _, 1, _, rfl, rfl, SqT.of (s3 _ _ ha'), at1 _ _ _, b, _, rfl, .inr (SqT.of (s3 _ _ hb)), rfl, _, rfl, ?_⟩
      refine ite2 (fun _ => q true _ s3) (fun _ => ?_)
      refine ⟨_, rfl, c', rfl, ⟨_, SqT.of hr'⟩, for_tup (K := K) (a := c') (xs := r.map V.str) (fun i σ H2 => H2 = H' ∧ ∃ o2 o3 o4 o5, σ = [some (.ref a), some (.ref c'), o2, o3, o4, o5])
        ⟨rfl, _, _, _, _, rfl⟩ (fun i σ H' _ ⟨h1, _⟩ => by rw [h1]; exact SqT.of hr') ?_ ?_⟩
      · rintro i x σ H2 hx ⟨rfl, o2, o3, o4, o5, rfl⟩
        obtain ⟨z, hz, rfl⟩ := map_at hx
        refine ⟨_, rfl, z, rfl, fun b' => ⟨_, rfl, ?_⟩⟩
        refine ite2 (fun _ => q true _ s3) (fun _ => ⟨rfl, _, _, _, _, rfl⟩)
      · rintro σ H2 ⟨rfl, o2, o3, o4, o5, rfl⟩
        exact ⟨rfl, _, _, _, _, _, rfl⟩
    · rintro σ H' ⟨rfl, o1, o2, o3, o4, o5, rfl⟩
      exact q false _ s3
  | folder es =>
    refine ifF (decide_eq_false (by simp [Vol.kind, Ne.symm ne_tf])) ?_
    refine ⟨_, rfl, a, _, 0, _, rfl, rfl, SqT.of ha, at0 _ _, rfl, _, rfl, ?_⟩
    refine ifF (decide_eq_false (by simp [Vol.kind, Ne.symm ne_bf])) ?_
    obtain ⟨a', e, ys, ea, ha', he, te⟩ := hv.folder_inv
    cases ea
    rw [Vol.Ok] at hok
    refine ⟨_, rfl, a, _, 1, _, rfl, rfl, SqT.of ha', at1 _ _ _, e, rfl, ⟨_, SqT.of he⟩, for_tup (K := K) (a := e) (xs := ys) (fun i σ H' => H' = H ∧ ∃ o1 o2 o3 o4 z, σ = [some (.ref a), o1, o2, some (.str z), o3, o4])
      ⟨rfl, _, _, _, _, _, rfl⟩ (fun i σ H' _ ⟨h1, _⟩ => by rw [h1]; exact SqT.of he) ?_ ?_⟩
    · rintro i x σ H' hx ⟨rfl, o1, o2, o3, o4, z, rfl⟩
      obtain ⟨m, v', c', u', h1, rfl, h2, h3⟩ := te.get hx
      have om := (entsOk_iff.mp hok.2.2 (m, v') (List.mem_of_getElem? h1)).1
      refine ⟨c', _, rfl, SqT.of h2, rfl, _, _, rfl, _, _, rfl, ⟨rfl, ?_⟩⟩
      refine ⟨_, rfl, m, rfl, small' (Nat.le_trans om.2 (by decide)), fun b => ⟨_, rfl, ?_⟩⟩
      refine or_ite (fun Q h => ⟨_, rfl, _, rfl, _, _, rfl, rfl, _, rfl, h⟩) ?_
      refine ite2 (fun _ => q true _ (Same.refl _)) (fun _ => ?_)
      exact ⟨_, rfl, rfl, _, _, _, _, _, rfl⟩
    · rintro σ H' ⟨rfl, o1, o2, o3, o4, z, rfl⟩
      exact q false _ (Same.refl _)
end
end Sc

namespace Sc
open PySem L2
section
variable {P : Program} {w : World} {K : PySem.W.Frag} {mg : Str → Option Value} {base : Heap} {CA CN : Addr}
/-! ### depth, size, faults -/
theorem entsDepth_app (a b : Ents) : entsDepth (a ++ b) = max (entsDepth a) (entsDepth b) := by
  induction a with
  | nil => rw [List.nil_append, entsDepth]; omega
  | cons p r ih =>
    obtain ⟨n, v⟩ := p
    rw [List.cons_append, entsDepth, entsDepth, ih]
    omega
theorem entsSize_app (a b : Ents) : entsSize (a ++ b) = entsSize a + entsSize b := by
  induction a with
  | nil => rw [List.nil_append, entsSize]; omega
  | cons p r ih =>
    obtain ⟨n, v⟩ := p
    rw [List.cons_append, entsSize, entsSize, ih]
    omega
theorem depth_step {es : Ents} {i : Nat} {m : Str} {v : Vol} (h : es[i]? = some (m, v)) : entsDepth (es.take (i + 1)) = max (entsDepth (es.take i)) v.depth := by
  rw [take_at h, entsDepth_app, entsDepth, entsDepth]
  omega
theorem size_step {es : Ents} {i : Nat} {m : Str} {v : Vol} (h : es[i]? = some (m, v)) : entsSize (es.take (i + 1)) = entsSize (es.take i) + v.size := by
  rw [take_at h, entsSize_app, entsSize, entsSize]
  omega
theorem notF_depth {v : Vol} (h : v.isF = false) : v.depth = 1 ∧ v.size = 1 := by
  cases v with
  | text s => exact ⟨by rw [Vol.depth], by rw [Vol.size]⟩
  | table hd rs => exact ⟨by rw [Vol.depth], by rw [Vol.size]⟩
  | folder es => cases h
theorem kind_dec (v : Vol) : decide (V.str v.kind = V.str "folder") = v.isF := by
  cases e : v.isF with
  | true => exact decide_eq_true (congrArg V.str ((kind_iff v).mpr e))
  | false =>
    refine decide_eq_false fun z => ?_
    injection z with z
    rw [(kind_iff v).mp z] at e
    cases e
def spDepth (n : Nat) : Sp := fun vs H Q _ => ∃ (u : V) (v : Vol), vs = [u] ∧ VolAt H u v ∧ v.depth ≤ n ∧ Q (.int (v.depth : Nat)) H
def spSize (n : Nat) : Sp := fun vs H Q _ => ∃ (u : V) (v : Vol), vs = [u] ∧ VolAt H u v ∧ v.depth ≤ n ∧ Q (.int (v.size : Nat)) H
abbrev nDepth : List Str := ["_law_volume_here", "_law_deepest", "_law_name", "_law_child"]
abbrev nSize : List Str := ["_law_volume_here", "_law_total", "_law_name", "_law_child"]
theorem scDepth : FnScope nDepth ["_law_volume_here"] (defScope sLDepth) := ⟨rfl, rfl, rfl, by decide +kernel, rfl, by decide +kernel, by decide +kernel⟩
theorem scSize : FnScope nSize ["_law_volume_here"] (defScope sLSize) := ⟨rfl, rfl, rfl, by decide +kernel, rfl, by decide +kernel, by decide +kernel⟩
theorem depth_rec {f : Addr} {fd : FuncData} {n : Nat} (T : Txt K mg CA CN) (D : DLDepth K mg f fd) (G : FnOk P w K mg base CX0 n f fd ["_law_volume_here"] (spDepth n)) : FnOk P w K mg base CX0 (n + 1) f fd ["_law_volume_here"] (spDepth (n + 1)) := by
  refine D.F.ok scDepth (fun vs H Q E h => ?_) (fun cdv A outer s H vs Q E hr h => ?_)
  · obtain ⟨u, v, rfl, _⟩ := h
    rfl
  obtain ⟨u, v, rfl, hv, dv, q⟩ := h
  refine ⟨_, pss_cons (ps_set (i := 1) scDepth.nd rfl (.inl rfl) pe_int)
    (pss_cons (ps_if (pt_cmpR op_eq (pe_ix ix_tup (pv 0) pe_int (fun _ _ => rfl)) pe_str (nomark _))
      (pss_one (ps_for PassesOwn.never rfl (pi_tup (pe_ix ix_tup (pv 0) pe_int (fun _ _ => rfl))) (pg_tup rfl (pgs_cons (pg_name (i := 2) scDepth.nd rfl (.inl rfl)) (pgs_cons (pg_name (i := 3) scDepth.nd rfl (.inl rfl)) pgs_nil)))
        (pss_one (ps_set (i := 1) scDepth.nd rfl (.inl rfl) (pe_callB (call_max2 rfl) (by rfl) T.mMax (by decide +kernel) (pa_cons (pv 1) (pa_cons (pe_call G hr rfl D.m D.F.kp D.b .nil pass0 (pa_cons (pv 3) pa_nil)) pa_nil)))))))
      pss_nil)
    (pss_one (ps_ret (pe_op op_add (pv 1) pe_int)))), ?_⟩
  obtain ⟨a, xs, rfl, ha⟩ := hv.head
  refine ⟨_, rfl, a, _, 0, _, rfl, rfl, SqT.of ha, at0 _ _, rfl, _, rfl, ?_⟩
  rw [kind_dec]
  refine ite2 (fun c => ?_) (fun c => ?_)
  · cases v with
    | text s => cases c
    | table hd rs => cases c
    | folder es =>
      obtain ⟨a', e, ys, ea, ha', he, te⟩ := hv.folder_inv
      cases ea
      rw [Vol.depth] at dv q
      refine ⟨_, rfl, a, _, 1, _, rfl, rfl, SqT.of ha', at1 _ _ _, e, rfl, ⟨_, SqT.of he⟩, for_tup (K := K) (a := e) (xs := ys) (fun i σ H' => H' = H ∧ ∃ o1 o2, σ = [some (.ref a), some (.int (entsDepth (es.take i) : Nat)), o1, o2])
        ⟨rfl, _, _, by rw [List.take_zero, entsDepth]; rfl⟩ (fun i σ H' _ ⟨h1, _⟩ => by rw [h1]; exact SqT.of he) ?_ ?_⟩
      · rintro i x σ H' hx ⟨rfl, o1, o2, rfl⟩
        obtain ⟨m, v', c', u', h1, rfl, h2, h3⟩ := te.get hx
        refine ⟨c', _, rfl, SqT.of h2, rfl, _, _, rfl, _, _, rfl, ⟨rfl, ?_⟩⟩
        have dm : v'.depth ≤ entsDepth es := depth_mem (p := (m, v')) (List.mem_of_getElem? h1)
        refine ⟨_, rfl, _, rfl, u', v', rfl, h3, by show v'.depth ≤ n; omega, _, _, rfl, rfl, some (.str m), some u', ?_⟩
        rw [depth_step h1]
        have e2 : (if ((v'.depth : Nat) : Int) > ((entsDepth (es.take i) : Nat) : Int) then ((v'.depth : Nat) : Int) else ((entsDepth (es.take i) : Nat) : Int)) = ((max (entsDepth (es.take i)) v'.depth : Nat) : Int) := by split <;> omega
        rw [e2]
        rfl
      · rintro σ H' ⟨rfl, o1, o2, rfl⟩
        rw [te.len, List.take_length]
        exact ⟨_, rfl, _, _, rfl, rfl, q⟩
  · have e : v.isF = false := by cases h : v.isF with | false => rfl | true => exact absurd h c
    rw [(notF_depth e).1] at q
    exact ⟨_, rfl, _, _, rfl, rfl, q⟩
theorem ok_depth {f : Addr} {fd : FuncData} (T : Txt K mg CA CN) (D : DLDepth K mg f fd) : ∀ n : Nat, FnOk P w K mg base CX0 n f fd ["_law_volume_here"] (spDepth n)
  | 0 => no_calls fun vs H Q E h => by
    obtain ⟨u, v, _, _, d, _⟩ := h
    have := depth_pos v
    omega
  | n + 1 => depth_rec T D (ok_depth T D n)
theorem size_rec {f : Addr} {fd : FuncData} {n : Nat} (T : Txt K mg CA CN) (D : DLSize K mg f fd) (G : FnOk P w K mg base CX0 n f fd ["_law_volume_here"] (spSize n)) : FnOk P w K mg base CX0 (n + 1) f fd ["_law_volume_here"] (spSize (n + 1)) := by
  refine D.F.ok scSize (fun vs H Q E h => ?_) (fun cdv A outer s H vs Q E hr h => ?_)
  · obtain ⟨u, v, rfl, _⟩ := h
    rfl
  obtain ⟨u, v, rfl, hv, dv, q⟩ := h
  refine ⟨_, pss_cons (ps_set (i := 1) scSize.nd rfl (.inl rfl) pe_int)
    (pss_cons (ps_if (pt_cmpR op_eq (pe_ix ix_tup (pv 0) pe_int (fun _ _ => rfl)) pe_str (nomark _))
      (pss_one (ps_for PassesOwn.never rfl (pi_tup (pe_ix ix_tup (pv 0) pe_int (fun _ _ => rfl))) (pg_tup rfl (pgs_cons (pg_name (i := 2) scSize.nd rfl (.inl rfl)) (pgs_cons (pg_name (i := 3) scSize.nd rfl (.inl rfl)) pgs_nil)))
        (pss_one (ps_set (i := 1) scSize.nd rfl (.inl rfl) (pe_op op_add (pv 1) (pe_call G hr rfl D.m D.F.kp D.b .nil pass0 (pa_cons (pv 3) pa_nil)))))))
      pss_nil)
    (pss_one (ps_ret (pv 1)))), ?_⟩
  obtain ⟨a, xs, rfl, ha⟩ := hv.head
  refine ⟨_, rfl, a, _, 0, _, rfl, rfl, SqT.of ha, at0 _ _, rfl, _, rfl, ?_⟩
  rw [kind_dec]
  refine ite2 (fun c => ?_) (fun c => ?_)
  · cases v with
    | text s => cases c
    | table hd rs => cases c
    | folder es =>
      obtain ⟨a', e, ys, ea, ha', he, te⟩ := hv.folder_inv
      cases ea
      rw [Vol.depth] at dv
      rw [Vol.size] at q
      refine ⟨_, rfl, a, _, 1, _, rfl, rfl, SqT.of ha', at1 _ _ _, e, rfl, ⟨_, SqT.of he⟩, for_tup (K := K) (a := e) (xs := ys) (fun i σ H' => H' = H ∧ ∃ o1 o2, σ = [some (.ref a), some (.int (entsSize (es.take i) + 1 : Nat)), o1, o2])
        ⟨rfl, _, _, by rw [List.take_zero, entsSize]; rfl⟩ (fun i σ H' _ ⟨h1, _⟩ => by rw [h1]; exact SqT.of he) ?_ ?_⟩
      · rintro i x σ H' hx ⟨rfl, o1, o2, rfl⟩
        obtain ⟨m, v', c', u', h1, rfl, h2, h3⟩ := te.get hx
        refine ⟨c', _, rfl, SqT.of h2, rfl, _, _, rfl, _, _, rfl, ⟨rfl, ?_⟩⟩
        have dm : v'.depth ≤ entsDepth es := depth_mem (p := (m, v')) (List.mem_of_getElem? h1)
        refine ⟨_, rfl, _, rfl, u', v', rfl, h3, by show v'.depth ≤ n; omega, _, _, rfl, rfl, rfl, some (.str m), some u', ?_⟩
        rw [size_step h1]
        have e2 : ((entsSize (es.take i) + 1 : Nat) : Int) + ((v'.size : Nat) : Int) = ((entsSize (es.take i) + v'.size + 1 : Nat) : Int) := by omega
        rw [← e2]
        rfl
      · rintro σ H' ⟨rfl, o1, o2, rfl⟩
        rw [te.len, List.take_length]
        exact ⟨_, rfl, q⟩
  · have e : v.isF = false := by cases h : v.isF with | false => rfl | true => exact absurd h c
    rw [(notF_depth e).2] at q
    exact ⟨_, rfl, q⟩
theorem ok_size {f : Addr} {fd : FuncData} (T : Txt K mg CA CN) (D : DLSize K mg f fd) : ∀ n : Nat, FnOk P w K mg base CX0 n f fd ["_law_volume_here"] (spSize n)
  | 0 => no_calls fun vs H Q E h => by
    obtain ⟨u, v, _, _, d, _⟩ := h
    have := depth_pos v
    omega
  | n + 1 => size_rec T D (ok_size T D n)
def spBadPath (n : Nat) : Sp := fun vs H Q _ => ∃ (u q : V) (v : Vol) (p : Path), vs = [u, q] ∧ VolAt H u v ∧ PathAt H q p ∧ v.depth ≤ n ∧ v.Ok 250 ∧ p.length + n ≤ 1000 ∧ ∀ (r : V) (H' : Hp), Same H H' → Q r H'
abbrev nBadPath : List Str := ["_law_volume_here", "_law_path", "_law_name", "_law_child", "_law_found"]
theorem scBadPath : FnScope nBadPath ["_law_volume_here", "_law_path"] (defScope sLBadPath) := ⟨rfl, rfl, rfl, by decide +kernel, rfl, by decide +kernel, by decide +kernel⟩
theorem bad_path_rec {f g1 g2 g3 g4 : Addr} {fd gd1 gd2 gd3 gd4 : FuncData} {n : Nat} (T : Txt K mg CA CN) (D : DLBadPath K mg f fd) (D1 : DLIsCode K mg g1 gd1) (D2 : DLIsText K mg g2 gd2) (D3 : DLIsName K mg g3 gd3) (D4 : DLIsBad K mg g4 gd4)
    (G : FnOk P w K mg base CX0 (n + 3) f fd ["_law_volume_here", "_law_path"] (spBadPath n)) : FnOk P w K mg base CX0 (n + 1 + 3) f fd ["_law_volume_here", "_law_path"] (spBadPath (n + 1)) := by
  have GB := ok_is_bad (P := P) (w := w) (base := base) T D4 D1 D2 D3
  refine FnOk.mono (j := (n + 3) + 1) ?_ (by omega)
  refine D.F.ok scBadPath (fun vs H Q E h => ?_) (fun cdv A outer s H vs Q E hr h => ?_)
  · obtain ⟨u, q, v, p, rfl, _⟩ := h
    rfl
  obtain ⟨u, q0, v, p, rfl, hv, hq, dv, ok, lp, q⟩ := h
  have hr3 : Room 3 _ := hr.mono (by omega)
  refine ⟨_, pss_cons (ps_if (pt_val (pe_call GB hr3 rfl D4.m D4.F.kp D4.b .nil pass0 (pa_cons (pv 0) pa_nil))) (pss_one (ps_ret (pv 1))) pss_nil)
    (pss_cons (ps_if (pt_cmpR op_eq (pe_ix ix_tup (pv 0) pe_int (fun _ _ => rfl)) pe_str (nomark _))
      (pss_one (ps_for PassesOwn.never rfl (pi_tup (pe_ix ix_tup (pv 0) pe_int (fun _ _ => rfl))) (pg_tup rfl (pgs_cons (pg_name (i := 2) scBadPath.nd rfl (.inl rfl)) (pgs_cons (pg_name (i := 3) scBadPath.nd rfl (.inl rfl)) pgs_nil)))
        (pss_cons (ps_set (i := 4) scBadPath.nd rfl (.inl rfl) (pe_call G hr rfl D.m D.F.kp D.b .nil pass0 (pa_cons (pv 3) (pa_cons (pe_op op_catP (pv 1) (pe_tup (pa_cons (pv 2) pa_nil))) pa_nil))))
        (pss_one (ps_if (pt_cmp (pc_notN (pv 4))) (pss_one (ps_ret (pv 4))) pss_nil)))))
      pss_nil)
    (pss_one (ps_ret pe_non))), ?_⟩
  refine ⟨_, rfl, u, v, rfl, hv, ok, fun b H1 s1 => ⟨_, rfl, ?_⟩⟩
  refine ite2 (fun _ => ⟨_, rfl, q _ _ s1⟩) (fun _ => ?_)
  obtain ⟨a, xs, rfl, ha⟩ := hv.head
  obtain ⟨qa, rfl, hqa⟩ := hq.inv
  refine ⟨_, rfl, a, _, 0, _, rfl, rfl, SqT.of (s1 _ _ ha), at0 _ _, rfl, _, rfl, ?_⟩
  rw [kind_dec]
  refine ite2 (fun c => ?_) (fun c => q _ _ s1)
  cases v with
  | text s => cases c
  | table hd rs => cases c
  | folder es =>
    obtain ⟨a', e, ys, ea, ha', he, te⟩ := hv.folder_inv
    cases ea
    rw [Vol.depth] at dv
    rw [Vol.Ok] at ok
    refine ⟨_, rfl, a, _, 1, _, rfl, rfl, SqT.of (s1 _ _ ha'), at1 _ _ _, e, rfl, ⟨_, SqT.of (s1 _ _ he)⟩, for_tup (K := K) (a := e) (xs := ys) (fun i σ H' => Same H H' ∧ ∃ o1 o2 o3, σ = [some (.ref a), some (.ref qa), o1, o2, o3])
      ⟨s1, _, _, _, rfl⟩ (fun i σ H' _ ⟨h1, _⟩ => SqT.of (h1 _ _ he)) ?_ ?_⟩
    · rintro i x σ H' hx ⟨s2, o1, o2, o3, rfl⟩
      obtain ⟨m, v', c', u', h1, rfl, h2, h3⟩ := te.get hx
      refine ⟨c', _, rfl, SqT.of (s2 _ _ h2), rfl, _, _, rfl, _, _, rfl, ⟨rfl, ?_⟩⟩
      have dm : v'.depth ≤ entsDepth es := depth_mem (p := (m, v')) (List.mem_of_getElem? h1)
      have om := (entsOk_iff.mp ok.2.2 (m, v') (List.mem_of_getElem? h1)).2
      refine ⟨_, rfl, _, rfl, _, rfl, sz1 _, fun t1 n1 => ⟨qa, t1, p, m, rfl, rfl, same_new n1 _ _ _ (s2 _ _ hqa), upd_same, by omega, fun z Hz sz hz => ?_⟩⟩
      have s3 := (same_new n1 _).trans sz
      refine ⟨u', .ref z, v', p ++ [m], rfl, Tp.mono (ts_of (s2.trans s3)) h3, PathAt.mk hz, by omega, om, by rw [List.length_append]; show p.length + 1 + n ≤ _; omega, fun r H4 s4 => ?_⟩
      have s5 := s2.trans (s3.trans s4)
      refine ⟨_, rfl, _, rfl, ?_⟩
      refine ite2 (fun _ => ⟨_, rfl, q _ _ s5⟩) (fun _ => ⟨s5, _, _, _, rfl⟩)
    · rintro σ H' ⟨s2, o1, o2, o3, rfl⟩
      exact q _ _ s2
theorem ok_bad_path {f g1 g2 g3 g4 : Addr} {fd gd1 gd2 gd3 gd4 : FuncData} (T : Txt K mg CA CN) (D : DLBadPath K mg f fd) (D1 : DLIsCode K mg g1 gd1) (D2 : DLIsText K mg g2 gd2) (D3 : DLIsName K mg g3 gd3) (D4 : DLIsBad K mg g4 gd4) :
    ∀ n : Nat, FnOk P w K mg base CX0 (n + 3) f fd ["_law_volume_here", "_law_path"] (spBadPath n)
  | 0 => FnOk.mono (j := 0) (no_calls (sp := spBadPath 0) fun vs H Q E h => by
    obtain ⟨u, q, v, p, _, _, _, d, _⟩ := h
    have := depth_pos v
    omega) (by omega)
  | n + 1 => bad_path_rec T D D1 D2 D3 D4 (ok_bad_path T D D1 D2 D3 D4 n)
def spFault : Sp := fun vs H Q _ => ∃ (u : V) (v : Vol), vs = [u] ∧ VolAt H u v ∧ v.depth ≤ 50 ∧ v.Ok 250 ∧ ∀ (r : V) (H' : Hp), Same H H' → (r = .non → v.depth ≤ 8 ∧ v.size ≤ 200) → Q r H'
theorem scFault : FnScope ["_law_volume_here", "_law_path"] ["_law_volume_here"] (defScope sLFault) := ⟨rfl, rfl, rfl, by decide +kernel, rfl, by decide +kernel, by decide +kernel⟩
theorem ok_fault {f g1 g2 g3 g4 g5 g6 g7 : Addr} {fd gd1 gd2 gd3 gd4 gd5 gd6 gd7 : FuncData} (T : Txt K mg CA CN) (D : DLFault K mg f fd) (D1 : DLIsCode K mg g1 gd1) (D2 : DLIsText K mg g2 gd2) (D3 : DLIsName K mg g3 gd3) (D4 : DLIsBad K mg g4 gd4)
    (D5 : DLBadPath K mg g5 gd5) (D6 : DLDepth K mg g6 gd6) (D7 : DLSize K mg g7 gd7) : FnOk P w K mg base CX0 54 f fd ["_law_volume_here"] spFault := by
  have GB := ok_bad_path (P := P) (w := w) (base := base) T D5 D1 D2 D3 D4 50
  have GD := ok_depth (P := P) (w := w) (base := base) T D6 50
  have GS := ok_size (P := P) (w := w) (base := base) T D7 50
  refine D.F.ok scFault (fun vs H Q E h => ?_) (fun cdv A outer s H vs Q E hr h => ?_)
  · obtain ⟨u, v, rfl, _⟩ := h
    rfl
  obtain ⟨u, v, rfl, hv, dv, ok, q⟩ := h
  have hr5 : Room 50 _ := hr.mono (by decide)
  refine ⟨_, pss_cons (ps_set (i := 1) scFault.nd rfl (.inl rfl) (pe_call GB hr rfl D5.m D5.F.kp D5.b .nil pass0 (pa_cons (pv 0) (pa_cons (pe_tup pa_nil) pa_nil))))
    (pss_cons (ps_if (PW.pt (pw_and (pt_cmp (pc_isN (pv 1))) (pw_and1 (PW.pt (pw_or (pt_cmpR op_gt (pe_call GD hr5 rfl D6.m D6.F.kp D6.b .nil pass0 (pa_cons (pv 0) pa_nil)) pe_int (nomark _))
        (pw_or1 (pt_cmpR op_gt (pe_call GS hr5 rfl D7.m D7.F.kp D7.b .nil pass0 (pa_cons (pv 0) pa_nil)) pe_int (nomark _))))))))
      (pss_one (ps_ret (pe_tup pa_nil))) pss_nil)
    (pss_one (ps_ret (pv 1)))), ?_⟩
  refine ⟨_, rfl, sz0, fun t nt => ⟨u, .ref t, v, [], rfl, Tp.mono (ts_new nt _) hv, PathAt.mk upd_same, dv, ok, by decide, fun r H1 s1 => ?_⟩⟩
  have s2 := (same_new nt (.tup [])).trans s1
  have hv1 := Tp.mono (ts_of s2) hv
  refine ⟨_, rfl, _, rfl, ?_⟩
  have last : (r = .non → v.depth ≤ 8 ∧ v.size ≤ 200) → Q r H1 := fun h => q r H1 s2 h
  refine and_ite (b2 := decide (((v.depth : Nat) : Int) > 8) || decide (((v.size : Nat) : Int) > 200)) (fun Q h => ⟨_, rfl, u, v, rfl, hv1, dv, _, _, rfl, rfl, _, rfl, or_ite (fun Q h => ⟨_, rfl, u, v, rfl, hv1, dv, _, _, rfl, rfl, _, rfl, h⟩) h⟩) ?_
  refine ite2 (fun _ => ?_) (fun c => ?_)
  · exact ⟨sz0, fun t nt => q _ _ (s2.trans (same_new nt _)) fun e => nomatch e⟩
  · refine ⟨_, rfl, last fun e => ?_⟩
    rw [decide_eq_true e, Bool.true_and, Bool.or_eq_true, not_or, decide_eq_true_eq, decide_eq_true_eq] at c
    omega
end
end Sc

namespace Sc
open PySem L2
section
variable {P : Program} {w : World} {K : PySem.W.Frag} {mg : Str → Option Value} {base : Heap} {CA CN : Addr}
/-! ### sorted of entries with names apart, any number of them -/
open PySem.Spec PyProof.Rows in
def NamAt (h : Heap) (v : Value) (n : Str) : Prop := ∃ a o t u m, v = .ref a ∧ h.get? a = some o ∧ o.cls = .type "tuple" ∧ o.data = .seq #[.str n t, u] m
def nameOf (h : Heap) (v : Value) : Str := match v with
  | .ref a => match h.get? a with
    | some o => match o.data with
      | .seq xs _ => match xs.toList with
        | .str n _ :: _ => n
        | _ => ""
      | _ => ""
    | none => ""
  | _ => ""
theorem NamAt.name {h : Heap} {v : Value} {n : Str} (x : NamAt h v n) : nameOf h v = n := by
  obtain ⟨a, o, t, u, m, rfl, ho, _, hd⟩ := x
  simp [nameOf, ho, hd]
theorem NamAt.keeps {h h' : Heap} {v : Value} {n : Str} (x : NamAt h v n) (k : ∀ b o, h.get? b = some o → o.cls = .type "tuple" → h'.get? b = some o) : NamAt h' v n := by
  obtain ⟨a, o, t, u, m, e, ho, hc, hd⟩ := x
  exact ⟨a, o, t, u, m, e, k _ _ ho hc, hc, hd⟩
theorem firsts_nam {h : Heap} : ∀ {vs : List Value}, (∀ v ∈ vs, ∃ n, NamAt h v n) → ∃ fs : List Value, PySem.W.KatTups h vs fs ∧ fs.length = vs.length ∧ ∀ f ∈ fs, ∃ x t, f = Value.str x t
  | [], _ => ⟨[], PySem.W.KatTups.nil, rfl, fun _ hm => by simp at hm⟩
  | v :: vs, hp => by
    obtain ⟨fs, h1, h2, h3⟩ := firsts_nam (vs := vs) fun v' hm => hp v' (List.mem_cons_of_mem _ hm)
    obtain ⟨n, a, o, t, u, m, e, ho, hc, hd⟩ := hp v (List.mem_cons_self ..)
    subst e
    refine ⟨.str n t :: fs, PySem.W.KatTups.cons ho hc hd rfl h1, by rw [List.length_cons, List.length_cons, h2], fun f hm => ?_⟩
    rcases List.mem_cons.mp hm with rfl | hm
    · exact ⟨n, t, rfl⟩
    · exact h3 f hm
def ltN (k : Value → Str) (v u : Value) : Bool := decide (nlt (k v) (k u))
theorem swo_nam (k : Value → Str) : SrtO.Swo (ltN k) := by
  refine ⟨fun x y h => ?_, fun x y z h1 h2 => ?_⟩
  · exact decide_eq_false (nlt_asymm (of_decide_eq_true h))
  · exact decide_eq_false (nle_trans (of_decide_eq_false h1) (of_decide_eq_false h2))
section
open SrtO PyProof.Rows Srt
variable {prog : Program} {w : World} {A : Around} {E : Value → Shared → Prop} {s : Shared}
theorem nam_cmp {vs : List Value} {k : Value → Str} (hp : ∀ v ∈ vs, NamAt s.heap v (k v)) (inj : ∀ v ∈ vs, ∀ u ∈ vs, k v = k u → v = u) : Cmp prog w A s (tuples' true) (fun p => p.1 ∈ vs) (lt2 (ltN k)) := by
  intro p q hm hm'
  have h1 := hp _ hm
  have h2 := hp _ hm'
  have hi := inj _ hm _ hm'
  show wpAny (model prog w) A (keyLt' (tuples' true) p.1 q.1) (fun r s' => s' = s ∧ r = ltN k p.1 q.1) (fun _ _ => False) s
  unfold ltN
  generalize k p.1 = n at h1 hi ⊢
  generalize k q.1 = m at h2 hi ⊢
  obtain ⟨a, o, t, u, c, e, ho, hc, hd⟩ := h1
  obtain ⟨a', o', t', u', c', e', ho', hc', hd'⟩ := h2
  rw [e, e'] at hi ⊢
  refine PySem.W.kat_lt ho hd ho' hd' ?_
  show PySem.W.KatLex prog w A true (decide (2 < 2)) _ [(.str n t, .str m t'), (u, u')] 0 s
  refine PySem.W.kat_cons (SeqAt.EqAt.str_str n t m t' prog w _ _ ?_)
  refine PySem.W.kat_go (fun e1 => ?_) (fun e1 => ?_)
  · have en : n = m := by simpa using e1
    have ea := hi en
    cases ea
    rw [ho] at ho'
    cases ho'
    rw [hd] at hd'
    injection hd' with hd1 _
    have hu : u = u' := by
      have z := congrArg (fun x : Array Value => x[1]?) hd1
      simpa using z
    subst hu
    refine PySem.W.kat_yes (PySem.W.kat_cons (SeqAt.EqAt.same u prog w _ _ ?_))
    refine PySem.W.kat_go (fun _ => ?_) (fun e2 => by cases e2)
    refine PySem.W.kat_yes (PySem.W.kat_nil ⟨rfl, ?_⟩)
    rw [en]
    exact (decide_eq_false (nlt_irrefl m)).symm
  · exact PySem.W.kat_no (oneLt_str ⟨rfl, rfl⟩)
theorem nam_sortable {a : Addr} {vs : List Value} {k : Value → Str} (h0 : 0 < vs.length) (hp : ∀ v ∈ vs, NamAt s.heap v (k v)) (inj : ∀ v ∈ vs, ∀ u ∈ vs, k v = k u → v = u) (ha : ∀ o, s.heap.get? a = some o → o.cls ≠ .type "tuple") : SortableO prog w A s a vs (ltN k) := by
  intro h' keep
  have hp' : ∀ v ∈ vs, NamAt h' v (k v) := fun v hm => (hp v hm).keeps fun b o e c => keep b o (fun z => by subst z; exact ha o e c) e
  obtain ⟨fs, h1, h2, h3⟩ := firsts_nam fun v hm => ⟨_, hp' v hm⟩
  refine ⟨tuples' true, fun Q E hq => ?_, nam_cmp hp' inj⟩
  refine PySem.W.kat_kind (T := .type "str") h1 (by omega) (fun f hm => ?_) (by rfl) ?_
  · obtain ⟨x, t, rfl⟩ := h3 f hm
    exact PySem.W.Looks.now
  · have e : (Value.type "str" != Value.type "tuple") = true := by first | decide +kernel | rfl | decide
    rw [e]
    exact hq
theorem sorted_nam {l : Addr} {vs : List Value} {k : Value → Str} {Q : Value → Shared → Prop} (hl : s.heap.IsList l vs.toArray) (hz : vs.length ≤ sizeLine) (hp : ∀ v ∈ vs, NamAt s.heap v (k v)) (inj : ∀ v ∈ vs, ∀ u ∈ vs, k v = k u → v = u)
    (h : ∀ out : List Value, Srtd (ltN k) out → Stb (ltN k) out vs → Q (.ref (s.heap.objs.size + 1)) { s with heap := sortedAll s.heap vs out.toArray }) :
    wpAny (model prog w) A (call (.builtin "sorted") [.ref l]) Q E s := by
  refine sorted_ord (swo_nam k) hl hz (fun h2 h₁ a ha kk => ?_) h
  refine nam_sortable (s := { s with heap := h₁ }) (by omega) (fun v hm => (hp v hm).keeps fun b o e _ => (kk b o e).2) inj fun o e => ?_
  have e' : some o = some (seqObj "list" vs.toArray 0) := e.symm.trans ha
  cases e'
  intro c
  exact absurd (Value.type.inj c) (by decide)
end
theorem EntsAt.perm {H : Hp} {cs ds : List V} (p : cs.Perm ds) : ∀ {es : Ents}, EntsAt H cs es → ∃ es', es.Perm es' ∧ EntsAt H ds es' := by
  induction p with
  | nil =>
    intro es h
    exact ⟨es, List.Perm.refl _, h⟩
  | @cons x l1 l2 _ ih =>
    intro es h
    cases es with
    | nil => have := h.len; cases this
    | cons e es =>
      obtain ⟨n, v⟩ := e
      obtain ⟨c, u, r, e1, hc, hu, t⟩ := h.cons_inv
      injection e1 with e1 e2
      subst e1
      subst e2
      obtain ⟨es', p', t'⟩ := ih t
      exact ⟨_, p'.cons _, EntsAt.cons hc hu t'⟩
  | swap x y l =>
    intro es h
    cases es with
    | nil => have := h.len; cases this
    | cons e es =>
      obtain ⟨n, v⟩ := e
      obtain ⟨c, u, r, e1, hc, hu, t⟩ := h.cons_inv
      injection e1 with e1 e2
      subst e1
      subst e2
      cases es with
      | nil => have := t.len; cases this
      | cons e es =>
        obtain ⟨n2, v2⟩ := e
        obtain ⟨c2, u2, r2, e1, hc2, hu2, t2⟩ := t.cons_inv
        injection e1 with e1 e2
        subst e1
        subst e2
        exact ⟨_, List.Perm.swap _ _ _, EntsAt.cons hc2 hu2 (EntsAt.cons hc hu t2)⟩
  | trans _ _ ih1 ih2 =>
    intro es h
    obtain ⟨es1, p1, t1⟩ := ih1 h
    obtain ⟨es2, p2, t2⟩ := ih2 t1
    exact ⟨es2, p1.trans p2, t2⟩
theorem EntsAt.refs {H : Hp} : ∀ {es : Ents} {ys : List V}, EntsAt H ys es → ∃ cs : List Addr, ys = cs.map V.ref
  | [], ys, h => ⟨[], h.nil_inv⟩
  | (n, v) :: es, ys, h => by
    obtain ⟨c, u, r, rfl, _, _, t⟩ := h.cons_inv
    obtain ⟨cs, rfl⟩ := EntsAt.refs t
    exact ⟨c :: cs, rfl⟩
theorem vals_of_refs : ∀ {cs : List Addr} {its : List Value}, Vals (cs.map V.ref) its → its = cs.map Value.ref
  | [], _, .nil => rfl
  | c :: cs, _, .cons h t => by
    rw [vals_of_refs t, List.map_cons]
    cases h
    rfl
theorem inj_of_nodup {α β : Type} {f : α → β} : ∀ {l : List α}, (l.map f).Nodup → ∀ v ∈ l, ∀ u ∈ l, f v = f u → v = u
  | [], _, v, hv, _, _, _ => by simp at hv
  | x :: l, nd, v, hv, u, hu, e => by
    rw [List.map_cons, List.nodup_cons] at nd
    rcases List.mem_cons.mp hv with h1 | h1
    · rcases List.mem_cons.mp hu with h2 | h2
      · rw [h1, h2]
      · exact absurd (List.mem_map.mpr ⟨u, h2, by rw [← e, h1]⟩) nd.1
    · rcases List.mem_cons.mp hu with h2 | h2
      · exact absurd (List.mem_map.mpr ⟨v, h1, by rw [e, h2]⟩) nd.1
      · exact inj_of_nodup nd.2 v h1 u h2 e
/-- sorted(xs), entries with names apart -/
def rSortedE (K : PySem.W.Frag) : List V → Hp → VK → Prop := fun vs H Q => ∃ (a : Addr) (ys : List V) (es : Ents), vs = [V.ref a] ∧ SqL K H a ys ∧ EntsAt H ys es ∧ (es.map (·.1)).Nodup ∧
  ∀ p zs es', H p = none → EntsAt H zs es' → es'.Perm es → AscE es' → Q (.ref p) (upd H p (.lst zs))
theorem cr_sortedE {X : Cx} : CallR X (.builtin "sorted") (rSortedE X.K) := by
  intro pins s σ H vs us Q I r h
  obtain ⟨a, ys, es, rfl, hs, he, nd, q⟩ := h
  obtain ⟨its, rv, hl, hz⟩ := I.list hs
  rw [Vals.ref1 r]
  obtain ⟨cs, rfl⟩ := he.refs
  have ei := vals_of_refs rv
  subst ei
  -- the names in the heap
  have nam : ∀ {zs : List Addr} {fs : Ents}, EntsAt H (zs.map V.ref) fs → fs.map (·.1) = (zs.map Value.ref).map (nameOf s.heap) ∧ ∀ v ∈ zs.map Value.ref, NamAt s.heap v (nameOf s.heap v) := by
    intro zs
    induction zs with
    | nil =>
      intro fs h
      cases fs with
      | nil => exact ⟨rfl, fun v hv => by simp at hv⟩
      | cons e r => have := h.len; cases this
    | cons z zs ih =>
      intro fs h
      cases fs with
      | nil => have := h.len; cases this
      | cons e r =>
        obtain ⟨n, v⟩ := e
        obtain ⟨c, u, r', e1, hc, hu, t⟩ := h.cons_inv
        rw [List.map_cons] at e1
        injection e1 with e1 e2
        cases e1
        subst e2
        obtain ⟨i1, i2⟩ := ih t
        obtain ⟨_, it, rr, o, ho, hcl, m, hd⟩ := I.hok z _ hc
        have hN : NamAt s.heap (.ref z) n := by
          cases rr with
          | cons r1 rr =>
            cases rr with
            | cons r2 rr =>
              cases rr
              obtain ⟨tk, rfl⟩ := r1
              exact ⟨z, o, tk, _, m, rfl, ho, hcl, hd⟩
        have en := hN.name
        refine ⟨?_, fun v' hv' => ?_⟩
        · rw [List.map_cons, List.map_cons, List.map_cons, en, i1]
        · rcases List.mem_cons.mp hv' with e | e
          · rw [e, en]
            exact hN
          · exact i2 v' e
  obtain ⟨n1, n2⟩ := nam he
  rw [n1] at nd
  have inj := inj_of_nodup (f := nameOf s.heap) nd
  refine sorted_nam (k := nameOf s.heap) hl.isList (by rw [List.length_map] at hz ⊢; exact hz) n2 inj fun out hs1 hb => ?_
  obtain ⟨ep, he'⟩ := PyProof.Rows.sortedAll_at s.heap (cs.map Value.ref) out.toArray
  let ad : Value → Addr := fun v => match v with | .ref a => a | _ => 0
  have eo : out = (out.map ad).map Value.ref := by
    rw [List.map_map]
    have : ∀ v ∈ out, (Value.ref ∘ ad) v = v := fun v hv => by
      obtain ⟨c, _, rfl⟩ := List.mem_map.mp (hb.perm.mem_iff.mp hv)
      rfl
    conv => lhs; rw [← List.map_id out]
    exact List.map_congr_left fun v hv => (this v hv).symm
  have pd : cs.Perm (out.map ad) := by
    have q := (hb.perm.map ad).symm
    rw [List.map_map] at q
    have e : cs.map (ad ∘ Value.ref) = cs := by
      conv => rhs; rw [← List.map_id cs]
      rfl
    rw [e] at q
    exact q
  generalize out.map ad = ds at eo pd
  subst eo
  obtain ⟨es', p', t'⟩ := EntsAt.perm (pd.map V.ref) he
  obtain ⟨m1, _⟩ := nam t'
  have asc : AscE es' := by
    refine asc_of_ord ?_ ((p'.map _).nodup_iff.mp (by rw [n1]; exact nd))
    rw [m1]
    refine List.pairwise_map.mpr (List.Pairwise.imp (fun {x y} h => ?_) hs1)
    exact of_decide_eq_false h
  have hlen : (ds.map V.ref).length ≤ sizeLine := by
    rw [List.length_map] at hz ⊢
    rw [← pd.length_eq]
    exact hz
  refine ⟨.ref _, upd H (s.heap.objs.size + 1) (.lst (ds.map V.ref)), I.laid (t' := s.toks) (fun _ _ => PyProof.Rows.sortedAll_old) (Nat.le_succ _) ⟨hlen, ds.map Value.ref, ep, LiI.vals_refs ds, he'⟩, rfl, ?_⟩
  exact q _ _ es' (I.hok.fresh (Nat.le_succ _)) t' p'.symm asc
end
end Sc

namespace Sc
open PySem L2
section
variable {P : Program} {w : World} {K : PySem.W.Frag} {mg : Str → Option Value} {base : Heap} {CA CN : Addr}
/-! ### edits -/
mutual
theorem Vol.ok_up {w w' : Nat} (h : w ≤ w') : ∀ v : Vol, v.Ok w → v.Ok w'
  | .text s, k => by rw [Vol.Ok] at k ⊢; exact k
  | .table hd rs, k => by rw [Vol.Ok] at k ⊢; exact k
  | .folder es, k => by
    rw [Vol.Ok] at k ⊢
    exact ⟨Nat.le_trans k.1 h, k.2.1, ents_up h es k.2.2⟩
theorem ents_up {w w' : Nat} (h : w ≤ w') : ∀ es : List (Str × Vol), entsOk w es → entsOk w' es
  | [], _ => by rw [entsOk]; trivial
  | (n, v) :: r, k => by
    rw [entsOk] at k ⊢
    exact ⟨⟨k.1.1, Vol.ok_up h v k.1.2⟩, ents_up h r k.2⟩
end
/-- the promise's bounds -/
def VB (w d : Nat) (v : Vol) : Prop := v.Ok w ∧ v.depth ≤ d
theorem vb_folder {w d : Nat} {es : Ents} (hn : es.length ≤ w) (ha : AscE es) (h : ∀ p ∈ es, okS p.1 ∧ p.2.Ok w ∧ p.2.depth ≤ d) : VB w (d + 1) (.folder es) := by
  refine ⟨?_, ?_⟩
  · rw [Vol.Ok]
    exact ⟨hn, ha, entsOk_iff.mpr fun p hp => ⟨(h p hp).1, (h p hp).2.1⟩⟩
  · rw [Vol.depth]
    exact Nat.succ_le_succ (entsDepth_le fun p hp => (h p hp).2.2)
theorem ents_all {w : Nat} {es : Ents} (h : (Vol.folder es).Ok w) : ∀ p ∈ es, okS p.1 ∧ p.2.Ok (w + 1) ∧ p.2.depth ≤ entsDepth es := fun p hp => by
  rw [Vol.Ok] at h
  have q := entsOk_iff.mp h.2.2 p hp
  exact ⟨q.1, Vol.ok_up (Nat.le_succ _) _ q.2, depth_mem hp⟩
theorem edit_insert {w : Nat} {es es' : Ents} {n : Str} {v : Vol} (h : (Vol.folder es).Ok w) (hn : okS n) (hv : v.isF = false) (hk : v.Ok 0) (p : es'.Perm ((es.filter fun p => !decide (p.1 = n)) ++ [(n, v)])) (ha : AscE es') : VB (w + 1) (entsDepth es + 1 + 1) (.folder es') := by
  obtain ⟨k1, k2⟩ := leaf_ok (w' := w + 1) hv hk
  have a := ents_all h
  rw [Vol.Ok] at h
  refine vb_folder ?_ ha fun q hq => ?_
  · rw [p.length_eq, List.length_append]
    have := List.length_filter_le (fun p : Str × Vol => !decide (p.1 = n)) es
    show _ + 1 ≤ _
    omega
  · rcases List.mem_append.mp (p.mem_iff.mp hq) with x | x
    · obtain ⟨y1, y2, y3⟩ := a q (List.mem_filter.mp x).1
      exact ⟨y1, y2, by omega⟩
    · rw [List.mem_singleton] at x
      subst x
      exact ⟨hn, k1, by show v.depth ≤ _; omega⟩
theorem insert_nodup {es : Ents} {n : Str} {v : Vol} (h : AscE es) : (((es.filter fun p => !decide (p.1 = n)) ++ [(n, v)]).map (·.1)).Nodup := by
  rw [List.map_append]
  refine List.nodup_append.mpr ⟨asc_nodup (asc_filter _ h), List.nodup_cons.mpr ⟨by simp, List.nodup_nil⟩, fun x hx y hy e => ?_⟩
  obtain ⟨q, hq, rfl⟩ := List.mem_map.mp hx
  have z := (List.mem_filter.mp hq).2
  simp at hy
  rw [hy] at e
  simp [e] at z
theorem edit_del {w : Nat} {es : Ents} (i j : Nat) (h : (Vol.folder es).Ok w) (hij : i ≤ j) : VB (w + 1) (entsDepth es + 1 + 1) (.folder (es.take i ++ es.drop j)) := by
  have a := ents_all h
  rw [Vol.Ok] at h
  have sub : (es.take i ++ es.drop j).Sublist es := by
    conv => rhs; rw [← List.take_append_drop i es]
    refine List.Sublist.append (List.Sublist.refl _) ?_
    have e : es.drop j = (es.drop i).drop (j - i) := by rw [List.drop_drop]; congr 1; omega
    rw [e]
    exact List.drop_sublist _ _
  refine vb_folder (Nat.le_trans sub.length_le (by omega)) (h.2.1.sublist (sub.map _)) fun q hq => ?_
  obtain ⟨y1, y2, y3⟩ := a q (sub.subset hq)
  exact ⟨y1, y2, by omega⟩
theorem edit_at {w j : Nat} {es : Ents} {n : Str} {v v' : Vol} (h : (Vol.folder es).Ok w) (hj : es[j]? = some (n, v)) (hk : VB (w + 1) (v.depth + 1) v') : VB (w + 1) (entsDepth es + 1 + 1) (.folder (es.set j (n, v'))) := by
  have a := ents_all h
  have m := a (n, v) (List.mem_of_getElem? hj)
  rw [Vol.Ok] at h
  have en : (es.set j (n, v')).map (·.1) = es.map (·.1) := by
    rw [List.map_set]
    refine List.ext_getElem? fun k => ?_
    rw [List.getElem?_set]
    by_cases e : j = k
    · subst e
      rw [if_pos rfl, List.getElem?_map, hj]
      have := at_lt hj
      simp [this]
    · rw [if_neg e]
  refine vb_folder (by rw [List.length_set]; omega) (by show Asc _; rw [en]; exact h.2.1) fun q hq => ?_
  rcases List.mem_or_eq_of_mem_set hq with x | x
  · obtain ⟨y1, y2, y3⟩ := a q x
    exact ⟨y1, y2, by omega⟩
  · subst x
    refine ⟨m.1, hk.1, ?_⟩
    have := m.2.2
    have := hk.2
    show v'.depth ≤ _
    have e : (n, v).2.depth = v.depth := rfl
    omega
theorem ixN_of {n j : Nat} (hj : j < n) : ixN n (j : Int) = some j := by
  unfold ixN
  rw [if_pos (by omega), if_pos (by omega)]
  simp
theorem cut_drop (l : List V) (k : Nat) (h : k ≤ l.length) : cutV l (some (k : Int)) none = l.drop k := by
  unfold cutV
  rw [HT.sIx_none, HT.sIx_nat, Nat.min_eq_left h]
  rw [List.take_of_length_le (by rw [List.length_drop]; omega)]
theorem EntsAt.set {H : Hp} {c : Addr} {u : V} {n : Str} {v : Vol} (hc : H c = some (.tup [.str n, u])) (hu : VolAt H u v) : ∀ {ys : List V} {es : Ents} (j : Nat), EntsAt H ys es → EntsAt H (ys.set j (.ref c)) (es.set j (n, v))
  | ys, [], j, h => by
    rw [h.nil_inv]
    exact EntsAt.nil
  | ys, (m, x) :: es, 0, h => by
    obtain ⟨c', u', r, rfl, h1, h2, t⟩ := h.cons_inv
    exact EntsAt.cons hc hu t
  | ys, (m, x) :: es, j + 1, h => by
    obtain ⟨c', u', r, rfl, h1, h2, t⟩ := h.cons_inv
    exact EntsAt.cons h1 h2 (EntsAt.set hc hu j t)
def spEdit (n : Nat) : Sp := fun vs H Q _ => ∃ (u : V) (v : Vol) (c : Int) (k W : Nat), vs = [u, .int c, .int k] ∧ VolAt H u v ∧ v.Ok W ∧ W ≤ 100000 ∧ k < n ∧ ∀ (r : V) (H' : Hp) (v' : Vol), Same H H' → VolAt H' r v' → VB (W + 1) (v.depth + 1) v' → Q r H'
abbrev nEdit : List Str := ["_law_volume_here", "_law_cell_here", "_law_steps", "_law_entries", "_law_kind", "_law_name", "_law_at", "_law_entry"]
theorem scEdit : FnScope nEdit ["_law_volume_here", "_law_cell_here", "_law_steps"] (defScope sLEdit) := ⟨rfl, rfl, rfl, by decide +kernel, rfl, by decide +kernel, by decide +kernel⟩
theorem edit_rec {f g1 g2 g3 g4 g5 g6 : Addr} {fd gd1 gd2 gd3 gd4 gd5 gd6 : FuncData} {n : Nat} (T : Txt K mg CA CN) (D : DLEdit K mg f fd) (D1 : DLMix K mg g1 gd1) (D2 : DLRow K mg g2 gd2) (D3 : DLChars K mg g3 gd3) (D4 : DLText K mg g4 gd4)
    (D5 : DLLeaf K mg g5 gd5) (D6 : DLNames K mg g6 gd6) (G : FnOk P w K mg base CX0 (n + 4) f fd ["_law_volume_here", "_law_cell_here", "_law_steps"] (spEdit n)) : FnOk P w K mg base CX0 (n + 1 + 4) f fd ["_law_volume_here", "_law_cell_here", "_law_steps"] (spEdit (n + 1)) := by
  have GL := ok_leaf (P := P) (w := w) (base := base) T D5 D1 D2 D3 D4
  have GN := ok_names (P := P) (w := w) (base := base) T D6 D1
  have GM := ok_mix (P := P) (w := w) (base := base) T D1
  refine FnOk.mono (j := (n + 4) + 1) ?_ (by omega)
  refine D.F.ok scEdit (fun vs H Q E h => ?_) (fun cdv A outer s H vs Q E hr h => ?_)
  · obtain ⟨u, v, c, k, W, rfl, _⟩ := h
    rfl
  obtain ⟨u, v, c, k, W, rfl, hv, ok, hW, kn, q⟩ := h
  have hr1 : Room 1 _ := hr.mono (by omega)
  have hr2 : Room 2 _ := hr.mono (by omega)
  have hr4 : Room 4 _ := hr.mono (by omega)
  refine ⟨_, pss_cons (ps_if (PW.pt (pw_or (pt_cmpR op_ne (pe_ix ix_tup (pv 0) pe_int (fun _ _ => rfl)) pe_str (nomark _)) (pw_or1 (pt_cmpR op_eq (pv 2) pe_int (nomark _)))))
      (pss_one (ps_ret (pe_call GL hr4 rfl D5.m D5.F.kp D5.b .nil pass0 (pa_cons (pe_op op_fdiv (pv 1) pe_int) pa_nil)))) pss_nil)
    (pss_cons (ps_set (i := 3) scEdit.nd rfl (.inl rfl) (pe_callTy call_list_of (by rfl) T.mList (by decide +kernel) (pa_cons (pe_ix ix_tup (pv 0) pe_int (fun _ _ => rfl)) pa_nil)))
    (pss_cons (ps_set (i := 4) scEdit.nd rfl (.inl rfl) (pe_op op_mod (pv 1) pe_int))
    (pss_cons (ps_if (PW.pt (pw_or (pt_cmpR op_eq (pv 4) pe_int (nomark _)) (pw_or1 (pt_cmpR op_eq (pe_callB call_len_seq (by rfl) T.mLen PySem.boot_len (pa_cons (pv 3) pa_nil)) pe_int (nomark _)))))
      (pss_cons (ps_set (i := 5) scEdit.nd rfl (.inr rfl) (pe_ix ix_list (pe_call GN hr2 rfl D6.m D6.F.kp D6.b .nil pass0 (pa_cons (pv 1) (pa_cons pe_int pa_nil))) pe_int (fun _ _ => rfl)))
      (pss_cons (ps_set (i := 3) scEdit.nd rfl (.inl rfl) (pe_op op_cat
          (pe_lc (own := [("_law_entry", 7)]) (g := gName 7) rfl scEdit.nd (pi_list (pv 3)) (blkOk_by (N := nEdit) (sc := defScope sLEdit) (by decide +kernel))
            (fun _ _ _ _ _ => pg_name (i := 7) scEdit.nd rfl (Or.inl rfl)) (fun _ _ _ _ _ => pts_one (pt_cmpR op_ne (pe_ix (r := rIxT K) ix_tup (pv 7) pe_int (fun _ _ => rfl)) (pv 5) (nomark _))) (fun _ _ _ _ _ => pv 7))
          (pe_lst (pa_cons (pe_tup (pa_cons (pv 5) (pa_cons (pe_call GL hr4 rfl D5.m D5.F.kp D5.b .nil pass0 (pa_cons (pe_op op_fdiv (pv 1) pe_int) pa_nil)) pa_nil))) pa_nil))))
      (pss_one (ps_ret (pe_tup (pa_cons pe_str (pa_cons (pe_callTy call_tuple_of (by rfl) T.mTuple (by decide +kernel) (pa_cons (pe_callB cr_sortedE (by rfl) T.mSorted (by decide +kernel) (pa_cons (pv 3) pa_nil)) pa_nil)) pa_nil)))))))
      pss_nil)
    (pss_cons (ps_set (i := 6) scEdit.nd rfl (.inl rfl) (pe_op op_mod (pe_call GM hr1 rfl D1.m D1.F.kp D1.b .nil pass0 (pa_cons (pv 1) (pa_cons (pv 2) pa_nil))) (pe_callB call_len_seq (by rfl) T.mLen PySem.boot_len (pa_cons (pv 3) pa_nil))))
    (pss_cons (ps_if (pt_cmpR op_eq (pv 4) pe_int (nomark _))
      (pss_one (ps_ret (pe_tup (pa_cons pe_str (pa_cons (pe_callTy call_tuple_of (by rfl) T.mTuple (by decide +kernel) (pa_cons (pe_op op_cat (pe_slice sl_list (pv 3) po_none (po_some (pv 6))) (pe_slice sl_list (pv 3) (po_some (pe_op op_add (pv 6) pe_int)) po_none)) pa_nil)) pa_nil)))))
      pss_nil)
    (pss_cons (ps_asg (pe_tup (pa_cons (pe_ix ix_tup (pe_ix ix_list (pv 3) (pv 6) (fun _ _ => rfl)) pe_int (fun _ _ => rfl)) (pa_cons (pe_call G hr rfl D.m D.F.kp D.b .nil pass0
        (pa_cons (pe_ix ix_tup (pe_ix ix_list (pv 3) (pv 6) (fun _ _ => rfl)) pe_int (fun _ _ => rfl)) (pa_cons (pe_op op_fdiv (pv 1) pe_int) (pa_cons (pe_op op_sub (pv 2) pe_int) pa_nil)))) pa_nil))) (pg_sub (pv 3) (pv 6) set_list))
    (pss_one (ps_ret (pe_tup (pa_cons pe_str (pa_cons (pe_callTy call_tuple_of (by rfl) T.mTuple (by decide +kernel) (pa_cons (pv 3) pa_nil)) pa_nil))))))))))), ?_⟩
  have leafR : ∀ (H1 : Hp) (r : V) (H2 : Hp) (v' : Vol), Same H H1 → Same H1 H2 → VolAt H2 r v' → v'.isF = false → v'.Ok 0 → Q r H2 := fun H1 r H2 v' s1 s2 hr hf hk => by
    obtain ⟨k1, k2⟩ := leaf_ok (w' := W + 1) hf hk
    exact q r H2 v' (s1.trans s2) hr ⟨k1, by omega⟩
  obtain ⟨a, xs, rfl, ha⟩ := hv.head
  refine ⟨_, rfl, a, _, 0, _, rfl, rfl, SqT.of ha, at0 _ _, rfl, _, rfl, ?_⟩
  rw [kind_dec]
  refine or_ite (fun Q h => ⟨_, rfl, rfl, _, rfl, h⟩) ?_
  refine ite2 (fun _ => ?_) (fun c1 => ?_)
  · exact ⟨_, rfl, _, _, rfl, rfl, ⟨by decide, by decide⟩, _, rfl, fun r H2 v' s2 hr hf hk => leafR H r H2 v' (Same.refl _) s2 hr hf hk⟩
  have c1' : v.isF = true ∧ k ≠ 0 := by
    refine ⟨?_, fun z => c1 ?_⟩
    · cases e : v.isF with
      | true => rfl
      | false => exact absurd (by rw [e]; rfl) c1
    · subst z
      simp
  obtain ⟨es, rfl⟩ : ∃ es, v = .folder es := by
    cases v with
    | folder es => exact ⟨es, rfl⟩
    | text s => cases c1'.1
    | table hd rs => cases c1'.1
  obtain ⟨a', e, ys, ea, ha', he, te⟩ := hv.folder_inv
  cases ea
  have okF := ok
  rw [Vol.Ok] at ok
  rw [Vol.depth] at q
  have tl := te.len
  refine ⟨_, rfl, a, _, 1, _, rfl, rfl, SqT.of ha', at1 _ _ _, e, ys, rfl, .inr (SqT.of he), fun l nl => ?_⟩
  have s1 := same_new nl (.lst ys)
  refine ⟨_, rfl, _, _, rfl, rfl, (show (0 : Int) < 4 by decide), ?_⟩
  refine ⟨_, rfl, rfl, _, rfl, ?_⟩
  refine or_ite (fun Q h => ⟨_, rfl, l, ys, rfl, .inl (SqL.of upd_same), rfl, _, rfl, h⟩) ?_
  refine ite2 (fun _ => ?_) (fun c2 => ?_)
  · -- a new entry
    refine ⟨_, rfl, c, 1, rfl, by decide, by decide, fun l2 ns H2 s2 hl2 _ _ hno hne => ?_⟩
    obtain ⟨nm, nr, rfl⟩ : ∃ nm nr, ns = nm :: nr := by
      cases ns with
      | nil => exact absurd rfl (hne (by decide))
      | cons x r => exact ⟨x, r, rfl⟩
    have onm := hno nm List.mem_cons_self
    refine ⟨l2, _, 0, _, rfl, rfl, SqL.of hl2, at0 _ _, ?_⟩
    have s12 := s1.trans s2
    refine ⟨_, rfl, l, rfl, ⟨_, SqL.of (s2 _ _ upd_same)⟩, fun B hB => lc_list (K := K) (a := l) (xs := ys)
      (fun i H' => ∃ L, H' B = some (.lst L) ∧ EntsAt H' L ((es.take i).filter fun p => !decide (p.1 = nm)) ∧ L.length ≤ i ∧ Same H2 H') ⟨[], upd_same, EntsAt.nil, Nat.le_refl _, same_new hB _⟩ (fun i H' _ ⟨L, _, _, _, s3⟩ => SqL.of (s3 _ _ (s2 _ _ upd_same))) ?_ ?_⟩
    · rintro i y H' hy ⟨L, hL, hE, hl', s3⟩
      obtain ⟨m, v', c', u', g1, rfl, g2, g3⟩ := te.get hy
      have fs := filter_step (f := fun p => !decide (p.1 = nm)) g1
      have s13 := s12.trans s3
      refine ⟨rfl, ⟨_, rfl, c', _, 0, _, rfl, rfl, SqT.of (s13 _ _ g2), at0 _ _, _, rfl, rfl, _, rfl, ?_⟩⟩
      refine ite2 (fun c1 => ?_) (fun c1 => ?_)
      · have c2 : m ≠ nm := fun z => by subst z; simp at c1
        rw [if_pos (show (!decide (m = nm)) = true by simp [c2])] at fs
        have hw : TS H' (upd H' B (.lst (L ++ [.ref c']))) := ts_lst hL
        refine ⟨_, rfl, L, hL, small (by have := at_lt hy; omega), _, upd_same, ?_, by rw [List.length_append]; exact Nat.succ_le_succ hl', fun b o z => by rw [upd_ne (ne_of_none z hB)]; exact s3 b o z⟩
        rw [fs]
        exact EntsAt.app (TpAll.mono hw hE) (EntsAt.cons (hw _ _ (s13 _ _ g2)) (Tp.mono hw (Tp.mono (ts_of s13) g3)) EntsAt.nil)
      · have c2 : m = nm := by
          by_cases z : m = nm
          · exact z
          · exact absurd (by simp [z]) c1
        rw [if_neg (show ¬ (!decide (m = nm)) = true by simp [c2])] at fs
        refine ⟨L, hL, ?_, Nat.le_succ_of_le hl', s3⟩
        rw [fs]
        exact hE
    rintro H3 ⟨L, hL, hE, hl', s3⟩
    rw [tl, List.take_length] at hE
    have s13 := s12.trans s3
    refine ⟨_, rfl, _, rfl, _, _, rfl, rfl, ⟨by decide, by decide⟩, _, rfl, fun r H4 v' s4 hr' hf hk => ⟨sz2 _ _, fun t nt => ⟨sz1 _, fun b nb => ?_⟩⟩⟩
    have s5 := (same_new nt (.tup [.str nm, r])).trans (same_new nb (.lst [.ref t]))
    refine ⟨B, b, L, [.ref t], rfl, rfl, s5 _ _ (s4 _ _ hL), upd_same, small' (by show L.length + 1 ≤ _; omega), fun p np => ?_⟩
    have s6 := s5.trans (same_new np (.lst (L ++ [.ref t])))
    have s46 := s4.trans s6
    have htp : upd (upd (upd H4 t (.tup [.str nm, r])) b (.lst [.ref t])) p (.lst (L ++ [.ref t])) t = some (.tup [.str nm, r]) := same_new np _ _ _ (same_new nb _ _ _ upd_same)
    refine ⟨_, rfl, p, _, _, rfl, SqL.of upd_same, EntsAt.app (TpAll.mono (ts_of s46) hE) (EntsAt.cons htp (Tp.mono (ts_of s6) hr') EntsAt.nil), insert_nodup ok.2.1, fun p2 zs es' np2 he' pm asc => ?_⟩
    refine ⟨p2, zs, rfl, .inl ⟨SqL.of upd_same, fun t5 n5 => ⟨sz2 _ _, fun t6 n6 => ?_⟩⟩⟩
    have s7 := (same_new np2 (.lst zs)).trans ((same_new n5 (.tup zs)).trans (same_new n6 (.tup [.str "folder", .ref t5])))
    refine q _ _ (.folder es') (s13.trans (s46.trans s7)) (VolAt.folder upd_same (same_new n6 _ _ _ upd_same) (TpAll.mono (ts_of s7) he')) (edit_insert okF onm hf hk pm asc)
  have c3 : ys.length ≠ 0 := fun z => c2 (by rw [z]; simp)
  refine ⟨_, rfl, _, rfl, c, k, rfl, fun z _ => ?_⟩
  have lp : (0 : Int) < ((ys.length : Nat) : Int) := by omega
  have e0 := Int.emod_nonneg z (show ((ys.length : Nat) : Int) ≠ 0 by omega)
  have e1 := Int.emod_lt_of_pos z lp
  obtain ⟨j, hj⟩ := Int.eq_ofNat_of_zero_le e0
  have jl : j < ys.length := by omega
  refine ⟨_, rfl, l, ys, rfl, .inl (SqL.of upd_same), _, _, rfl, rfl, lp, ?_⟩
  refine ⟨_, rfl, rfl, _, rfl, ?_⟩
  refine ite2 (fun _ => ?_) (fun _ => ?_)
  · -- one taken away
    refine ⟨_, rfl, _, rfl, _, rfl, l, ys, rfl, SqL.of upd_same, fun p np => ?_⟩
    have s2 := same_new np (.lst (cutV ys none (some (z % ((ys.length : Nat) : Int)))))
    refine ⟨_, rfl, _, rfl, _, _, rfl, rfl, _, rfl, l, ys, rfl, SqL.of (s2 _ _ upd_same), fun p2 np2 => ?_⟩
    have s3 := same_new np2 (.lst (cutV ys (some (z % ((ys.length : Nat) : Int) + 1)) none))
    have lA := cutV_length ys none (some (z % ((ys.length : Nat) : Int)))
    have lB := cutV_length ys (some (z % ((ys.length : Nat) : Int) + 1)) none
    refine ⟨p, p2, _, _, rfl, rfl, s3 _ _ upd_same, upd_same, small' (by omega), fun p3 np3 => ?_⟩
    refine ⟨p3, _, rfl, .inl ⟨SqL.of upd_same, fun t5 n5 => ⟨sz2 _ _, fun t6 n6 => ?_⟩⟩⟩
    have cA : cutV ys none (some (z % ((ys.length : Nat) : Int))) = ys.take j := by rw [hj, cut_take]
    have cB : cutV ys (some (z % ((ys.length : Nat) : Int) + 1)) none = ys.drop (j + 1) := by
      rw [hj]
      exact cut_drop ys (j + 1) jl
    have s4 := s1.trans (s2.trans (s3.trans (same_new np3 (.lst (cutV ys none (some (z % ((ys.length : Nat) : Int))) ++ cutV ys (some (z % ((ys.length : Nat) : Int) + 1)) none)))))
    have s7 := s4.trans ((same_new n5 (.tup (cutV ys none (some (z % ((ys.length : Nat) : Int))) ++ cutV ys (some (z % ((ys.length : Nat) : Int) + 1)) none))).trans (same_new n6 (.tup [.str "folder", .ref t5])))
    refine q _ _ (.folder (es.take j ++ es.drop (j + 1))) s7 (VolAt.folder upd_same (same_new n6 _ _ _ upd_same) ?_) (edit_del j (j + 1) okF (Nat.le_succ j))
    rw [cA, cB] at s7 ⊢
    have te' := TpAll.mono (ts_of s7) te
    exact EntsAt.app (EntsAt.take j te') (EntsAt.drop (j + 1) te')
  · -- one edited
    have hy : ys[j]? = some ys[j] := List.getElem?_eq_getElem jl
    generalize ys[j] = y at hy
    obtain ⟨m, v', c', u', g1, rfl, g2, g3⟩ := te.get hy
    have atY : atI ys (z % ((ys.length : Nat) : Int)) = some (.ref c') := by rw [hj]; exact atI_nat hy
    have om := entsOk_iff.mp ok.2.2 (m, v') (List.mem_of_getElem? g1)
    refine ⟨_, rfl, _, rfl, l, ys, _, _, rfl, rfl, SqL.of upd_same, atY, c', _, 0, _, rfl, rfl, SqT.of (s1 _ _ g2), at0 _ _, ?_⟩
    refine ⟨_, rfl, _, rfl, l, ys, _, _, rfl, rfl, SqL.of upd_same, atY, c', _, 1, _, rfl, rfl, SqT.of (s1 _ _ g2), at1 _ _ _, ?_⟩
    refine ⟨_, rfl, _, _, rfl, rfl, ⟨by decide, by decide⟩, _, rfl, _, _, rfl, rfl, ?_⟩
    refine ⟨u', v', c / 4, k - 1, W, ?_, Tp.mono (ts_of s1) g3, om.2, hW, by omega, fun r H2 v2 s2 hr' hb => ⟨sz2 _ _, fun t nt => ?_⟩⟩
    · show [u', V.int (c / 4), V.int ((k : Int) - 1)] = [u', V.int (c / 4), V.int ((k - 1 : Nat) : Int)]
      rw [show ((k : Int) - 1) = ((k - 1 : Nat) : Int) by omega]
    have s3 := same_new nt (.tup [.str m, r])
    have s23 := s2.trans s3
    refine ⟨_, rfl, _, rfl, l, ys, _, j, rfl, rfl, s23 _ _ upd_same, by rw [hj]; exact ixN_of jl, ?_⟩
    have tw : TS (upd H2 t (.tup [.str m, r])) (upd (upd H2 t (.tup [.str m, r])) l (.lst (ys.set j (.ref t)))) := ts_lst (s23 _ _ upd_same)
    refine ⟨_, rfl, l, _, rfl, .inl ⟨SqL.of upd_same, fun t5 n5 => ⟨sz2 _ _, fun t6 n6 => ?_⟩⟩⟩
    have s5 := (same_new n5 (.tup (ys.set j (.ref t)))).trans (same_new n6 (.tup [.str "folder", .ref t5]))
    have sw : Same H (upd (upd H2 t (.tup [.str m, r])) l (.lst (ys.set j (.ref t)))) := fun b o hb' => by rw [upd_ne (ne_of_none hb' nl)]; exact s23 _ _ (s1 _ _ hb')
    refine q _ _ (.folder (es.set j (m, v2))) (sw.trans s5) (VolAt.folder upd_same (same_new n6 _ _ _ upd_same) ?_) (edit_at okF g1 hb)
    exact TpAll.mono (ts_of s5) (EntsAt.set (tw _ _ upd_same) (Tp.mono (s3 |> ts_of |>.trans tw) hr') j (TpAll.mono ((ts_of s1).trans ((ts_of s23).trans tw)) te))
theorem ok_edit {f g1 g2 g3 g4 g5 g6 : Addr} {fd gd1 gd2 gd3 gd4 gd5 gd6 : FuncData} (T : Txt K mg CA CN) (D : DLEdit K mg f fd) (D1 : DLMix K mg g1 gd1) (D2 : DLRow K mg g2 gd2) (D3 : DLChars K mg g3 gd3) (D4 : DLText K mg g4 gd4)
    (D5 : DLLeaf K mg g5 gd5) (D6 : DLNames K mg g6 gd6) : ∀ n : Nat, FnOk P w K mg base CX0 (n + 4) f fd ["_law_volume_here", "_law_cell_here", "_law_steps"] (spEdit n)
  | 0 => FnOk.mono (j := 0) (no_calls (sp := spEdit 0) fun vs H Q E h => by
    obtain ⟨u, v, c, k, W, _, _, _, _, d, _⟩ := h
    omega) (by omega)
  | n + 1 => edit_rec T D D1 D2 D3 D4 D5 D6 (ok_edit T D D1 D2 D3 D4 D5 D6 n)
end
end Sc

namespace Sc
open PySem L2
section
variable {P : Program} {w : World} {K : PySem.W.Frag} {mg : Str → Option Value} {base : Heap} {CA CN : Addr}
/-! ### the law's own compare -/
theorem shaped_row {l : List Str} (h : ∀ x ∈ l, okS x) : SeqAt.shaped (rowD l) = true := by
  have h1 : ∀ l : List Str, PyData.depthAll (l.map .str) = 0 := fun l => by
    induction l with
    | nil => simp [PyData.depthAll]
    | cons x r ih => simp [PyData.depthAll, PyData.depth, ih]
  have h2 : (rowD l).canLay0 = true := by rw [rowD, PyData.canLay0]; exact lay_row h
  have h3 : (rowD l).depth ≤ 64 := by rw [rowD, PyData.depth, h1]; omega
  unfold SeqAt.shaped
  rw [h2, decide_eq_true (by omega)]
  rfl
/-- the path of a change, its second item -/
theorem chg_path {H : Hp} {x : V} {c : Chg} (h : ChgAt H x c) : ∃ t k q r, x = .ref t ∧ H t = some (.tup (k :: q :: r)) ∧ PathAt H q c.path := by
  rcases chg_view h with ⟨p, t, q, rfl, h1, h2, h3⟩ | ⟨v, s, t, q, z, _, _, h1, h2, h3, _⟩
  · exact ⟨t, _, q, [], h1, h2, h3⟩
  · exact ⟨t, _, q, [z], h1, h2, h3⟩
theorem look_before {es : Ents} {i : Nat} {m : Str} {v : Vol} (ha : AscE es) (h : es[i]? = some (m, v)) : look (es.take i) m = none := by
  refine look_none.mpr fun hm => ?_
  have e : es = es.take i ++ (m, v) :: es.drop (i + 1) := by rw [← drop_at h, List.take_append_drop]
  have q := ascE_iff.mp ha
  rw [e] at q
  obtain ⟨p, hp, rfl⟩ := List.mem_map.mp hm
  exact nlt_irrefl p.1 ((List.pairwise_append.mp q).2.2 p hp (p.1, v) List.mem_cons_self)
/-- the one child of a name -/
def KidAt (H : Hp) (L : List V) (o : Option Vol) : Prop := match o with
  | none => L = []
  | some v => ∃ u, L = [u] ∧ VolAt H u v
theorem KidAt.mono {H H' : Hp} {L : List V} {o : Option Vol} (s : TS H H') (h : KidAt H L o) : KidAt H' L o := by
  cases o with
  | none => exact h
  | some v => obtain ⟨u, e, hu⟩ := h; exact ⟨u, e, Tp.mono s hu⟩
theorem KidAt.len {H : Hp} {L : List V} {o : Option Vol} (h : KidAt H L o) : L.length ≤ 1 := by
  cases o with
  | none => have e : L = [] := h; rw [e]; exact Nat.zero_le _
  | some v => obtain ⟨u, e, hu⟩ := h; rw [e]; exact Nat.le_refl _
theorem kid_hit {H : Hp} {L : List V} {es : Ents} {i : Nat} {m : Str} {v : Vol} {u : V} (ha : AscE es) (h : es[i]? = some (m, v)) (hu : VolAt H u v) (k : KidAt H L (look (es.take i) m)) : KidAt H (L ++ [u]) (look (es.take (i + 1)) m) := by
  rw [look_before ha h] at k
  have e : L = [] := k
  rw [look_step h (look_before ha h), if_pos rfl, e]
  exact ⟨u, rfl, hu⟩
theorem kid_miss {H : Hp} {L : List V} {es : Ents} {i : Nat} {k m : Str} {v : Vol} (h : es[i]? = some (k, v)) (hk : k ≠ m) (q : KidAt H L (look (es.take i) m)) : KidAt H L (look (es.take (i + 1)) m) := by
  have e : es.take (i + 1) = es.take i ++ [(k, v)] := take_at h
  rw [e, look_app]
  have : look [(k, v)] m = none := by rw [look_tail hk, look]
  rw [this, Option.or_none]
  exact q
theorem lstep_names {n : Nat} {as bs : Ents} {fd : List Chg} {m : Str} (hm : okS m) (h : ∀ c ∈ fd, ∃ k r, c.path = k :: r ∧ okS k) : ∀ c ∈ lstep (diff n) as bs fd m, ∃ k r, c.path = k :: r ∧ okS k := by
  intro c hc
  cases h2 : look bs m with
  | none =>
    rw [lstep_removed h2] at hc
    rcases List.mem_append.mp hc with q | q
    · exact h c q
    · rw [List.mem_singleton] at q
      subst q
      exact ⟨m, [], rfl, hm⟩
  | some v =>
    cases h1 : look as m with
    | none =>
      rw [lstep_added h1 h2] at hc
      rcases List.mem_append.mp hc with q | q
      · exact h c q
      · rw [List.mem_singleton] at q
        subst q
        exact ⟨m, [], rfl, hm⟩
    | some u =>
      rw [lstep_both h1 h2] at hc
      split at hc
      · exact h c hc
      · rcases List.mem_append.mp hc with q | q
        · exact h c q
        · obtain ⟨d, _, rfl⟩ := List.mem_map.mp q
          exact ⟨m, d.path, under_path _ _, hm⟩
/-- the law's list after i names -/
def lfd (n : Nat) (as bs : Ents) (i : Nat) : List Chg := ((isort (names as ++ names bs)).take i).foldl (lstep (diff n) as bs) []
theorem lfd_zero (n : Nat) (as bs : Ents) : lfd n as bs 0 = [] := by unfold lfd; rw [List.take_zero, List.foldl_nil]
theorem lfd_succ {n : Nat} {as bs : Ents} {i : Nat} {m : Str} (h : (isort (names as ++ names bs))[i]? = some m) : lfd n as bs (i + 1) = lstep (diff n) as bs (lfd n as bs i) m := by
  unfold lfd
  rw [take_at h, List.foldl_append, List.foldl_cons, List.foldl_nil]
theorem lfd_all {n : Nat} {as bs : Ents} (ha : AscE as) (hb : AscE bs) {i : Nat} (hi : i = (isort (names as ++ names bs)).length) : lfd n as bs i = (union as bs).flatMap (grp (diff n) as bs) := by
  unfold lfd
  rw [hi, List.take_length, law_list ha hb]
theorem lfd_le {n : Nat} {as bs : Ents} (ha : AscE as) (hb : AscE bs) (i : Nat) : (lfd n as bs i).length ≤ ((union as bs).flatMap (grp (diff n) as bs)).length := by
  rw [← law_list ha hb]
  conv => rhs; rw [← List.take_append_drop i (isort (names as ++ names bs)), List.foldl_append]
  exact lfold_more _ _ _ _ _
theorem isort_ok {as bs : Ents} (ha : ∀ p ∈ as, okS p.1) (hb : ∀ p ∈ bs, okS p.1) : ∀ m ∈ isort (names as ++ names bs), okS m := fun m hm => by
  rcases List.mem_append.mp ((isort_perm _).mem_iff.mp hm) with q | q
  · obtain ⟨p, hp, rfl⟩ := List.mem_map.mp q
    exact ha p hp
  · obtain ⟨p, hp, rfl⟩ := List.mem_map.mp q
    exact hb p hp
theorem lfd_names {n : Nat} {as bs : Ents} (ho : ∀ m ∈ isort (names as ++ names bs), okS m) : ∀ i, ∀ c ∈ lfd n as bs i, ∃ k r, c.path = k :: r ∧ okS k
  | 0, c, hc => by rw [lfd_zero] at hc; simp at hc
  | i + 1, c, hc => by
    cases e : (isort (names as ++ names bs))[i]? with
    | none =>
      have : lfd n as bs (i + 1) = lfd n as bs i := by
        unfold lfd
        rw [List.take_add_one, e]
        simp
      rw [this] at hc
      exact lfd_names ho i c hc
    | some m =>
      rw [lfd_succ e] at hc
      exact lstep_names (ho m (List.mem_of_getElem? e)) (lfd_names ho i) c hc
/-- t[:k] of a tuple of texts -/
theorem slA_take {K : PySem.W.Frag} {a : Addr} {l : List Str} {k : Nat} {z : Int} {H : Hp} {Q : VK} (ha : H a = some (.tup (l.map V.str))) (hz : z = (k : Int)) (q : ∀ p H', Same H H' → H' p = some (.tup ((l.take k).map V.str)) → Q (.ref p) H') : rSlA K (.ref a) none (some z) H Q := by
  subst hz
  refine ⟨a, _, rfl, SqT.of ha, fun w => ?_, fun _ p np => ?_⟩
  · refine q a H (Same.refl _) ?_
    have w2 := w.2
    rw [HT.sIx_nat, List.length_map] at w2
    rw [List.take_of_length_le (by omega)]
    exact ha
  · refine q p _ (same_new np _) ?_
    rw [upd_same, cut_take, List.map_take]
def LSt (n : Nat) (as bs : Ents) (p : Path) (a1 b1 q0 S : Addr) (H : Hp) (i : Nat) (σ : L2.St) (H' : Hp) : Prop := ∃ (o1 o2 o3 : Option V) (l : Addr) (ys : List V), σ = [some (.ref a1), some (.ref b1), some (.ref q0), some (.ref l), o1, o2, o3, none, none, none] ∧
  Same H H' ∧ H l = none ∧ H' l = some (.lst ys) ∧ TpAll H' ys (under p (lfd n as bs i)) ∧ l ≠ S ∧ H' S = some (.lst ((isort (names as ++ names bs)).map V.str))
theorem LSt.put {n : Nat} {as bs : Ents} {p : Path} {a1 b1 q0 S l t : Addr} {H H' Ht : Hp} {i : Nat} {ys ts : List V} {c : Chg} (s1 : Same H H') (nl : H l = none) (hl : H' l = some (.lst ys)) (ht : TpAll H' ys (under p (lfd n as bs i))) (nS : l ≠ S) (hS : H' S = some (.lst ((isort (names as ++ names bs)).map V.str)))
    (s2 : Same H' Ht) (nt : Ht t = none) (hc : Tp (upd Ht t (.tup ts)) (.ref t) (c.under p).data) (e : lfd n as bs (i + 1) = lfd n as bs i ++ [c]) (o1 o2 o3 : Option V) :
    LSt n as bs p a1 b1 q0 S H (i + 1) [some (.ref a1), some (.ref b1), some (.ref q0), some (.ref l), o1, o2, o3, none, none, none] (upd (upd Ht t (.tup ts)) l (.lst (ys ++ [.ref t]))) := by
  have s3 : Same H' (upd Ht t (.tup ts)) := s2.trans (same_new nt _)
  have t3 : TS (upd Ht t (.tup ts)) (upd (upd Ht t (.tup ts)) l (.lst (ys ++ [.ref t]))) := ts_lst (s3 _ _ hl)
  refine ⟨o1, o2, o3, l, _, rfl, fun b o z => by rw [upd_ne (ne_of_none z nl)]; exact s3 _ _ (s1 b o z), nl, upd_same, ?_, nS, by rw [upd_ne nS.symm]; exact s3 _ _ hS⟩
  rw [e, under_app]
  exact TpAll.app (TpAll.mono ((ts_of s3).trans t3) ht) (.cons (Tp.mono t3 hc) .nil)
def spLCompare (n : Nat) : Sp := fun vs H Q _ => ∃ (u v q : V) (a b : Vol) (p : Path) (W : Nat), vs = [u, v, q] ∧ VolAt H u a ∧ VolAt H v b ∧ PathAt H q p ∧
  a.depth ≤ n ∧ n ≤ 20 ∧ b.depth ≤ 20 ∧ a.Ok W ∧ b.Ok W ∧ W ≤ 100000 ∧ p.length + n ≤ 1000 ∧ (∀ x ∈ p, okS x) ∧ (diff n a b).length ≤ 100000 ∧
  ∀ l ys H', Same H H' → H' l = some (.lst ys) → TpAll H' ys (under p (diff n a b)) → Q (.ref l) H'
abbrev nLCmp : List Str := ["_law_first", "_law_second", "_law_path", "_law_found", "_law_name", "_law_before", "_law_after", "_law_entry", "_law_other", "_law_child"]
theorem scLCmp : FnScope nLCmp ["_law_first", "_law_second", "_law_path"] (defScope sLCompare) := ⟨rfl, rfl, rfl, by decide +kernel, rfl, by decide +kernel, by decide +kernel⟩
theorem lcmp_rec {f : Addr} {fd : FuncData} {n : Nat} (T : Txt K mg CA CN) (D : DLCompare K mg f fd) (G : FnOk P w K mg base CX0 n f fd ["_law_first", "_law_second", "_law_path"] (spLCompare n)) :
    FnOk P w K mg base CX0 (n + 1) f fd ["_law_first", "_law_second", "_law_path"] (spLCompare (n + 1)) := by
  refine D.F.ok scLCmp (fun vs H Q E h => ?_) (fun cdv A outer s H vs Q E hr h => ?_)
  · obtain ⟨u, v, q, a, b, p, W, rfl, _⟩ := h
    rfl
  obtain ⟨u, v, q, a, b, p, W, rfl, hu, hv, hq, da, n20, db, oa, ob, hW, lp, hp, hlen, k⟩ := h
  refine ⟨_, pss_cons (ps_if (pt_cmpR (op_eqD hr.units) (pv 0) (pv 1) (nomark _)) (pss_one (ps_ret (pe_lst pa_nil))) pss_nil)
    (pss_cons (ps_if (PW.pt (pw_or (pt_cmpR op_ne (pe_ix ix_tup (pv 0) pe_int (fun _ _ => rfl)) pe_str (nomark _)) (pw_or1 (pt_cmpR op_ne (pe_ix ix_tup (pv 1) pe_int (fun _ _ => rfl)) pe_str (nomark _)))))
      (pss_one (ps_ret (pe_lst (pa_cons (pe_tup (pa_cons pe_str (pa_cons (pv 2) (pa_cons (pv 1) pa_nil)))) pa_nil)))) pss_nil)
    (pss_cons (ps_set (i := 3) scLCmp.nd rfl (.inl rfl) (pe_lst pa_nil))
    (pss_cons (ps_for PassesOwn.never rfl (pi_list (pe_callB cr_sortedT (by rfl) T.mSorted (by decide +kernel) (pa_cons (pe_op op_cat
        (pe_lc (own := [("_law_entry", 7)]) (g := gName 7) rfl scLCmp.nd (pi_tup (pe_ix ix_tup (pv 0) pe_int (fun _ _ => rfl))) (blkOk_by (N := nLCmp) (sc := defScope sLCompare) (by decide +kernel))
          (fun _ _ _ _ _ => pg_name (i := 7) scLCmp.nd rfl (Or.inl rfl)) (fun _ _ _ _ _ => pts_nil) (fun _ _ _ _ _ => pe_ix (r := rIxT K) ix_tup (pv 7) pe_int (fun _ _ => rfl)))
        (pe_lc (own := [("_law_entry", 7)]) (g := gName 7) rfl scLCmp.nd (pi_tup (pe_ix ix_tup (pv 1) pe_int (fun _ _ => rfl))) (blkOk_by (N := nLCmp) (sc := defScope sLCompare) (by decide +kernel))
          (fun _ _ _ _ _ => pg_name (i := 7) scLCmp.nd rfl (Or.inl rfl)) (fun _ _ _ _ _ => pts_nil) (fun _ _ _ _ _ => pe_ix (r := rIxT K) ix_tup (pv 7) pe_int (fun _ _ => rfl)))) pa_nil))) (pg_name (i := 4) scLCmp.nd rfl (.inr rfl))
      (pss_cons (ps_setLc (i := 5) (own := [("_law_other", 8), ("_law_child", 9)]) (g := gTup K 2 (gCons (gName 8) (gCons (gName 9) gNil))) rfl scLCmp.nd rfl rfl (sw_true rfl rfl rfl (by decide +kernel)) (pi_tup (pe_ix ix_tup (pv 0) pe_int (fun _ _ => rfl)))
        (blkOk_by (N := nLCmp) (sc := defScope sLCompare) (by decide +kernel)) (fun _ _ _ _ _ => pg_tup rfl (pgs_cons (pg_name (i := 8) scLCmp.nd rfl (Or.inl rfl)) (pgs_cons (pg_name (i := 9) scLCmp.nd rfl (Or.inl rfl)) pgs_nil)))
        (fun _ _ _ _ _ => pts_one (pt_cmpR op_eq (pv 8) (pv 4) (nomark _))) (fun _ _ _ _ _ => pv 9))
      (pss_cons (ps_setLc (i := 6) (own := [("_law_other", 8), ("_law_child", 9)]) (g := gTup K 2 (gCons (gName 8) (gCons (gName 9) gNil))) rfl scLCmp.nd rfl rfl (sw_true rfl rfl rfl (by decide +kernel)) (pi_tup (pe_ix ix_tup (pv 1) pe_int (fun _ _ => rfl)))
        (blkOk_by (N := nLCmp) (sc := defScope sLCompare) (by decide +kernel)) (fun _ _ _ _ _ => pg_tup rfl (pgs_cons (pg_name (i := 8) scLCmp.nd rfl (Or.inl rfl)) (pgs_cons (pg_name (i := 9) scLCmp.nd rfl (Or.inl rfl)) pgs_nil)))
        (fun _ _ _ _ _ => pts_one (pt_cmpR op_eq (pv 8) (pv 4) (nomark _))) (fun _ _ _ _ _ => pv 9))
      (pss_one (ps_if (pt_cmpR op_eq (pe_callB call_len_seq (by rfl) T.mLen PySem.boot_len (pa_cons (pv 6) pa_nil)) pe_int (nomark _))
        (pss_one (ps_expr (pe_bm PySem.F.plainAttrs_list PySem.F.slot_list_append PySem.F.type_list_append mt_append (pv 3) (pa_cons (pe_tup (pa_cons pe_str (pa_cons (pe_op op_catP (pv 2) (pe_tup (pa_cons (pv 4) pa_nil))) pa_nil))) pa_nil))))
        (pss_one (ps_if (pt_cmpR op_eq (pe_callB call_len_seq (by rfl) T.mLen PySem.boot_len (pa_cons (pv 5) pa_nil)) pe_int (nomark _))
          (pss_one (ps_expr (pe_bm PySem.F.plainAttrs_list PySem.F.slot_list_append PySem.F.type_list_append mt_append (pv 3) (pa_cons (pe_tup (pa_cons pe_str (pa_cons (pe_op op_catP (pv 2) (pe_tup (pa_cons (pv 4) pa_nil))) (pa_cons (pe_ix ix_list (pv 6) pe_int (fun _ _ => rfl)) pa_nil)))) pa_nil))))
          (pss_one (ps_if (PW.pt (pw_or (pt_cmpR op_eq (pe_callB call_len_seq (by rfl) T.mLen PySem.boot_len (pa_cons (pv 3) pa_nil)) pe_int (nomark _))
              (pw_or1 (pt_cmpR (op_neD hr.units) (pe_slice sl_tupA (pe_ix ix_tup (pe_ix ix_list (pv 3) (pe_un un_neg pe_int) (fun _ _ => rfl)) pe_int (fun _ _ => rfl)) po_none (po_some (pe_op op_add (pe_callB call_len_seq (by rfl) T.mLen PySem.boot_len (pa_cons (pv 2) pa_nil)) pe_int)))
                (pe_op op_catP (pv 2) (pe_tup (pa_cons (pv 4) pa_nil))) (nomark _)))))
            (pss_one (ps_set (i := 3) scLCmp.nd rfl (.inl rfl) (pe_op op_cat (pv 3) (pe_call G hr rfl D.m D.F.kp D.b .nil pass0 (pa_cons (pe_ix ix_list (pv 5) pe_int (fun _ _ => rfl)) (pa_cons (pe_ix ix_list (pv 6) pe_int (fun _ _ => rfl)) (pa_cons (pe_op op_catP (pv 2) (pe_tup (pa_cons (pv 4) pa_nil))) pa_nil)))))))
            pss_nil)))))))))
    (pss_one (ps_ret (pv 3)))))), ?_⟩
  rw [diff_succ] at hlen k
  refine ⟨_, rfl, _, rfl, a.data, b.data, hu.dp, hv.dp, shaped_vol oa (by omega), shaped_vol ob db, _, rfl, ?_⟩
  refine ite2 (fun c => ?_) (fun c => ?_)
  · rw [if_pos (show veq a b = true from c)] at k
    exact ⟨sz0, fun l nl => k l [] _ (same_new nl _) upd_same .nil⟩
  rw [if_neg (show ¬ veq a b = true from c)] at hlen k
  rcases isF_cases a b with ⟨as, bs, rfl, rfl⟩ | ho
  rotate_left
  · -- a leaf on one side
    rw [diffAt_other ho] at hlen k
    obtain ⟨a1, ys1, rfl, ha1⟩ := hu.head
    obtain ⟨b1, ys2, rfl, hb1⟩ := hv.head
    refine ⟨_, rfl, a1, _, 0, _, rfl, rfl, SqT.of ha1, at0 _ _, rfl, _, rfl, ?_⟩
    have fin : ∀ t, H t = none → ∀ l, upd H t (.tup [.str "changed", q, .ref b1]) l = none → Q (.ref l) (upd (upd H t (.tup [.str "changed", q, .ref b1])) l (.lst [.ref t])) := fun t nt l nl => by
      have s1 := (same_new nt (.tup [.str "changed", q, .ref b1])).trans (same_new nl (.lst [.ref t]))
      refine k _ [.ref t] _ s1 upd_same ?_
      have e : under p [Chg.changed [] b] = [(Chg.changed p b).data] := by
        show [(Chg.changed (p ++ []) b).data] = _
        rw [List.append_nil]
      rw [e]
      refine .cons (.tup (same_new nl _ _ _ upd_same) (.cons (.str _) (.cons (Tp.mono (ts_of s1) hq) (.cons (Tp.mono (ts_of s1) hv) .nil)))) .nil
    by_cases fa : a.isF = false
    · refine ifT (head_ne fa) (iteT ?_)
      exact ⟨_, rfl, _, rfl, sz3 _ _ _, fun t nt => ⟨sz1 _, fun l nl => fin t nt l nl⟩⟩
    · have fa' : a.isF = true := by cases h : a.isF <;> simp_all
      have fb : b.isF = false := by
        rcases ho with h | h
        · exact absurd h fa
        · exact h
      refine ifF (by rw [(kind_iff a).mpr fa']; simp) ?_
      refine ⟨_, rfl, b1, _, 0, _, rfl, rfl, SqT.of hb1, at0 _ _, rfl, _, rfl, ?_⟩
      refine ifT (head_ne fb) ?_
      exact ⟨_, rfl, _, rfl, sz3 _ _ _, fun t nt => ⟨sz1 _, fun l nl => fin t nt l nl⟩⟩
  -- two folders
  rw [diffAt_folders] at hlen k
  obtain ⟨a1, e1, ys1, rfl, ha1, he1, te1⟩ := hu.folder_inv
  obtain ⟨b1, e2, ys2, rfl, hb1, he2, te2⟩ := hv.folder_inv
  refine ⟨_, rfl, a1, _, 0, _, rfl, rfl, SqT.of ha1, at0 _ _, rfl, _, rfl, ?_⟩
  refine ifF (by simp) ?_
  refine ⟨_, rfl, b1, _, 0, _, rfl, rfl, SqT.of hb1, at0 _ _, rfl, _, rfl, ?_⟩
  refine ifF (by simp) ?_
  rw [Vol.Ok] at oa ob
  rw [Vol.depth] at da db
  obtain ⟨wa, asca, eoa⟩ := oa
  obtain ⟨wb, ascb, eob⟩ := ob
  have la := te1.len
  have lb := te2.len
  have na : (names as).length = as.length := List.length_map _
  have nb : (names bs).length = bs.length := List.length_map _
  have okm := isort_ok (fun p hp => (entsOk_iff.mp eoa p hp).1) (fun p hp => (entsOk_iff.mp eob p hp).1)
  obtain ⟨q0, rfl, hq0⟩ := hq.inv
  refine ⟨sz0, fun l0 nl0 => ?_⟩
  have s1 := same_new nl0 (.lst [])
  refine ⟨_, rfl, a1, _, 1, _, rfl, rfl, SqT.of (s1 _ _ ha1), at1 _ _ _, e1, rfl, ⟨_, SqT.of (s1 _ _ he1)⟩, fun B nB => lc_tup (K := K) (a := e1) (xs := ys1)
    (fun i H' => H' B = some (.lst (((names as).take i).map V.str)) ∧ Same (upd H l0 (.lst [])) H') ⟨upd_same, same_new nB _⟩ (fun i H' _ ⟨_, s2⟩ => SqT.of (s2 _ _ (s1 _ _ he1))) ?_ ?_⟩
  · rintro i x H' hx ⟨hB, s2⟩
    obtain ⟨m, v', c', u', h1, rfl, h2, h3⟩ := te1.get hx
    have hm : (names as)[i]? = some m := by unfold names; rw [List.getElem?_map, h1]; rfl
    refine ⟨rfl, _, rfl, c', _, 0, _, rfl, rfl, SqT.of (s2 _ _ (s1 _ _ h2)), at0 _ _, _, hB, small (by rw [List.length_map, List.length_take]; omega), ?_, fun b o z => by rw [upd_ne (ne_of_none z nB)]; exact s2 b o z⟩
    rw [upd_same, take_at hm, List.map_append]
    rfl
  rintro H1 ⟨hB, s2⟩
  refine ⟨_, rfl, b1, _, 1, _, rfl, rfl, SqT.of (s2 _ _ (s1 _ _ hb1)), at1 _ _ _, e2, rfl, ⟨_, SqT.of (s2 _ _ (s1 _ _ he2))⟩, fun C nC => lc_tup (K := K) (a := e2) (xs := ys2)
    (fun i H' => H' C = some (.lst (((names bs).take i).map V.str)) ∧ Same H1 H') ⟨upd_same, same_new nC _⟩ (fun i H' _ ⟨_, s3⟩ => SqT.of (s3 _ _ (s2 _ _ (s1 _ _ he2)))) ?_ ?_⟩
  · rintro i x H' hx ⟨hC, s3⟩
    obtain ⟨m, v', c', u', h1, rfl, h2, h3⟩ := te2.get hx
    have hm : (names bs)[i]? = some m := by unfold names; rw [List.getElem?_map, h1]; rfl
    refine ⟨rfl, _, rfl, c', _, 0, _, rfl, rfl, SqT.of (s3 _ _ (s2 _ _ (s1 _ _ h2))), at0 _ _, _, hC, small (by rw [List.length_map, List.length_take]; omega), ?_, fun b o z => by rw [upd_ne (ne_of_none z nC)]; exact s3 b o z⟩
    rw [upd_same, take_at hm, List.map_append]
    rfl
  rintro H2 ⟨hC, s3⟩
  rw [la, ← na, List.take_length] at hB
  rw [lb, ← nb, List.take_length] at hC
  refine ⟨B, C, _, _, rfl, rfl, s3 _ _ hB, hC, small' (by rw [List.length_map, List.length_map]; omega), fun R nR => ?_⟩
  rw [← List.map_append]
  refine ⟨R, _, rfl, SqL.of upd_same, fun S nS => ?_⟩
  have s45 := (same_new nR (.lst ((names as ++ names bs).map V.str))).trans (same_new nS (.lst ((isort (names as ++ names bs)).map V.str)))
  have s03 := s1.trans (s2.trans s3)
  have nSl : l0 ≠ S := fun z => by
    subst z
    have h0 : upd H l0 (.lst []) l0 = some (.lst []) := upd_same
    have := (same_new nR (.lst ((names as ++ names bs).map V.str))) _ _ (s3 _ _ (s2 _ _ h0))
    rw [nS] at this
    cases this
  refine ⟨S, rfl, ⟨_, SqL.of upd_same⟩, for_list (K := K) (a := S) (xs := (isort (names as ++ names bs)).map V.str) (LSt n as bs p a1 b1 q0 S H)
    ⟨_, _, _, l0, [], rfl, s03.trans s45, nl0, s45 _ _ (s3 _ _ (s2 _ _ upd_same)), by rw [lfd_zero]; exact .nil, nSl, upd_same⟩ (fun i σ H' _ ⟨_, _, _, _, _, _, _, _, _, _, _, h⟩ => SqL.of h) ?_ ?_⟩
  rotate_left
  · rintro σ H' ⟨o1, o2, o3, l, ys, rfl, s6, nl, hl, ht, _, _⟩
    rw [lfd_all asca ascb (List.length_map _)] at ht
    exact ⟨_, rfl, k l ys H' s6 hl ht⟩
  rintro i x σ H' hx ⟨o1, o2, o3, l, ys, rfl, s6, nl, hl, ht, nS', hS⟩
  obtain ⟨m, hm, rfl⟩ := map_at hx
  have fle := lfd_le (n := n) asca ascb i
  have fle1 := lfd_le (n := n) asca ascb (i + 1)
  have fs := lfd_succ (n := n) hm
  have yl := ht.len
  rw [under_len] at yl
  refine ⟨_, rfl, a1, _, 1, _, rfl, rfl, SqT.of (s6 _ _ ha1), at1 _ _ _, e1, rfl, ⟨_, SqT.of (s6 _ _ he1)⟩, fun B nB => lc_tup (K := K) (a := e1) (xs := ys1)
    (fun i Hk => ∃ L, Hk B = some (.lst L) ∧ KidAt Hk L (look (as.take i) m) ∧ Same H' Hk) ⟨[], upd_same, rfl, same_new nB _⟩ (fun i Hk _ ⟨_, _, _, s7⟩ => SqT.of (s7 _ _ (s6 _ _ he1))) ?_ ?_⟩
  · rintro i y H3 hy ⟨L, hL, hK, s7⟩
    obtain ⟨k', v', c', u', h1, rfl, h2, h3⟩ := te1.get hy
    have tw : TS H3 (upd H3 B (.lst (L ++ [u']))) := ts_lst hL
    refine ⟨c', _, rfl, SqT.of (s7 _ _ (s6 _ _ h2)), rfl, _, _, rfl, _, _, rfl, rfl, rfl, _, rfl, _, rfl, rfl, _, rfl, ?_⟩
    refine ite2 (fun c1 => ?_) (fun c1 => ?_)
    · have c2 : V.str k' = V.str m := of_decide_eq_true c1
      cases c2
      refine ⟨_, rfl, L, hL, small (by have := hK.len; omega), _, upd_same, kid_hit asca h1 (Tp.mono tw (Tp.mono (ts_of ((s6).trans s7)) h3)) (hK.mono tw), fun b o z => by rw [upd_ne (ne_of_none z nB)]; exact s7 b o z⟩
    · exact ⟨L, hL, kid_miss h1 (fun z => c1 (by rw [z]; exact decide_eq_true rfl)) hK, s7⟩
  rintro H4 ⟨LB, hLB, hKB, s7⟩
  rw [la, List.take_length] at hKB
  have s67 := s6.trans s7
  refine ⟨_, rfl, b1, _, 1, _, rfl, rfl, SqT.of (s67 _ _ hb1), at1 _ _ _, e2, rfl, ⟨_, SqT.of (s67 _ _ he2)⟩, fun C nC => lc_tup (K := K) (a := e2) (xs := ys2)
    (fun i Hk => ∃ L, Hk C = some (.lst L) ∧ KidAt Hk L (look (bs.take i) m) ∧ Same H4 Hk) ⟨[], upd_same, rfl, same_new nC _⟩ (fun i Hk _ ⟨_, _, _, s7⟩ => SqT.of (s7 _ _ (s67 _ _ he2))) ?_ ?_⟩
  · rintro i y H3 hy ⟨L, hL, hK, s7⟩
    obtain ⟨k', v', c', u', h1, rfl, h2, h3⟩ := te2.get hy
    have tw : TS H3 (upd H3 C (.lst (L ++ [u']))) := ts_lst hL
    refine ⟨c', _, rfl, SqT.of (s7 _ _ (s67 _ _ h2)), rfl, _, _, rfl, _, _, rfl, rfl, rfl, _, rfl, _, rfl, rfl, _, rfl, ?_⟩
    refine ite2 (fun c1 => ?_) (fun c1 => ?_)
    · have c2 : V.str k' = V.str m := of_decide_eq_true c1
      cases c2
      refine ⟨_, rfl, L, hL, small (by have := hK.len; omega), _, upd_same, kid_hit ascb h1 (Tp.mono tw (Tp.mono (ts_of ((s67).trans s7)) h3)) (hK.mono tw), fun b o z => by rw [upd_ne (ne_of_none z nC)]; exact s7 b o z⟩
    · exact ⟨L, hL, kid_miss h1 (fun z => c1 (by rw [z]; exact decide_eq_true rfl)) hK, s7⟩
  rintro H5 ⟨LC, hLC, hKC, s8⟩
  rw [lb, List.take_length] at hKC
  have s68 := s67.trans s8
  have s78 := s7.trans s8
  have hKB5 := hKB.mono (ts_of s8)
  have hLB5 := s8 _ _ hLB
  have hl5 := s78 _ _ hl
  have hq5 := s68 _ _ hq0
  have pln : (p.map V.str).length = p.length := List.length_map _
  refine ⟨_, rfl, C, LC, rfl, .inl (SqL.of hLC), rfl, _, rfl, ?_⟩
  cases hlb : look bs m with
  | none =>
    rw [hlb] at hKC
    have e : LC = [] := hKC
    subst e
    refine ifT (by simp) ?_
    rw [lstep_removed hlb] at fs
    rw [fs, List.length_append] at fle1
    refine ⟨_, rfl, .inl ⟨rfl, _, SqL.of hl5⟩, _, rfl, _, rfl, sz1 _, fun t1 n1 => ⟨q0, t1, p, m, rfl, rfl, same_new n1 _ _ _ hq5, upd_same, by omega, fun z Hz sz hz => ⟨sz2 _ _, fun t nt => ?_⟩⟩⟩
    have s9 := (same_new n1 (.tup [.str m])).trans sz
    refine ⟨l, _, _, rfl, rfl, same_new nt _ _ _ (s9 _ _ hl5), small (by omega), ?_⟩
    exact LSt.put (c := .removed [m]) s6 nl hl ht nS' hS (s78.trans s9) nt (.tup upd_same (.cons (.str _) (.cons (PathAt.mk (same_new nt _ _ _ hz)) .nil))) fs _ _ _
  | some vb =>
    rw [hlb] at hKC
    obtain ⟨ub, e, hub⟩ := hKC
    subst e
    refine ifF (by simp) ?_
    refine ⟨_, rfl, B, LB, rfl, .inl (SqL.of hLB5), rfl, _, rfl, ?_⟩
    cases hla : look as m with
    | none =>
      rw [hla] at hKB5
      have e : LB = [] := hKB5
      subst e
      refine ifT (by simp) ?_
      rw [lstep_added hla hlb] at fs
      rw [fs, List.length_append] at fle1
      refine ⟨_, rfl, .inl ⟨rfl, _, SqL.of hl5⟩, _, rfl, _, rfl, sz1 _, fun t1 n1 => ⟨q0, t1, p, m, rfl, rfl, same_new n1 _ _ _ hq5, upd_same, by omega, fun z Hz sz hz => ?_⟩⟩
      have s9 := (same_new n1 (.tup [.str m])).trans sz
      refine ⟨_, rfl, C, _, 0, _, rfl, rfl, SqL.of (s9 _ _ hLC), at0 _ _, sz3 _ _ _, fun t nt => ?_⟩
      refine ⟨l, _, _, rfl, rfl, same_new nt _ _ _ (s9 _ _ hl5), small (by omega), ?_⟩
      exact LSt.put (c := .added [m] vb) s6 nl hl ht nS' hS (s78.trans s9) nt (.tup upd_same (.cons (.str _) (.cons (PathAt.mk (same_new nt _ _ _ hz)) (.cons (Tp.mono (ts_of (s9.trans (same_new nt _))) hub) .nil)))) fs _ _ _
    | some va =>
      rw [hla] at hKB5
      obtain ⟨ua, e, hua⟩ := hKB5
      subst e
      refine ifF (by simp) ?_
      rw [lstep_both hla hlb] at fs
      have mla := look_mem hla
      have mlb := look_mem hlb
      have da' : va.depth ≤ entsDepth as := depth_mem (p := (m, va)) mla
      have db' : vb.depth ≤ entsDepth bs := depth_mem (p := (m, vb)) mlb
      have okm' := okm m (List.mem_of_getElem? hm)
      -- the changes of the two behind the list
      have rest : ∀ H6 : Hp, Same H5 H6 → lastN (lfd n as bs i) ≠ some m → ∀ D : Ends, D.nx = LSt n as bs p a1 b1 q0 S H (i + 1) →
          tAsg (tOp rCat (tVar 3) (tCall (spLCompare n) [] E0 (tCons (tOp (rIxL K) (tVar 5) (tC (.int 0))) (tCons (tOp (rIxL K) (tVar 6) (tC (.int 0))) (tCons (tOp rCatP (tVar 2) (tTup (tCons (tVar 4) tNil))) tNil))))) (gName 3) D
            [some (.ref a1), some (.ref b1), some (.ref q0), some (.ref l), some (.str m), some (.ref B), some (.ref C), none, none, none] H6 := fun H6 s9 hlast D hD => by
        rw [if_neg hlast] at fs
        rw [fs, List.length_append, List.length_map] at fle1
        refine ⟨_, rfl, _, rfl, B, _, 0, _, rfl, rfl, SqL.of (s9 _ _ hLB5), at0 _ _, _, rfl, C, _, 0, _, rfl, rfl, SqL.of (s9 _ _ hLC), at0 _ _, _, rfl, _, rfl, sz1 _, fun t1 n1 => ⟨q0, t1, p, m, rfl, rfl, same_new n1 _ _ _ (s9 _ _ hq5), upd_same, by omega, fun z Hz sz hz => ?_⟩⟩
        have s10 := s9.trans ((same_new n1 (.tup [.str m])).trans sz)
        refine ⟨ua, ub, .ref z, va, vb, p ++ [m], W, rfl, Tp.mono (ts_of s10) hua, Tp.mono (ts_of s10) hub, PathAt.mk hz, by omega, by omega, by omega, (entsOk_iff.mp eoa _ mla).2, (entsOk_iff.mp eob _ mlb).2, hW, by rw [List.length_append]; show p.length + 1 + n ≤ _; omega, fun x hx => ?_, by omega, fun l2 ys2 H7 s11 hl2 ht2 => ?_⟩
        · rcases List.mem_append.mp hx with w1 | w1
          · exact hp x w1
          · rw [List.mem_singleton] at w1
            subst w1
            exact okm'
        have s12 := s78.trans (s10.trans s11)
        have y2 := ht2.len
        rw [under_len] at y2
        refine ⟨l, l2, ys, ys2, rfl, rfl, s12 _ _ hl, hl2, small' (by omega), fun p3 n3 => ?_⟩
        have s13 := same_new n3 (.lst (ys ++ ys2))
        show D.nx _ _
        rw [hD]
        have n4 : H p3 = none := none_of (s6.trans s12) n3
        refine ⟨_, _, _, p3, ys ++ ys2, rfl, (s6.trans s12).trans s13, n4, upd_same, ?_, fun z' => ?_, s13 _ _ (s12 _ _ hS)⟩
        · rw [fs, under_app, under_under']
          exact TpAll.app (TpAll.mono (ts_of (s12.trans s13)) ht) (TpAll.mono (ts_of s13) ht2)
        · subst z'
          rw [s12 _ _ hS] at n3
          cases n3
      refine ⟨_, rfl, l, ys, rfl, .inl (SqL.of hl5), rfl, _, rfl, ?_⟩
      by_cases y0 : ys = []
      · refine ifT (by rw [y0]; simp) ?_
        refine iteT (rest H5 (Same.refl _) ?_ _ rfl)
        have : lfd n as bs i = [] := List.eq_nil_of_length_eq_zero (by rw [← yl, y0]; rfl)
        rw [this]
        simp [lastN]
      refine ifF (by simp [y0]) ?_
      obtain ⟨x, hx⟩ : ∃ x, ys.getLast? = some x := ⟨_, List.getLast?_eq_some_getLast y0⟩
      have hx' := hx
      rw [List.getLast?_eq_getElem?] at hx'
      obtain ⟨d, hd1, hd2⟩ := ht.get hx'
      obtain ⟨c', hc1, rfl⟩ := map_at hd1
      obtain ⟨c, hc2, rfl⟩ := map_at hc1
      rw [yl] at hc2
      have hl' : lastN (lfd n as bs i) = c.path.head? := by
        unfold lastN
        rw [List.getLast?_eq_getElem?, hc2]
        rfl
      obtain ⟨k', r', hcp, okk⟩ := lfd_names okm i c (List.mem_of_getElem? hc2)
      rw [hcp] at hl'
      obtain ⟨t0, k0, q1, r0, rfl, ht0, hq1⟩ := chg_path (Tp.mono (ts_of s78) hd2)
      rw [under_path, hcp] at hq1
      obtain ⟨qa, rfl, hqa⟩ := hq1.inv
      refine ⟨_, rfl, _, rfl, l, ys, _, _, rfl, rfl, SqL.of hl5, at_end hx, t0, _, 1, _, rfl, rfl, SqT.of ht0, at1 _ _ _, _, rfl, q0, _, rfl, .inr (SqT.of hq5), _, _, rfl, rfl, _, rfl, ?_⟩
      have ez : ((p.map V.str).length : Int) + 1 = ((p.length + 1 : Nat) : Int) := by rw [pln]; omega
      refine slA_take hqa ez fun pz H6 s9 hpz => ?_
      refine ⟨_, rfl, _, rfl, sz1 _, fun t1 n1 => ⟨q0, t1, p, m, rfl, rfl, same_new n1 _ _ _ (s9 _ _ hq5), upd_same, by omega, fun z Hz sz hz => ?_⟩⟩
      have s10 := (same_new n1 (.tup [.str m])).trans sz
      have etk : (p ++ k' :: r').take (p.length + 1) = p ++ [k'] := (take_head p (k' :: r') k').mpr rfl
      rw [etk] at hpz
      have okr : ∀ {y : Str}, okS y → ∀ x ∈ p ++ [y], okS x := fun hy x hx => by
        rcases List.mem_append.mp hx with w1 | w1
        · exact hp x w1
        · rw [List.mem_singleton] at w1
          subst w1
          exact hy
      refine ⟨rowD (p ++ [k']), rowD (p ++ [m]), (PathAt.mk (s10 _ _ hpz)).dp, (PathAt.mk hz).dp, shaped_row (okr okk), shaped_row (okr okm'), _, rfl, ?_⟩
      by_cases ek : k' = m
      · subst ek
        refine ifF (by rw [(eqv_row_iff _ _).mpr rfl]; rfl) ?_
        rw [if_pos (show lastN (lfd n as bs i) = some k' from hl')] at fs
        have s11 := s78.trans (s9.trans s10)
        refine ⟨_, _, _, l, ys, rfl, s6.trans s11, nl, s11 _ _ hl, ?_, nS', s11 _ _ hS⟩
        rw [fs]
        exact TpAll.mono (ts_of s11) ht
      · refine ifT ?_ (rest Hz (s9.trans s10) ?_ _ rfl)
        · have : PyData.eqv (rowD (p ++ [k'])) (rowD (p ++ [m])) = false := by
            cases e : PyData.eqv (rowD (p ++ [k'])) (rowD (p ++ [m])) with
            | false => rfl
            | true =>
              have e2 := (eqv_row_iff _ _).mp e
              rw [List.append_cancel_left_eq] at e2
              injection e2 with e3
              exact absurd e3 ek
          rw [this]
          rfl
        · rw [hl']
          intro z
          injection z with z
          exact ek z
theorem ok_lcmp {f : Addr} {fd : FuncData} (T : Txt K mg CA CN) (D : DLCompare K mg f fd) : ∀ n : Nat, FnOk P w K mg base CX0 n f fd ["_law_first", "_law_second", "_law_path"] (spLCompare n)
  | 0 => no_calls fun vs H Q E h => by
    obtain ⟨u, v, q, a, b, p, W, _, _, _, _, d, _⟩ := h
    have := depth_pos a
    omega
  | n + 1 => lcmp_rec T D (ok_lcmp T D n)
end
end Sc

namespace Sc
open PySem L2
section
variable {P : Program} {w : World} {K : PySem.W.Frag} {mg : Str → Option Value} {base : Heap} {CA CN : Addr}
/-! ### the changes run through -/
theorem withE_ok {w : Nat} {es : Ents} {n : Str} {c : Vol} (h : (Vol.folder es).Ok w) (hn : okS n) (hc : c.Ok (w + 1)) : (Vol.folder (withE es n c)).Ok (w + 1) := by
  have a := ents_all h
  rw [Vol.Ok] at h
  rw [Vol.Ok]
  refine ⟨?_, asc_withE h.2.1, entsOk_iff.mpr fun p hp => ?_⟩
  · unfold withE
    rw [List.length_append, List.length_append]
    have e : ∀ l : Ents, (∀ p ∈ l, ¬ (nlt p.1 n ∧ nlt n p.1)) → (l.filter (fun p => decide (nlt p.1 n))).length + (l.filter (fun p => decide (nlt n p.1))).length ≤ l.length := fun l => by
      induction l with
      | nil => intro _; exact Nat.le_refl _
      | cons x r ih =>
        intro hx
        have i := ih fun p hp => hx p (List.mem_cons_of_mem _ hp)
        have hx0 := hx x List.mem_cons_self
        rw [List.filter_cons, List.filter_cons]
        by_cases c1 : nlt x.1 n
        · have c2 : ¬ nlt n x.1 := fun z => hx0 ⟨c1, z⟩
          rw [if_pos (decide_eq_true c1), if_neg (by simp [c2]), List.length_cons, List.length_cons]
          omega
        · rw [if_neg (by simp [c1])]
          by_cases c2 : nlt n x.1
          · rw [if_pos (decide_eq_true c2), List.length_cons, List.length_cons]
            omega
          · rw [if_neg (by simp [c2]), List.length_cons]
            omega
    have := e es fun p _ z => nlt_asymm z.1 z.2
    show _ + 1 + _ ≤ _
    have := h.1
    omega
  · unfold withE at hp
    rcases List.mem_append.mp hp with q | q
    · rcases List.mem_append.mp q with q | q
      · have := a p (List.mem_filter.mp q).1
        exact ⟨this.1, this.2.1⟩
      · rw [List.mem_singleton] at q
        subst q
        exact ⟨hn, hc⟩
    · have := a p (List.mem_filter.mp q).1
      exact ⟨this.1, this.2.1⟩
theorem repl_ok {w : Nat} : ∀ (p : Path) (v new u : Vol), v.Ok w → new.Ok (w + 1) → (∀ x ∈ p, okS x) → repl v p new = some u → u.Ok (w + 1)
  | [], v, new, u, _, hn, _, e => by
    rw [repl_nil] at e
    cases e
    exact hn
  | n :: r, v, new, u, hv, hn, hp, e => by
    cases v with
    | text s => rw [repl] at e; cases e
    | table a b => rw [repl] at e; cases e
    | folder es =>
      cases r with
      | nil =>
        rw [repl] at e
        cases e
        exact withE_ok hv (hp n List.mem_cons_self) hn
      | cons m r =>
        rw [repl] at e
        cases e2 : look es n with
        | none => rw [e2] at e; cases e
        | some c =>
          rw [e2] at e
          replace e : (repl c (m :: r) new).map (fun c' => Vol.folder (withE es n c')) = some u := e
          cases e3 : repl c (m :: r) new with
          | none => rw [e3] at e; cases e
          | some c' =>
            rw [e3] at e
            cases e
            have hc : c.Ok w := by
              have hv' := hv
              rw [Vol.Ok] at hv'
              exact (entsOk_iff.mp hv'.2.2 _ (look_mem e2)).2
            exact withE_ok hv (hp n List.mem_cons_self) (repl_ok (m :: r) c new c' hc hn (fun x hx => hp x (List.mem_cons_of_mem _ hx)) e3)
theorem delE_ok {w : Nat} {es : Ents} {n : Str} (h : (Vol.folder es).Ok w) : (Vol.folder (delE es n)).Ok w := by
  rw [Vol.Ok] at h ⊢
  exact ⟨Nat.le_trans (List.length_filter_le _ _) h.1, asc_delE h.2.1, entsOk_iff.mpr fun p hp => entsOk_iff.mp h.2.2 p (List.mem_filter.mp hp).1⟩
/-- what the changes of a compare are -/
def Good (n W : Nat) (c : Chg) : Prop := c.path.length ≤ n ∧ (∀ x ∈ c.path, okS x) ∧ ∀ u, c.put = some u → u.Ok W
theorem diff_good {W : Nat} : ∀ (n : Nat) (a b : Vol), a.Ok W → b.Ok W → ∀ c ∈ diff n a b, Good n W c
  | 0, a, b, _, _, c, h => by rw [diff_zero] at h; cases h
  | n + 1, a, b, ha, hb, d, h => by
    rw [diff_succ] at h
    split at h
    · cases h
    · rcases isF_cases a b with ⟨as, bs, rfl, rfl⟩ | ho
      · rw [diffAt_folders] at h
        obtain ⟨m, hm, hd⟩ := List.mem_flatMap.mp h
        rw [Vol.Ok] at ha hb
        have okm : okS m := by
          rcases union_mem.mp hm with q | q
          · obtain ⟨p, hp, rfl⟩ := List.mem_map.mp q
            exact (entsOk_iff.mp ha.2.2 p hp).1
          · obtain ⟨p, hp, rfl⟩ := List.mem_map.mp q
            exact (entsOk_iff.mp hb.2.2 p hp).1
        have one : ∀ x ∈ [m], okS x := fun x hx => by
          rw [List.mem_singleton] at hx
          subst hx
          exact okm
        cases h2 : look bs m with
        | none =>
          rw [grp_removed h2, List.mem_singleton] at hd
          subst hd
          exact ⟨by show 1 ≤ n + 1; omega, one, fun u e => nomatch e⟩
        | some v =>
          have ov := (entsOk_iff.mp hb.2.2 _ (look_mem h2)).2
          cases h1 : look as m with
          | none =>
            rw [grp_added h1 h2, List.mem_singleton] at hd
            subst hd
            refine ⟨by show 1 ≤ n + 1; omega, one, fun u e => ?_⟩
            cases e
            exact ov
          | some u =>
            have ou := (entsOk_iff.mp ha.2.2 _ (look_mem h1)).2
            rw [grp_both h1 h2] at hd
            obtain ⟨c, hc, rfl⟩ := List.mem_map.mp hd
            obtain ⟨g1, g2, g3⟩ := diff_good n u v ou ov c hc
            refine ⟨?_, ?_, fun u e => g3 u ?_⟩
            · rw [under_path]
              show c.path.length + 1 ≤ _
              omega
            · rw [under_path]
              intro x hx
              rcases List.mem_cons.mp hx with q | q
              · subst q
                exact okm
              · exact g2 x q
            · cases c <;> exact e
      · rw [diffAt_other ho, List.mem_singleton] at h
        subst h
        refine ⟨Nat.zero_le _, fun x hx => by simp [Chg.path] at hx, fun u e => ?_⟩
        cases e
        exact hb
theorem applyC_ok {n w : Nat} {v u : Vol} {c : Chg} (hv : v.Ok w) (g : Good n (w + 1) c) (e : applyC v c = some u) : u.Ok (w + 1) := by
  obtain ⟨g1, g2, g3⟩ := g
  cases c with
  | changed p x => exact repl_ok p v x u hv (g3 x rfl) g2 e
  | added p x => exact repl_ok p v x u hv (g3 x rfl) g2 e
  | removed p =>
    obtain ⟨m, d, es, h1, h2, h3, h4⟩ := remP_inv e
    refine repl_ok p.dropLast v _ u hv (Vol.ok_up (Nat.le_succ _) _ (delE_ok (lookupV_ok _ _ _ hv h3))) (fun x hx => g2 x ((List.dropLast_sublist p).subset hx)) h4
theorem runs_of {n : Nat} (hn : n ≤ 1000) : ∀ (cs : List Chg) (w : Nat) (v r : Vol), v.Ok w → w + cs.length ≤ 100000 → (∀ c ∈ cs, Good n w c ∧ c.proper) → applyAll v cs = some r → Runs v cs r
  | [], w, v, r, _, _, _, e => by
    rw [applyAll] at e
    cases e
    rfl
  | c :: cs, w, v, r, hv, hl, hg, e => by
    rw [List.length_cons] at hl
    rw [applyAll] at e
    obtain ⟨⟨g1, g2, g3⟩, pr⟩ := hg c List.mem_cons_self
    cases e2 : applyC v c with
    | none => rw [e2] at e; cases e
    | some u =>
      rw [e2] at e
      refine ⟨Vol.ok_up (by omega) _ hv, by omega, pr, u, e2, ?_⟩
      refine runs_of hn cs (w + 1) u r (applyC_ok (n := n) hv ⟨g1, g2, fun x hx => Vol.ok_up (Nat.le_succ _) _ (g3 x hx)⟩ e2) (by omega) (fun d hd => ?_) e
      obtain ⟨⟨h1, h2, h3⟩, pr'⟩ := hg d (List.mem_cons_of_mem _ hd)
      exact ⟨⟨h1, h2, fun x hx => Vol.ok_up (Nat.le_succ _) _ (h3 x hx)⟩, pr'⟩
theorem diff_runs {a b : Vol} {w : Nat} (ha : a.Ok w) (hb : b.Ok w) (da : a.depth ≤ 20) (hl : w + (diff 20 a b).length ≤ 100000) : Runs a (diff 20 a b) b :=
  runs_of (n := 20) (by decide) (diff 20 a b) w a b ha hl (fun c hc => ⟨diff_good 20 a b ha hb c hc, diff_proper 20 a b c hc⟩) (apply_diff 20 a b da ⟨w, ha⟩ ⟨w, hb⟩)
end
end Sc

namespace Sc
open PySem L2
section
variable {P : Program} {w : World} {K : PySem.W.Frag} {mg : Str → Option Value} {base : Heap} {CA CN : Addr}
/-! ### the law: what is plain -/
def Fit (v : Vol) : Prop := v.Ok 250 ∧ v.depth ≤ 8 ∧ v.size ≤ 200
theorem fit_leaf {v : Vol} (h : v.isF = false) (k : v.Ok 0) : Fit v := by
  obtain ⟨k1, k2⟩ := leaf_ok (w' := 250) h k
  exact ⟨k1, by omega, by rw [(notF_depth h).2]; omega⟩
theorem diff_depth : ∀ (n : Nat) (a b : Vol), ∀ c ∈ diff n a b, ∀ u, c.put = some u → u.depth ≤ b.depth
  | 0, a, b, c, h => by rw [diff_zero] at h; cases h
  | n + 1, a, b, d, h => by
    rw [diff_succ] at h
    split at h
    · cases h
    · rcases isF_cases a b with ⟨as, bs, rfl, rfl⟩ | ho
      · rw [diffAt_folders] at h
        obtain ⟨m, hm, hd⟩ := List.mem_flatMap.mp h
        rw [Vol.depth]
        cases h2 : look bs m with
        | none =>
          rw [grp_removed h2, List.mem_singleton] at hd
          subst hd
          intro u e
          cases e
        | some v =>
          have dv : v.depth ≤ entsDepth bs := depth_mem (p := (m, v)) (look_mem h2)
          cases h1 : look as m with
          | none =>
            rw [grp_added h1 h2, List.mem_singleton] at hd
            subst hd
            intro u e
            cases e
            omega
          | some w =>
            rw [grp_both h1 h2] at hd
            obtain ⟨c, hc, rfl⟩ := List.mem_map.mp hd
            intro u e
            have := diff_depth n w v c hc u (by cases c <;> exact e)
            omega
      · rw [diffAt_other ho, List.mem_singleton] at h
        subst h
        intro u e
        cases e
        exact Nat.le_refl _
theorem eqv_self_all : ∀ cs : List Chg, PyData.eqvAll (cs.map Chg.data) (cs.map Chg.data) = true
  | [] => eqvAll_nn
  | c :: r => by
    rw [List.map_cons, eqvAll_cc, eqv_self_all r, Bool.and_true]
    cases c with
    | removed p =>
      rw [Chg.data, eqv_tup, eqvAll_cc, eqvAll_cc, eqvAll_nn, (eqv_str_iff _ _).mpr rfl, (eqv_row_iff _ _).mpr rfl]
      rfl
    | changed p v =>
      rw [Chg.data, eqv_tup, eqvAll_cc, eqvAll_cc, eqvAll_cc, eqvAll_nn, (eqv_str_iff _ _).mpr rfl, (eqv_row_iff _ _).mpr rfl, (veq_iff v v).mpr rfl]
      rfl
    | added p v =>
      rw [Chg.data, eqv_tup, eqvAll_cc, eqvAll_cc, eqvAll_cc, eqvAll_nn, (eqv_str_iff _ _).mpr rfl, (eqv_row_iff _ _).mpr rfl, (veq_iff v v).mpr rfl]
      rfl
theorem eqv_list_self (cs : List Chg) : PyData.eqv (.list (cs.map Chg.data)) (.list (cs.map Chg.data)) = true := by
  rw [PyData.eqv]
  exact eqv_self_all cs
theorem row_depth (l : List Str) : (rowD l).depth = 1 := by
  have h1 : ∀ l : List Str, PyData.depthAll (l.map .str) = 0 := fun l => by
    induction l with
    | nil => simp [PyData.depthAll]
    | cons x r ih => simp [PyData.depthAll, PyData.depth, ih]
  rw [rowD, PyData.depth, h1]
theorem ok_removed_s : PyData.strOk "removed" = true := by decide +kernel
theorem ok_changed_s : PyData.strOk "changed" = true := by decide +kernel
theorem ok_added_s : PyData.strOk "added" = true := by decide +kernel
theorem chg_shape {n W : Nat} {c : Chg} (g : Good n W c) (d : ∀ u, c.put = some u → u.depth ≤ 8) : c.data.canLay0 = true ∧ c.data.depth ≤ 30 := by
  obtain ⟨g1, g2, g3⟩ := g
  have lr : ∀ {l : List Str}, (∀ x ∈ l, okS x) → (rowD l).canLay0 = true := fun h => by rw [rowD, PyData.canLay0]; exact lay_row h
  have sd : ∀ s : Str, (PyData.str s).depth = 0 := fun s => by rw [PyData.depth]
  have sl : ∀ s : Str, (PyData.str s).canLay0 = PyData.strOk s := fun s => by rw [PyData.canLay0]
  cases c with
  | removed p =>
    rw [Chg.data, PyData.canLay0, PyData.canLayAll0, PyData.canLayAll0, PyData.canLayAll0, PyData.depth, PyData.depthAll, PyData.depthAll, PyData.depthAll, sl, lr (l := p) g2, row_depth, sd, ok_removed_s]
    exact ⟨rfl, by omega⟩
  | changed p v =>
    have h1 := data_lay v (g3 v rfl)
    have h2 := data_depth v
    have h3 := d v rfl
    rw [Chg.data, PyData.canLay0, PyData.canLayAll0, PyData.canLayAll0, PyData.canLayAll0, PyData.canLayAll0, PyData.depth, PyData.depthAll, PyData.depthAll, PyData.depthAll, PyData.depthAll, sl, lr (l := p) g2, row_depth, sd, ok_changed_s, h1]
    exact ⟨rfl, by omega⟩
  | added p v =>
    have h1 := data_lay v (g3 v rfl)
    have h2 := data_depth v
    have h3 := d v rfl
    rw [Chg.data, PyData.canLay0, PyData.canLayAll0, PyData.canLayAll0, PyData.canLayAll0, PyData.canLayAll0, PyData.depth, PyData.depthAll, PyData.depthAll, PyData.depthAll, PyData.depthAll, sl, lr (l := p) g2, row_depth, sd, ok_added_s, h1]
    exact ⟨rfl, by omega⟩
theorem chgs_shape : ∀ cs : List Chg, (∀ c ∈ cs, c.data.canLay0 = true ∧ c.data.depth ≤ 30) → PyData.canLayAll0 (cs.map Chg.data) = true ∧ PyData.depthAll (cs.map Chg.data) ≤ 30
  | [], _ => by
    rw [List.map_nil, PyData.canLayAll0, PyData.depthAll]
    exact ⟨rfl, by omega⟩
  | c :: r, h => by
    obtain ⟨h1, h2⟩ := h c List.mem_cons_self
    obtain ⟨h3, h4⟩ := chgs_shape r fun d hd => h d (List.mem_cons_of_mem _ hd)
    rw [List.map_cons, PyData.canLayAll0, PyData.depthAll, h1, h3]
    exact ⟨rfl, by omega⟩
theorem diff_shaped {a b : Vol} (ha : Fit a) (hb : Fit b) : SeqAt.shaped (.list ((diff 20 a b).map Chg.data)) = true := by
  obtain ⟨h1, h2⟩ := chgs_shape (diff 20 a b) fun c hc => chg_shape (diff_good 20 a b ha.1 hb.1 c hc) fun u hu => Nat.le_trans (diff_depth 20 a b c hc u hu) hb.2.1
  unfold SeqAt.shaped
  rw [PyData.canLay0, h1, PyData.depth, decide_eq_true (by omega)]
  rfl
theorem nil_shaped : SeqAt.shaped (.list []) = true := by
  unfold SeqAt.shaped
  rw [PyData.canLay0, PyData.canLayAll0, PyData.depth, PyData.depthAll, decide_eq_true (by omega)]
  rfl
theorem fit_diff {a b : Vol} (ha : Fit a) (hb : Fit b) : (diff 20 a b).length ≤ 400 := by
  have h1 := diff_length 20 a b ⟨250, ha.1⟩ ⟨250, hb.1⟩
  have h2 := ha.2.2
  have h3 := hb.2.2
  omega
theorem cut_ints (ns : List Int) (i j : Nat) : ∃ ms : List Int, cutV (ns.map V.int) (some (i : Int)) (some (j : Int)) = ms.map V.int ∧ ms.length ≤ j - i := by
  refine ⟨(ns.drop (HT.sIx (ns.map V.int).length 0 (some (i : Int)))).take (HT.sIx (ns.map V.int).length (ns.map V.int).length (some (j : Int)) - HT.sIx (ns.map V.int).length 0 (some (i : Int))), ?_, ?_⟩
  · unfold cutV
    rw [List.map_take, List.map_drop]
  · rw [HT.sIx_nat, HT.sIx_nat, List.length_take]
    omega
theorem cut_tail (ns : List Int) (i : Nat) : ∃ ms : List Int, cutV (ns.map V.int) (some (i : Int)) none = ms.map V.int ∧ ms.length ≤ ns.length - i := by
  refine ⟨(ns.drop (HT.sIx (ns.map V.int).length 0 (some (i : Int)))).take (HT.sIx (ns.map V.int).length (ns.map V.int).length none - HT.sIx (ns.map V.int).length 0 (some (i : Int))), ?_, ?_⟩
  · unfold cutV
    rw [List.map_take, List.map_drop]
  · rw [HT.sIx_nat, HT.sIx_none, List.length_map, List.length_take]
    omega
end
end Sc

namespace Sc
open PySem L2
section
variable {P : Program} {w : World} {K : PySem.W.Frag} {mg : Str → Option Value} {base : Heap} {CA CN : Addr}
/-! ### the law -/
theorem seq_via {t u : L2.TS} {D : Ends} {σ : L2.St} {H : Hp} (N : L2.St → Hp → Prop) (h2 : ∀ σ' H', N σ' H' → u D σ' H') (h1 : ∀ M : L2.St → Hp → Prop, (∀ σ' H', N σ' H' → M σ' H') → t { D with nx := M } σ H) : tSeq t u D σ H := h1 (u D) h2
theorem or_via {u : TT} {σ : L2.St} {H : Hp} {Q : Bool → Hp → Prop} {c : Bool} (R : Bool → Hp → Prop) (hQ : ∀ b H', R b H' → Q b H') (h1 : c = true → R true H) (h2 : ∀ Q' : Bool → Hp → Prop, (∀ b H', R b H' → Q' b H') → c = false → u σ H Q') : if c = true then Q true H else u σ H Q := by
  cases c with
  | true => exact hQ _ _ (h1 rfl)
  | false => exact h2 Q hQ rfl
def spLaw (K : PySem.W.Frag) : Sp := fun vs H Q _ => ∃ (a : Addr) (ns : List Int), vs = [.ref a] ∧ SqL K H a (ns.map V.int) ∧ ns.length ≤ 63 ∧ ∀ H', Q (.bl true) H'
abbrev nLaw : List Str := ["_law_script", "_law_first", "_law_second", "_law_kind", "_law_k", "_law_actual", "_law_a", "_law_b", "_law_copy", "e"]
theorem scLaw : FnScope nLaw ["_law_script"] (defScope sLaw) := ⟨rfl, rfl, rfl, by decide +kernel, rfl, by decide +kernel, by decide +kernel⟩
/-- isinstance(e, NoSuchPath) of the error that the suite holds -/
def tSuite (K : PySem.W.Frag) (CN : Addr) : Addr → Value → Option Addr → L2.TS := fun a cls d D σ H => (cls = .ref CN ∧ d = none) ∧ tRet (tCB (rIsE K CN a) (tCons (tVar 9) (tCons (tC (.ref CN)) tNil))) D σ H
theorem pss_when {X : Cx} {ss : List Stmt} {t : L2.TS} (c : Prop) (h : c → PSs X ss t) : PSs X ss (fun D σ H => c ∧ t D σ H) := ⟨fun pins s σ H D I h' => (h h'.1).run pins s σ H D I h'.2⟩
theorem ok_law {f0 : Addr} {fd0 : FuncData} {f1 : Addr} {fd1 : FuncData} {f2 : Addr} {fd2 : FuncData} {f3 : Addr} {fd3 : FuncData} {f4 : Addr} {fd4 : FuncData} {f5 : Addr} {fd5 : FuncData} {f6 : Addr} {fd6 : FuncData} {f7 : Addr} {fd7 : FuncData} {f8 : Addr} {fd8 : FuncData} {f9 : Addr} {fd9 : FuncData} {f10 : Addr} {fd10 : FuncData} {f11 : Addr} {fd11 : FuncData} {f12 : Addr} {fd12 : FuncData} {f13 : Addr} {fd13 : FuncData} {f14 : Addr} {fd14 : FuncData} {f15 : Addr} {fd15 : FuncData} {f16 : Addr} {fd16 : FuncData} {f17 : Addr} {fd17 : FuncData} {f18 : Addr} {fd18 : FuncData} {f19 : Addr} {fd19 : FuncData} {f20 : Addr} {fd20 : FuncData} {f21 : Addr} {fd21 : FuncData} {f22 : Addr} {fd22 : FuncData} {f23 : Addr} {fd23 : FuncData} {f24 : Addr} {fd24 : FuncData} {f25 : Addr} {fd25 : FuncData} {f26 : Addr} {fd26 : FuncData} {f27 : Addr} {fd27 : FuncData} {f28 : Addr} {fd28 : FuncData} (T : Txt K mg CA CN) (d0 : DPEntry K mg f0 fd0) (d1 : DPLookup K mg f1 fd1) (d2 : DPWithEntry K mg f2 fd2) (d3 : DPReplaced K mg f3 fd3) (d4 : DPRemoved K mg f4 fd4) (d5 : DPCollect K mg f5 fd5) (d6 : DPCompare K mg f6 fd6) (d7 : DPApplyChanges K mg f7 fd7) (d8 : DLCell K mg f8 fd8) (d9 : DLMix K mg f9 fd9) (d10 : DLRow K mg f10 fd10) (d11 : DLIsCode K mg f11 fd11) (d12 : DLChars K mg f12 fd12) (d13 : DLText K mg f13 fd13) (d14 : DLNames K mg f14 fd14) (d15 : DLLeaf K mg f15 fd15) (d16 : DLFolder K mg f16 fd16) (d17 : DLWide K mg f17 fd17) (d18 : DLVolume K mg f18 fd18) (d19 : DLIsText K mg f19 fd19) (d20 : DLIsName K mg f20 fd20) (d21 : DLIsBad K mg f21 fd21) (d22 : DLDepth K mg f22 fd22) (d23 : DLSize K mg f23 fd23) (d24 : DLBadPath K mg f24 fd24) (d25 : DLFault K mg f25 fd25) (d26 : DLEdit K mg f26 fd26) (d27 : DLCompare K mg f27 fd27) (d28 : DLaw K mg f28 fd28) :
    FnOk P w K mg base CX0 80 f28 fd28 ["_law_script"] (spLaw K) := by
  have GV := ok_volume (P := P) (w := w) (base := base) T d18 d9 d10 d12 d13 d15 d14 d16 d17
  have GC := ok_cell (P := P) (w := w) (base := base) T d8
  have GE := ok_edit (P := P) (w := w) (base := base) T d26 d9 d10 d12 d13 d15 d14 5
  have GF := ok_fault (P := P) (w := w) (base := base) T d25 d11 d19 d20 d21 d24 d22 d23
  have GL := ok_leaf (P := P) (w := w) (base := base) T d15 d9 d10 d12 d13
  have GO := ok_compare (P := P) (w := w) (base := base) T d6 d5
  have GM := ok_lcmp (P := P) (w := w) (base := base) T d27 20
  have GA := ok_apply (P := P) (w := w) (base := base) T d7 d0 d1 d2 d3 d4
  refine d28.F.ok scLaw (fun vs H Q E h => ?_) (fun cdv A outer s H vs Q E hr h => ?_)
  · obtain ⟨a, ns, rfl, _⟩ := h
    rfl
  obtain ⟨a, ns, rfl, ha, hn, q⟩ := h
  have hr1 : Room 1 _ := hr.mono (by decide)
  have hr4 : Room 4 _ := hr.mono (by decide)
  have hr5 : Room 5 _ := hr.mono (by decide)
  have hr9 : Room 9 _ := hr.mono (by decide)
  have hr20 : Room 20 _ := hr.mono (by decide)
  have hr21 : Room 21 _ := hr.mono (by decide)
  have hr54 : Room 54 _ := hr.mono (by decide)
  refine ⟨_, pss_cons (ps_set (i := 1) scLaw.nd rfl (.inl rfl) (pe_call GV hr5 rfl d18.m d18.F.kp d18.b .nil pass0 (pa_cons (pe_slice sl_list (pv 0) (po_some pe_int) (po_some pe_int)) pa_nil)))
    (pss_cons (ps_set (i := 2) scLaw.nd rfl (.inl rfl) (pe_call GV hr5 rfl d18.m d18.F.kp d18.b .nil pass0 (pa_cons (pe_slice sl_list (pv 0) (po_some pe_int) po_none) pa_nil)))
    (pss_cons (ps_set (i := 3) scLaw.nd rfl (.inl rfl) (pe_op op_mod (pe_call GC hr1 rfl d8.m d8.F.kp d8.b .nil pass0 (pa_cons (pv 0) (pa_cons pe_int pa_nil))) pe_int))
    (pss_cons (ps_if (pt_cmpR op_gt (pv 3) pe_int (nomark _))
      (pss_cons (ps_set (i := 2) scLaw.nd rfl (.inl rfl) (pv 1))
      (pss_one (ps_for PassesOwn.never rfl (pi_range1 (by rfl) T.mRange (pa_cons (pe_op op_mod (pe_call GC hr1 rfl d8.m d8.F.kp d8.b .nil pass0 (pa_cons (pv 0) (pa_cons pe_int pa_nil))) pe_int) pa_nil)) (pg_name (i := 4) scLaw.nd rfl (.inl rfl))
        (pss_one (ps_set (i := 2) scLaw.nd rfl (.inl rfl) (pe_call GE hr9 rfl d26.m d26.F.kp d26.b .nil pass0 (pa_cons (pv 2) (pa_cons (pe_call GC hr1 rfl d8.m d8.F.kp d8.b .nil pass0 (pa_cons (pv 0) (pa_cons (pe_op op_add pe_int (pv 4)) pa_nil))) (pa_cons pe_int pa_nil)))))))))
      pss_nil)
    (pss_cons (ps_if (PW.pt (pw_or (pt_cmp (pc_notN (pe_call GF hr54 rfl d25.m d25.F.kp d25.b .nil pass0 (pa_cons (pv 1) pa_nil)))) (pw_or1 (pt_cmp (pc_notN (pe_call GF hr54 rfl d25.m d25.F.kp d25.b .nil pass0 (pa_cons (pv 2) pa_nil)))))))
      (pss_cons (ps_set (i := 1) scLaw.nd rfl (.inl rfl) (pe_call GL hr4 rfl d15.m d15.F.kp d15.b .nil pass0 (pa_cons (pe_call GC hr1 rfl d8.m d8.F.kp d8.b .nil pass0 (pa_cons (pv 0) (pa_cons pe_int pa_nil))) pa_nil)))
      (pss_one (ps_set (i := 2) scLaw.nd rfl (.inl rfl) (pe_call GL hr4 rfl d15.m d15.F.kp d15.b .nil pass0 (pa_cons (pe_call GC hr1 rfl d8.m d8.F.kp d8.b .nil pass0 (pa_cons (pv 0) (pa_cons pe_int pa_nil))) pa_nil)))))
      pss_nil)
    (pss_cons (ps_set (i := 5) scLaw.nd rfl (.inl rfl) (pe_call GO hr21 rfl d6.m d6.F.kp d6.b .nil pass0 (pa_cons (pv 1) (pa_cons (pv 2) pa_nil))))
    (pss_cons (ps_if (PW.pt (pw_or (pt_not (pt_val (pe_callB call_isi (by rfl) T.mIsinstance (by decide +kernel) (pa_cons (pv 5) (pa_cons (pe_bltn (v := .ty "list") (u := .type "list") (by rfl) T.mList (by decide +kernel) rfl) pa_nil)))))
        (pw_or1 (pt_cmpR (op_neD hr.units) (pv 5) (pe_call GM hr20 rfl d27.m d27.F.kp d27.b .nil pass0 (pa_cons (pv 1) (pa_cons (pv 2) (pa_cons (pe_tup pa_nil) pa_nil)))) (nomark _))))) (pss_one (ps_ret pe_bl)) pss_nil)
    (pss_cons (ps_if (PW.pt (pw_or (pt_cmpR op_ne (pe_cmpR op_eq (pe_callB call_len_seq (by rfl) T.mLen PySem.boot_len (pa_cons (pv 5) pa_nil)) pe_int (nomark _)) (pe_cmpR (op_eqD hr.units) (pv 1) (pv 2) (nomark _)) (nomark _))
        (pw_or1 (pt_cmpR (op_neD hr.units) (pe_call GO hr21 rfl d6.m d6.F.kp d6.b .nil pass0 (pa_cons (pv 2) (pa_cons (pv 2) pa_nil))) (pe_lst pa_nil) (nomark _))))) (pss_one (ps_ret pe_bl)) pss_nil)
    (pss_cons (ps_for PassesOwn.never rfl (pi_range1 (by rfl) T.mRange (pa_cons (pe_callB call_len_seq (by rfl) T.mLen PySem.boot_len (pa_cons (pv 5) pa_nil)) pa_nil)) (pg_name (i := 6) scLaw.nd rfl (.inl rfl))
      (pss_one (ps_for PassesOwn.never rfl (pi_range1 (by rfl) T.mRange (pa_cons (pe_callB call_len_seq (by rfl) T.mLen PySem.boot_len (pa_cons (pv 5) pa_nil)) pa_nil)) (pg_name (i := 7) scLaw.nd rfl (.inl rfl))
        (pss_one (ps_if (PW.pt (pw_and (pt_cmpR op_ne (pv 6) (pv 7) (nomark _)) (pw_and1 (pt_cmpR (op_eqD hr.units)
            (pe_slice sl_tupA (pe_ix ix_tup (pe_ix ix_list (pv 5) (pv 7) (fun _ _ => rfl)) pe_int (fun _ _ => rfl)) po_none (po_some (pe_callB call_len_seq (by rfl) T.mLen PySem.boot_len (pa_cons (pe_ix ix_tup (pe_ix ix_list (pv 5) (pv 6) (fun _ _ => rfl)) pe_int (fun _ _ => rfl)) pa_nil))))
            (pe_ix ix_tup (pe_ix ix_list (pv 5) (pv 6) (fun _ _ => rfl)) pe_int (fun _ _ => rfl)) (nomark _))))) (pss_one (ps_ret pe_bl)) pss_nil)))))
    (pss_cons (ps_set (i := 8) scLaw.nd rfl (.inl rfl) (pe_callTy call_list_of (by rfl) T.mList (by decide +kernel) (pa_cons (pv 5) pa_nil)))
    (pss_cons (ps_if (PW.pt (pw_or (pt_cmpR (op_neD hr.units) (pe_call GA hr5 rfl d7.m d7.F.kp d7.b .nil passL (pa_cons (pv 1) (pa_cons (pv 8) pa_nil))) (pv 2) (nomark _)) (pw_or1 (pt_cmpR (op_neD hr.units) (pv 8) (pv 5) (nomark _))))) (pss_one (ps_ret pe_bl)) pss_nil)
    (pss_one (ps_try_as (i := 9) (tb := fun W => tSeq (tDrop (tCallS (spApply K CN) (WE W) (tCons (tTup (tCons (tC (.str "text")) (tCons (tC (.str "x")) tNil))) (tCons (tLst (tCons (tTup (tCons (tC (.str "removed")) (tCons (tTup (tCons (tC (.str "a")) tNil)) tNil))) tNil)) tNil)))) (tRet (tC (.bl false))))
        (ts := tSuite K CN) (Wout := fun _ _ _ _ => False) rfl rfl scLaw.nd rfl rfl ⟨rfl, by decide, .inl T.gA⟩ takes0
      (fun W pn xe tk _ => pss_cons (ps_expr (pe_callS GA hr5 rfl d7.m d7.F.kp d7.b (fun σ => passAt tk σ) (pa_cons (pe_tup (pa_cons pe_str (pa_cons pe_str pa_nil))) (pa_cons (pe_lst (pa_cons (pe_tup (pa_cons pe_str (pa_cons (pe_tup (pa_cons pe_str pa_nil)) pa_nil))) pa_nil)) pa_nil)))) (pss_one (ps_ret pe_bl)))
      (fun b oe cls d pn hz hf => pss_when (cls = .ref CN ∧ d = none) fun e => by
        obtain ⟨e1, e2⟩ := e
        subst e1
        subst e2
        refine pss_one (ps_ret (pe_callB (call_isE T.cN hz hf) (by rfl) T.mIsinstance (by decide +kernel) (pa_cons (pv 9) (pa_cons (pe_glob rfl T.gN rfl) pa_nil)))))
      )))))))))))), ?_⟩
  -- 1. first
  refine seq_via (fun σ H1 => ∃ u x, σ = [some (.ref a), some u, none, none, none, none, none, none, none, none] ∧ Same H H1 ∧ VolAt H1 u x ∧ VOk 40 x) (fun σ H1 h1 => ?_) (fun M hM => ?_)
  rotate_left
  · obtain ⟨ms, e1, e2⟩ := cut_ints ns 9 40
    refine ⟨_, rfl, _, rfl, _, rfl, a, _, rfl, ha, fun p np => ⟨p, ms, rfl, ?_, by omega, fun r H2 v s2 hv ok => hM _ _ ?_⟩⟩
    · rw [← e1]
      exact SqL.of upd_same
    · exact ⟨r, v, rfl, (same_new np _).trans s2, hv, ok.mono (by omega)⟩
  obtain ⟨u, x, rfl, s1, hu, ku⟩ := h1
  -- 2. second
  refine seq_via (fun σ H2 => ∃ v y, σ = [some (.ref a), some u, some v, none, none, none, none, none, none, none] ∧ Same H H2 ∧ VolAt H2 u x ∧ VolAt H2 v y ∧ VOk 40 y) (fun σ H2 h1 => ?_) (fun M hM => ?_)
  rotate_left
  · obtain ⟨ms, e1, e2⟩ := cut_tail ns 40
    refine ⟨_, rfl, _, rfl, a, _, rfl, s1.seq ha, fun p np => ⟨p, ms, rfl, ?_, by omega, fun r H2 v s2 hv ok => hM _ _ ?_⟩⟩
    · rw [← e1]
      exact SqL.of upd_same
    · have s3 := (same_new np (.lst (cutV (ns.map V.int) (some 40) none))).trans s2
      exact ⟨r, v, rfl, s1.trans s3, Tp.mono (ts_of s3) hu, hv, ok.mono (by omega)⟩
  clear hu s1
  obtain ⟨v, y, rfl, s1, hu, hv, kv⟩ := h1
  -- 3. kind
  refine seq_via (fun σ H3 => ∃ z : Int, σ = [some (.ref a), some u, some v, some (.int z), none, none, none, none, none, none] ∧ H3 = H2) (fun σ H3 h1 => ?_) (fun M hM => ?_)
  rotate_left
  · exact ⟨_, rfl, a, ns, 0, rfl, s1.seq ha, by decide, fun z => ⟨_, _, rfl, rfl, (show (0 : Int) < 3 by decide), hM _ _ ⟨_, rfl, rfl⟩⟩⟩
  obtain ⟨kd, rfl, rfl⟩ := h1
  -- 4. edits
  refine seq_via (fun σ H4 => ∃ o4 v y, σ = [some (.ref a), some u, some v, some (.int kd), o4, none, none, none, none, none] ∧ Same H H4 ∧ VolAt H4 u x ∧ VolAt H4 v y ∧ VB 250 50 y) (fun σ H4 h1 => ?_) (fun M hM => ?_)
  rotate_left
  · refine ⟨_, rfl, _, _, rfl, rfl, _, rfl, ?_⟩
    refine ite2 (fun _ => ?_) (fun _ => hM _ _ ⟨none, v, y, rfl, s1, hu, hv, Vol.ok_up (by decide) _ kv.1, by have := kv.2; omega⟩)
    refine ⟨_, rfl, _, rfl, a, ns, 1, rfl, s1.seq ha, by decide, fun z => ?_⟩
    have z0 := Int.emod_nonneg z (show (7 : Int) ≠ 0 by decide)
    have z1 := Int.emod_lt_of_pos z (show (0 : Int) < 7 by decide)
    refine ⟨_, _, rfl, rfl, (show (0 : Int) < 7 by decide), z % 7, rfl, by omega, by omega, for_range (lo := 0) (n := (z % 7).toNat) (fun i σ H' => ∃ o4 v y, σ = [some (.ref a), some u, some v, some (.int kd), o4, none, none, none, none, none] ∧ Same H H' ∧ VolAt H' u x ∧ VolAt H' v y ∧ VB (240 + i) (40 + i) y)
      ⟨none, u, x, rfl, s1, hu, hu, ku⟩ ?_ ?_⟩
    · rintro i σ H' hi ⟨o4, v', y', rfl, s2, hu', hv', kb⟩
      refine ⟨_, rfl, _, rfl, _, rfl, _, _, rfl, rfl, a, ns, _, rfl, s2.seq ha, by omega, fun z2 => ?_⟩
      refine ⟨v', y', z2, 4, 240 + i, rfl, hv', kb.1, by omega, by decide, fun r H5 v2 s3 hr' hb => ?_⟩
      exact ⟨_, r, v2, rfl, s2.trans s3, Tp.mono (ts_of s3) hu', hr', hb.1, by have := hb.2; have := kb.2; omega⟩
    · rintro σ H' ⟨o4, v', y', rfl, s2, hu', hv', kb⟩
      exact hM _ _ ⟨o4, v', y', rfl, s2, hu', hv', Vol.ok_up (by omega) _ kb.1, by have := kb.2; omega⟩
  clear hv kv hu s1
  obtain ⟨o4, v, y, rfl, s1, hu, hv, kv⟩ := h1
  -- 5. faults
  refine seq_via (fun σ H5 => ∃ u x v y, σ = [some (.ref a), some u, some v, some (.int kd), o4, none, none, none, none, none] ∧ Same H H5 ∧ VolAt H5 u x ∧ VolAt H5 v y ∧ Fit x ∧ Fit y) (fun σ H5 h1 => ?_) (fun M hM => ?_)
  rotate_left
  · have kx : VB 250 50 x := ⟨Vol.ok_up (by decide) _ ku.1, by have := ku.2; omega⟩
    refine ⟨_, rfl, u, x, rfl, hu, kx.2, kx.1, fun r H5 s2 hr' => ⟨_, rfl, ?_⟩⟩
    refine or_via (fun b H' => Same H4 H' ∧ (b = false → Fit x ∧ Fit y)) (fun b H' h2 => ?_) (fun _ => ⟨s2, fun z => nomatch z⟩) (fun Q' hQ' c1 => ?_)
    · obtain ⟨s3, h3⟩ := h2
      refine ite2 (fun _ => ?_) (fun c => ?_)
      · have sa := (s1.trans s3).seq ha
        refine ⟨_, rfl, a, ns, 0, rfl, sa, by decide, fun z => ⟨z, rfl, fun r1 H6 v1 s4 hr1' hf1 hk1 => ?_⟩⟩
        refine ⟨_, rfl, a, ns, 1, rfl, s4.seq sa, by decide, fun z => ⟨z, rfl, fun r2 H7 v2 s5 hr2' hf2 hk2 => ?_⟩⟩
        exact hM _ _ ⟨r1, v1, r2, v2, rfl, s1.trans (s3.trans (s4.trans s5)), Tp.mono (ts_of s5) hr1', hr2', fit_leaf hf1 hk1, fit_leaf hf2 hk2⟩
      · obtain ⟨fx, fy⟩ := h3 (by cases b with | false => rfl | true => exact absurd rfl c)
        exact hM _ _ ⟨u, x, v, y, rfl, s1.trans s3, Tp.mono (ts_of s3) hu, Tp.mono (ts_of s3) hv, fx, fy⟩
    · have r0 : r = .non := by
        by_cases e : r = .non
        · exact e
        · rw [decide_eq_false e] at c1
          cases c1
      obtain ⟨x1, x2⟩ := hr' r0
      refine ⟨_, rfl, v, y, rfl, Tp.mono (ts_of s2) hv, kv.2, kv.1, fun r2 H6 s3 hr2' => ⟨_, rfl, hQ' _ _ ⟨s2.trans s3, fun c2 => ?_⟩⟩⟩
      have r0 : r2 = .non := by
        by_cases e : r2 = .non
        · exact e
        · rw [decide_eq_false e] at c2
          cases c2
      obtain ⟨y1, y2⟩ := hr2' r0
      exact ⟨⟨kx.1, x1, x2⟩, kv.1, y1, y2⟩
  clear hv kv hu s1
  obtain ⟨u, x, v, y, rfl, s1, hu, hv, fx, fy⟩ := h1
  -- 6. the changes
  refine seq_via (fun σ H6 => ∃ l ys, σ = [some (.ref a), some u, some v, some (.int kd), o4, some (.ref l), none, none, none, none] ∧ Same H5 H6 ∧ H6 l = some (.lst ys) ∧ TpAll H6 ys ((diff 20 x y).map Chg.data)) (fun σ H6 h1 => ?_) (fun M hM => ?_)
  rotate_left
  · refine ⟨_, rfl, _, rfl, u, v, x, y, 250, rfl, hu, hv, by have := fx.2.1; omega, by have := fy.2.1; omega, fx.1, fy.1, by decide, by have := fit_diff fx fy; omega, fun l ys H6 s2 hl ht => hM _ _ ⟨l, ys, rfl, s2, hl, ht⟩⟩
  obtain ⟨l, ys, rfl, s2, hl, ht⟩ := h1
  have sa := s1.trans s2
  -- 7. the law's own compare
  have lenD := fit_diff fx fy
  have yl := ht.len
  rw [List.length_map] at yl
  have shD := diff_shaped fx fy
  refine seq_via (fun σ H7 => σ = [some (.ref a), some u, some v, some (.int kd), o4, some (.ref l), none, none, none, none] ∧ Same H6 H7) (fun σ H7 h1 => ?_) (fun M hM => ?_)
  rotate_left
  · refine ⟨_, rfl, _, _, _, _, true, rfl, ClsV.ty "list", TyX.base (TyOf.lst hl), if_pos (beq_self_eq_true _), _, rfl, ?_⟩
    refine ifF rfl ?_
    refine ⟨_, rfl, _, rfl, _, rfl, sz0, fun t nt => ?_⟩
    have s3 := same_new nt (.tup [])
    refine ⟨u, v, .ref t, x, y, [], 250, rfl, Tp.mono (ts_of (s2.trans s3)) hu, Tp.mono (ts_of (s2.trans s3)) hv, PathAt.mk upd_same, by have := fx.2.1; omega, by decide, by have := fy.2.1; omega, fx.1, fy.1, by decide, by decide, fun z hz => by simp at hz, by omega, fun l2 ys2 H7 s4 hl2 ht2 => ?_⟩
    rw [under_nil'] at ht2
    have s5 := s3.trans s4
    refine ⟨.list ((diff 20 x y).map Chg.data), .list ((diff 20 x y).map Chg.data), .lst (SqL.of (s5 _ _ hl)) (TpAll.dp (TpAll.mono (ts_of s5) ht)), .lst (SqL.of hl2) (TpAll.dp ht2), shD, shD, _, rfl, ?_⟩
    refine ifF (by rw [eqv_list_self]; rfl) ?_
    exact hM _ _ ⟨rfl, s5⟩
  obtain ⟨rfl, s3⟩ := h1
  -- 8. empty iff equal; nothing between a volume and itself
  have ox := shaped_vol fx.1 (by have := fx.2.1; omega)
  have oy := shaped_vol fy.1 (by have := fy.2.1; omega)
  have wx : x.Wf := ⟨250, fx.1⟩
  have wy : y.Wf := ⟨250, fy.1⟩
  have s23 := s2.trans s3
  have hl7 := s3 _ _ hl
  have hu7 := Tp.mono (ts_of s23) hu
  have hv7 := Tp.mono (ts_of s23) hv
  have ht7 := TpAll.mono (ts_of s3) ht
  clear hu hv ht hl
  refine seq_via (fun σ H8 => σ = [some (.ref a), some u, some v, some (.int kd), o4, some (.ref l), none, none, none, none] ∧ Same H7 H8) (fun σ H8 h1 => ?_) (fun M hM => ?_)
  rotate_left
  · refine ⟨_, rfl, l, ys, rfl, .inl (SqL.of hl7), rfl, _, rfl, _, rfl, x.data, y.data, hu7.dp, hv7.dp, ox, oy, rfl, _, rfl, ?_⟩
    have e8 : decide (V.int ((ys.length : Nat) : Int) = V.int 0) = PyData.eqv x.data y.data := by
      by_cases e : x = y
      · have d0 : diff 20 x y = [] := (diff_nil (by have := fx.2.1; omega) wx wy).mpr e
        rw [d0] at yl
        rw [(veq_iff x y).mpr e, yl]
        exact decide_eq_true rfl
      · have d1 : PyData.eqv x.data y.data = false := by
          cases h : PyData.eqv x.data y.data with
          | false => rfl
          | true => exact absurd ((veq_iff x y).mp h) e
        rw [d1]
        refine decide_eq_false fun z => e ((diff_nil (n := 20) (by have := fx.2.1; omega) wx wy).mp (List.eq_nil_of_length_eq_zero ?_))
        injection z with z
        omega
    refine ifF (by rw [e8]; simp) ?_
    refine ⟨_, rfl, _, rfl, v, v, y, y, 250, rfl, hv7, hv7, by have := fy.2.1; omega, by have := fy.2.1; omega, fy.1, fy.1, by decide, by rw [diff_self]; decide, fun l2 ys2 H8 s4 hl2 ht2 => ⟨sz0, fun l3 nl3 => ?_⟩⟩
    rw [diff_self, List.map_nil] at ht2
    have e2 := ht2.nil_inv
    subst e2
    refine ⟨.list [], .list [], .lst (SqL.of (same_new nl3 _ _ _ hl2)) .nil, .lst (SqL.of upd_same) .nil, nil_shaped, nil_shaped, _, rfl, ?_⟩
    refine ifF (by rw [PyData.eqv, eqvAll_nn]; rfl) ?_
    exact hM _ _ ⟨rfl, s4.trans (same_new nl3 _)⟩
  obtain ⟨rfl, s4⟩ := h1
  -- 9. no path begins with another
  refine seq_via (fun σ H9 => ∃ o6 o7, σ = [some (.ref a), some u, some v, some (.int kd), o4, some (.ref l), o6, o7, none, none] ∧ Same H7 H9) (fun σ H9 h1 => ?_) (fun M hM => ?_)
  rotate_left
  · refine ⟨_, rfl, l, ys, rfl, .inl (SqL.of (s4 _ _ hl7)), _, rfl, by omega, by omega, for_range (lo := 0) (n := ys.length) (fun i σ H' => ∃ o6 o7, σ = [some (.ref a), some u, some v, some (.int kd), o4, some (.ref l), o6, o7, none, none] ∧ Same H7 H')
      ⟨none, none, rfl, s4⟩ ?_ (fun σ H' h => hM _ _ h)⟩
    rintro i σ H' hi ⟨o6, o7, rfl, s5⟩
    refine ⟨_, rfl, l, ys, rfl, .inl (SqL.of (s5 _ _ hl7)), _, rfl, by omega, by omega, for_range (lo := 0) (n := ys.length) (fun j σ H' => ∃ o7, σ = [some (.ref a), some u, some v, some (.int kd), o4, some (.ref l), some (.int (0 + i)), o7, none, none] ∧ Same H7 H')
      ⟨_, rfl, s5⟩ ?_ (fun σ H' ⟨o7, h1, h2⟩ => ⟨_, o7, h1, h2⟩)⟩
    rintro j σ H8' hj ⟨o7, rfl, s6⟩
    refine ⟨_, rfl, _, rfl, rfl, _, rfl, ?_⟩
    by_cases ij : i = j
    · subst ij
      refine ifF (by simp) ?_
      exact ⟨_, rfl, s6⟩
    refine ifT (by rw [decide_eq_false (fun z => ij (by injection z with z; omega))]; rfl) ?_
    have at_ : ∀ k, k < ys.length → ∃ c t q t0 r, (diff 20 x y)[k]? = some c ∧ atI ys (0 + (k : Int)) = some (.ref t) ∧ H7 t = some (.tup (t0 :: .ref q :: r)) ∧ H7 q = some (.tup (c.path.map V.str)) := fun k hk => by
      have hx : ys[k]? = some ys[k] := List.getElem?_eq_getElem hk
      generalize ys[k] = xk at hx
      obtain ⟨d, hd1, hd2⟩ := ht7.get hx
      obtain ⟨c, hc1, rfl⟩ := map_at hd1
      obtain ⟨t, k0, q, r, rfl, h1, h2⟩ := chg_path hd2
      obtain ⟨qa, rfl, h3⟩ := h2.inv
      exact ⟨c, t, qa, k0, r, hc1, by rw [Int.zero_add]; exact atI_nat hx, h1, h3⟩
    obtain ⟨ci, ti, qi, ki, ri, hci, ati, hti, hqi⟩ := at_ i hi
    obtain ⟨cj, tj, qj, kj, rj, hcj, atj, htj, hqj⟩ := at_ j hj
    have hl8 := s6 _ _ hl7
    refine ⟨_, rfl, _, rfl, l, ys, _, _, rfl, rfl, SqL.of hl8, atj, tj, _, 1, _, rfl, rfl, SqT.of (s6 _ _ htj), at1 _ _ _, ?_⟩
    refine ⟨_, rfl, _, rfl, l, ys, _, _, rfl, rfl, SqL.of hl8, ati, ti, _, 1, _, rfl, rfl, SqT.of (s6 _ _ hti), at1 _ _ _, qi, _, rfl, .inr (SqT.of (s6 _ _ hqi)), _, rfl, ?_⟩
    refine slA_take (k := ci.path.length) (s6 _ _ hqj) (by rw [List.length_map]) fun pz H9 s7 hpz => ?_
    have s8 := s6.trans s7
    refine ⟨_, rfl, _, rfl, l, ys, _, _, rfl, rfl, SqL.of (s8 _ _ hl7), ati, ti, _, 1, _, rfl, rfl, SqT.of (s8 _ _ hti), at1 _ _ _, ?_⟩
    have gi := diff_good 20 x y fx.1 fy.1 ci (List.mem_of_getElem? hci)
    have gj := diff_good 20 x y fx.1 fy.1 cj (List.mem_of_getElem? hcj)
    refine ⟨rowD (cj.path.take ci.path.length), rowD ci.path, (PathAt.mk hpz).dp, (PathAt.mk (s8 _ _ hqi)).dp, shaped_row (fun z hz => gj.2.1 z (List.mem_of_mem_take hz)), shaped_row gi.2.1, _, rfl, ?_⟩
    have ne : PyData.eqv (rowD (cj.path.take ci.path.length)) (rowD ci.path) = false := by
      cases h : PyData.eqv (rowD (cj.path.take ci.path.length)) (rowD ci.path) with
      | false => rfl
      | true => exact absurd ((eqv_row_iff _ _).mp h) (diff_take [] wx wy ij hci hcj)
    refine ifF ne ?_
    exact ⟨_, rfl, s8⟩
  clear s4
  obtain ⟨o6, o7, rfl, s4⟩ := h1
  -- 10. a copy
  refine seq_via (fun σ H10 => ∃ c, σ = [some (.ref a), some u, some v, some (.int kd), o4, some (.ref l), o6, o7, some (.ref c), none] ∧ Same H7 H10 ∧ H10 c = some (.lst ys)) (fun σ H10 h1 => ?_) (fun M hM => ?_)
  rotate_left
  · exact ⟨_, rfl, l, ys, rfl, .inl (SqL.of (s4 _ _ hl7)), fun c nc => hM _ _ ⟨c, rfl, s4.trans (same_new nc _), upd_same⟩⟩
  obtain ⟨c, rfl, s5, hc⟩ := h1
  -- 11. the changes applied
  refine seq_via (fun σ H11 => σ = [some (.ref a), some u, some v, some (.int kd), o4, some (.ref l), o6, o7, some (.ref c), none]) (fun σ H11 h1 => ?_) (fun M hM => ?_)
  rotate_left
  · refine ⟨_, rfl, _, rfl, u, c, ys, x, diff 20 x y, rfl, Tp.mono (ts_of s5) hu7, SqL.of hc, TpAll.mono (ts_of s5) ht7, .inl ⟨y, diff_runs fx.1 fy.1 (by have := fx.2.1; omega) (by omega), fun r H11 s6 hr' => ?_⟩⟩
    refine ⟨_, rfl, y.data, y.data, hr'.dp, (Tp.mono (ts_of (s5.trans s6)) hv7).dp, oy, oy, _, rfl, ?_⟩
    refine ifF (by rw [(veq_iff y y).mpr rfl]; rfl) ?_
    have tD := TpAll.mono (ts_of (s5.trans s6)) ht7
    refine ⟨_, rfl, _, rfl, .list ((diff 20 x y).map Chg.data), .list ((diff 20 x y).map Chg.data), .lst (SqL.of (s6 _ _ hc)) (TpAll.dp tD), .lst (SqL.of (s6 _ _ (s5 _ _ hl7))) (TpAll.dp tD), shD, shD, _, rfl, ?_⟩
    refine ifF (by rw [eqv_list_self]; rfl) ?_
    exact hM _ _ rfl
  subst h1
  -- 12. a place that is not there
  refine ⟨sz2 _ _, fun t1 n1 => ⟨sz1 _, fun t2 n2 => ⟨sz2 _ _, fun t3 n3 => ⟨sz1 _, fun b nb => ?_⟩⟩⟩⟩
  have k1 := same_new n2 (.tup [.str "a"])
  have k2 := same_new n3 (.tup [.str "removed", .ref t2])
  have k3 := same_new nb (.lst [.ref t3])
  refine ⟨.ref t1, b, [.ref t3], .text "x", [.removed ["a"]], rfl, VolAt.text (k3 _ _ (k2 _ _ (k1 _ _ upd_same))), SqL.of upd_same, .cons (.tup (k3 _ _ upd_same) (.cons (.str _) (.cons (PathAt.mk (p := ["a"]) (k3 _ _ (k2 _ _ upd_same))) .nil))) .nil, .inr ⟨["a"], rfl, List.cons_ne_nil _ _, by decide, ?_, ?_, ?_⟩⟩
  · rw [Vol.Ok]
    exact ⟨by decide +kernel, by decide +kernel⟩
  · rw [lookupV]
  · refine ⟨true, T.eN, fun _ a0 na0 => ⟨⟨rfl, rfl⟩, ?_⟩, fun z => nomatch z⟩
    exact ⟨_, rfl, .ref CN, .ref CN, true, rfl, fun u r => r, T.iN, q _⟩
end
end Sc

namespace Sc
open PySem L2
theorem ok_all {P : Program} {w : World} {K : PySem.W.Frag} {mg : Str → Option Value} {base : Heap} {CA CN : Addr} {f0 : Addr} {fd0 : FuncData} {f1 : Addr} {fd1 : FuncData} {f2 : Addr} {fd2 : FuncData} {f3 : Addr} {fd3 : FuncData} {f4 : Addr} {fd4 : FuncData} {f5 : Addr} {fd5 : FuncData} {f6 : Addr} {fd6 : FuncData} {f7 : Addr} {fd7 : FuncData} {f8 : Addr} {fd8 : FuncData} {f9 : Addr} {fd9 : FuncData} {f10 : Addr} {fd10 : FuncData} {f11 : Addr} {fd11 : FuncData} {f12 : Addr} {fd12 : FuncData} {f13 : Addr} {fd13 : FuncData} {f14 : Addr} {fd14 : FuncData} {f15 : Addr} {fd15 : FuncData} {f16 : Addr} {fd16 : FuncData} {f17 : Addr} {fd17 : FuncData} {f18 : Addr} {fd18 : FuncData} {f19 : Addr} {fd19 : FuncData} {f20 : Addr} {fd20 : FuncData} {f21 : Addr} {fd21 : FuncData} {f22 : Addr} {fd22 : FuncData} {f23 : Addr} {fd23 : FuncData} {f24 : Addr} {fd24 : FuncData} {f25 : Addr} {fd25 : FuncData} {f26 : Addr} {fd26 : FuncData} {f27 : Addr} {fd27 : FuncData} {f28 : Addr} {fd28 : FuncData} (T : Txt K mg CA CN) (d0 : DPEntry K mg f0 fd0) (d1 : DPLookup K mg f1 fd1) (d2 : DPWithEntry K mg f2 fd2) (d3 : DPReplaced K mg f3 fd3) (d4 : DPRemoved K mg f4 fd4) (d5 : DPCollect K mg f5 fd5) (d6 : DPCompare K mg f6 fd6) (d7 : DPApplyChanges K mg f7 fd7) (d8 : DLCell K mg f8 fd8) (d9 : DLMix K mg f9 fd9) (d10 : DLRow K mg f10 fd10) (d11 : DLIsCode K mg f11 fd11) (d12 : DLChars K mg f12 fd12) (d13 : DLText K mg f13 fd13) (d14 : DLNames K mg f14 fd14) (d15 : DLLeaf K mg f15 fd15) (d16 : DLFolder K mg f16 fd16) (d17 : DLWide K mg f17 fd17) (d18 : DLVolume K mg f18 fd18) (d19 : DLIsText K mg f19 fd19) (d20 : DLIsName K mg f20 fd20) (d21 : DLIsBad K mg f21 fd21) (d22 : DLDepth K mg f22 fd22) (d23 : DLSize K mg f23 fd23) (d24 : DLBadPath K mg f24 fd24) (d25 : DLFault K mg f25 fd25) (d26 : DLEdit K mg f26 fd26) (d27 : DLCompare K mg f27 fd27) (d28 : DLaw K mg f28 fd28) :
    FnOk P w K mg base CX0 80 f28 fd28 ["_law_script"] (spLaw K) := ok_law T d0 d1 d2 d3 d4 d5 d6 d7 d8 d9 d10 d11 d12 d13 d14 d15 d16 d17 d18 d19 d20 d21 d22 d23 d24 d25 d26 d27 d28
theorem all_mk {P : Program} {w : World} {K : PySem.W.Frag} {h : Heap} {mg : Str → Option Value} {fa CA CN f0 f1 f2 f3 f4 f5 f6 f7 f8 f9 f10 f11 f12 f13 f14 f15 f16 f17 f18 f19 f20 f21 f22 f23 f24 f25 f26 f27 f28 : Addr} (X : K.In h) (G : h.Ns mainGlobals mg) (hfa : mg "law" = some (.ref fa))
    {od0 an0 od1 an1 od2 an2 od3 an3 od4 an4 od5 an5 od6 an6 od7 an7 od8 an8 od9 an9 od10 an10 od11 an11 od12 an12 od13 an13 od14 an14 od15 an15 od16 an16 od17 an17 od18 an18 od19 an19 od20 an20 od21 an21 od22 an22 od23 an23 od24 an24 od25 an25 od26 an26 od27 an27 od28 an28 : Option Addr} {sl0 sl1 sl2 sl3 sl4 sl5 sl6 sl7 sl8 sl9 sl10 sl11 sl12 sl13 sl14 sl15 sl16 sl17 sl18 sl19 sl20 sl21 sl22 sl23 sl24 sl25 sl26 sl27 sl28 : Array (Option Value)} {oc0 kV0 dc0 pm0 cd0 ct0 oc1 kV1 dc1 pm1 cd1 ct1 oc2 kV2 dc2 pm2 cd2 ct2 oc3 kV3 dc3 pm3 cd3 ct3 oc4 kV4 dc4 pm4 cd4 ct4 oc5 kV5 dc5 pm5 cd5 ct5 oc6 kV6 dc6 pm6 cd6 ct6 oc7 kV7 dc7 pm7 cd7 ct7 oc8 kV8 dc8 pm8 cd8 ct8 oc9 kV9 dc9 pm9 cd9 ct9 oc10 kV10 dc10 pm10 cd10 ct10 oc11 kV11 dc11 pm11 cd11 ct11 oc12 kV12 dc12 pm12 cd12 ct12 oc13 kV13 dc13 pm13 cd13 ct13 oc14 kV14 dc14 pm14 cd14 ct14 oc15 kV15 dc15 pm15 cd15 ct15 oc16 kV16 dc16 pm16 cd16 ct16 oc17 kV17 dc17 pm17 cd17 ct17 oc18 kV18 dc18 pm18 cd18 ct18 oc19 kV19 dc19 pm19 cd19 ct19 oc20 kV20 dc20 pm20 cd20 ct20 oc21 kV21 dc21 pm21 cd21 ct21 oc22 kV22 dc22 pm22 cd22 ct22 oc23 kV23 dc23 pm23 cd23 ct23 oc24 kV24 dc24 pm24 cd24 ct24 oc25 kV25 dc25 pm25 cd25 ct25 oc26 kV26 dc26 pm26 cd26 ct26 oc27 kV27 dc27 pm27 cd27 ct27 oc28 kV28 dc28 pm28 cd28 ct28 : Value}
    (a0 : PySem.W.nsIn K mainGlobals "_entry" = some (some (.ref f0))) (l0 : K.lookup f0 = some ⟨oc0, od0, .func (PySem.W.fnOf "_entry" "_entry" (defArgs sPEntry) (defBody sPEntry) (defScope sPEntry) .none kV0 dc0 pm0 an0 cd0 ct0), sl0⟩) (c0 : PySem.W.codeIn K cd0 "_entry" = true) (k0 : PySem.W.keepIn K (.ref f0) = true)
    (a1 : PySem.W.nsIn K mainGlobals "lookup" = some (some (.ref f1))) (l1 : K.lookup f1 = some ⟨oc1, od1, .func (PySem.W.fnOf "lookup" "lookup" (defArgs sPLookup) (defBody sPLookup) (defScope sPLookup) .none kV1 dc1 pm1 an1 cd1 ct1), sl1⟩) (c1 : PySem.W.codeIn K cd1 "lookup" = true) (k1 : PySem.W.keepIn K (.ref f1) = true)
    (a2 : PySem.W.nsIn K mainGlobals "_with_entry" = some (some (.ref f2))) (l2 : K.lookup f2 = some ⟨oc2, od2, .func (PySem.W.fnOf "_with_entry" "_with_entry" (defArgs sPWithEntry) (defBody sPWithEntry) (defScope sPWithEntry) .none kV2 dc2 pm2 an2 cd2 ct2), sl2⟩) (c2 : PySem.W.codeIn K cd2 "_with_entry" = true) (k2 : PySem.W.keepIn K (.ref f2) = true)
    (a3 : PySem.W.nsIn K mainGlobals "replaced" = some (some (.ref f3))) (l3 : K.lookup f3 = some ⟨oc3, od3, .func (PySem.W.fnOf "replaced" "replaced" (defArgs sPReplaced) (defBody sPReplaced) (defScope sPReplaced) .none kV3 dc3 pm3 an3 cd3 ct3), sl3⟩) (c3 : PySem.W.codeIn K cd3 "replaced" = true) (k3 : PySem.W.keepIn K (.ref f3) = true)
    (a4 : PySem.W.nsIn K mainGlobals "removed" = some (some (.ref f4))) (l4 : K.lookup f4 = some ⟨oc4, od4, .func (PySem.W.fnOf "removed" "removed" (defArgs sPRemoved) (defBody sPRemoved) (defScope sPRemoved) .none kV4 dc4 pm4 an4 cd4 ct4), sl4⟩) (c4 : PySem.W.codeIn K cd4 "removed" = true) (k4 : PySem.W.keepIn K (.ref f4) = true)
    (a5 : PySem.W.nsIn K mainGlobals "_collect" = some (some (.ref f5))) (l5 : K.lookup f5 = some ⟨oc5, od5, .func (PySem.W.fnOf "_collect" "_collect" (defArgs sPCollect) (defBody sPCollect) (defScope sPCollect) .none kV5 dc5 pm5 an5 cd5 ct5), sl5⟩) (c5 : PySem.W.codeIn K cd5 "_collect" = true) (k5 : PySem.W.keepIn K (.ref f5) = true)
    (a6 : PySem.W.nsIn K mainGlobals "compare" = some (some (.ref f6))) (l6 : K.lookup f6 = some ⟨oc6, od6, .func (PySem.W.fnOf "compare" "compare" (defArgs sPCompare) (defBody sPCompare) (defScope sPCompare) .none kV6 dc6 pm6 an6 cd6 ct6), sl6⟩) (c6 : PySem.W.codeIn K cd6 "compare" = true) (k6 : PySem.W.keepIn K (.ref f6) = true)
    (a7 : PySem.W.nsIn K mainGlobals "apply_changes" = some (some (.ref f7))) (l7 : K.lookup f7 = some ⟨oc7, od7, .func (PySem.W.fnOf "apply_changes" "apply_changes" (defArgs sPApplyChanges) (defBody sPApplyChanges) (defScope sPApplyChanges) .none kV7 dc7 pm7 an7 cd7 ct7), sl7⟩) (c7 : PySem.W.codeIn K cd7 "apply_changes" = true) (k7 : PySem.W.keepIn K (.ref f7) = true)
    (a8 : PySem.W.nsIn K mainGlobals "_law_cell" = some (some (.ref f8))) (l8 : K.lookup f8 = some ⟨oc8, od8, .func (PySem.W.fnOf "_law_cell" "_law_cell" (defArgs sLCell) (defBody sLCell) (defScope sLCell) .none kV8 dc8 pm8 an8 cd8 ct8), sl8⟩) (c8 : PySem.W.codeIn K cd8 "_law_cell" = true) (k8 : PySem.W.keepIn K (.ref f8) = true)
    (a9 : PySem.W.nsIn K mainGlobals "_law_mix" = some (some (.ref f9))) (l9 : K.lookup f9 = some ⟨oc9, od9, .func (PySem.W.fnOf "_law_mix" "_law_mix" (defArgs sLMix) (defBody sLMix) (defScope sLMix) .none kV9 dc9 pm9 an9 cd9 ct9), sl9⟩) (c9 : PySem.W.codeIn K cd9 "_law_mix" = true) (k9 : PySem.W.keepIn K (.ref f9) = true)
    (a10 : PySem.W.nsIn K mainGlobals "_law_row" = some (some (.ref f10))) (l10 : K.lookup f10 = some ⟨oc10, od10, .func (PySem.W.fnOf "_law_row" "_law_row" (defArgs sLRow) (defBody sLRow) (defScope sLRow) .none kV10 dc10 pm10 an10 cd10 ct10), sl10⟩) (c10 : PySem.W.codeIn K cd10 "_law_row" = true) (k10 : PySem.W.keepIn K (.ref f10) = true)
    (a11 : PySem.W.nsIn K mainGlobals "_law_is_code" = some (some (.ref f11))) (l11 : K.lookup f11 = some ⟨oc11, od11, .func (PySem.W.fnOf "_law_is_code" "_law_is_code" (defArgs sLIsCode) (defBody sLIsCode) (defScope sLIsCode) .none kV11 dc11 pm11 an11 cd11 ct11), sl11⟩) (c11 : PySem.W.codeIn K cd11 "_law_is_code" = true) (k11 : PySem.W.keepIn K (.ref f11) = true)
    (a12 : PySem.W.nsIn K mainGlobals "_law_chars" = some (some (.ref f12))) (l12 : K.lookup f12 = some ⟨oc12, od12, .func (PySem.W.fnOf "_law_chars" "_law_chars" (defArgs sLChars) (defBody sLChars) (defScope sLChars) .none kV12 dc12 pm12 an12 cd12 ct12), sl12⟩) (c12 : PySem.W.codeIn K cd12 "_law_chars" = true) (k12 : PySem.W.keepIn K (.ref f12) = true)
    (a13 : PySem.W.nsIn K mainGlobals "_law_text" = some (some (.ref f13))) (l13 : K.lookup f13 = some ⟨oc13, od13, .func (PySem.W.fnOf "_law_text" "_law_text" (defArgs sLText) (defBody sLText) (defScope sLText) .none kV13 dc13 pm13 an13 cd13 ct13), sl13⟩) (c13 : PySem.W.codeIn K cd13 "_law_text" = true) (k13 : PySem.W.keepIn K (.ref f13) = true)
    (a14 : PySem.W.nsIn K mainGlobals "_law_names" = some (some (.ref f14))) (l14 : K.lookup f14 = some ⟨oc14, od14, .func (PySem.W.fnOf "_law_names" "_law_names" (defArgs sLNames) (defBody sLNames) (defScope sLNames) .none kV14 dc14 pm14 an14 cd14 ct14), sl14⟩) (c14 : PySem.W.codeIn K cd14 "_law_names" = true) (k14 : PySem.W.keepIn K (.ref f14) = true)
    (a15 : PySem.W.nsIn K mainGlobals "_law_leaf" = some (some (.ref f15))) (l15 : K.lookup f15 = some ⟨oc15, od15, .func (PySem.W.fnOf "_law_leaf" "_law_leaf" (defArgs sLLeaf) (defBody sLLeaf) (defScope sLLeaf) .none kV15 dc15 pm15 an15 cd15 ct15), sl15⟩) (c15 : PySem.W.codeIn K cd15 "_law_leaf" = true) (k15 : PySem.W.keepIn K (.ref f15) = true)
    (a16 : PySem.W.nsIn K mainGlobals "_law_folder" = some (some (.ref f16))) (l16 : K.lookup f16 = some ⟨oc16, od16, .func (PySem.W.fnOf "_law_folder" "_law_folder" (defArgs sLFolder) (defBody sLFolder) (defScope sLFolder) .none kV16 dc16 pm16 an16 cd16 ct16), sl16⟩) (c16 : PySem.W.codeIn K cd16 "_law_folder" = true) (k16 : PySem.W.keepIn K (.ref f16) = true)
    (a17 : PySem.W.nsIn K mainGlobals "_law_wide" = some (some (.ref f17))) (l17 : K.lookup f17 = some ⟨oc17, od17, .func (PySem.W.fnOf "_law_wide" "_law_wide" (defArgs sLWide) (defBody sLWide) (defScope sLWide) .none kV17 dc17 pm17 an17 cd17 ct17), sl17⟩) (c17 : PySem.W.codeIn K cd17 "_law_wide" = true) (k17 : PySem.W.keepIn K (.ref f17) = true)
    (a18 : PySem.W.nsIn K mainGlobals "_law_volume" = some (some (.ref f18))) (l18 : K.lookup f18 = some ⟨oc18, od18, .func (PySem.W.fnOf "_law_volume" "_law_volume" (defArgs sLVolume) (defBody sLVolume) (defScope sLVolume) .none kV18 dc18 pm18 an18 cd18 ct18), sl18⟩) (c18 : PySem.W.codeIn K cd18 "_law_volume" = true) (k18 : PySem.W.keepIn K (.ref f18) = true)
    (a19 : PySem.W.nsIn K mainGlobals "_law_is_text" = some (some (.ref f19))) (l19 : K.lookup f19 = some ⟨oc19, od19, .func (PySem.W.fnOf "_law_is_text" "_law_is_text" (defArgs sLIsText) (defBody sLIsText) (defScope sLIsText) .none kV19 dc19 pm19 an19 cd19 ct19), sl19⟩) (c19 : PySem.W.codeIn K cd19 "_law_is_text" = true) (k19 : PySem.W.keepIn K (.ref f19) = true)
    (a20 : PySem.W.nsIn K mainGlobals "_law_is_name" = some (some (.ref f20))) (l20 : K.lookup f20 = some ⟨oc20, od20, .func (PySem.W.fnOf "_law_is_name" "_law_is_name" (defArgs sLIsName) (defBody sLIsName) (defScope sLIsName) .none kV20 dc20 pm20 an20 cd20 ct20), sl20⟩) (c20 : PySem.W.codeIn K cd20 "_law_is_name" = true) (k20 : PySem.W.keepIn K (.ref f20) = true)
    (a21 : PySem.W.nsIn K mainGlobals "_law_is_bad" = some (some (.ref f21))) (l21 : K.lookup f21 = some ⟨oc21, od21, .func (PySem.W.fnOf "_law_is_bad" "_law_is_bad" (defArgs sLIsBad) (defBody sLIsBad) (defScope sLIsBad) .none kV21 dc21 pm21 an21 cd21 ct21), sl21⟩) (c21 : PySem.W.codeIn K cd21 "_law_is_bad" = true) (k21 : PySem.W.keepIn K (.ref f21) = true)
    (a22 : PySem.W.nsIn K mainGlobals "_law_depth" = some (some (.ref f22))) (l22 : K.lookup f22 = some ⟨oc22, od22, .func (PySem.W.fnOf "_law_depth" "_law_depth" (defArgs sLDepth) (defBody sLDepth) (defScope sLDepth) .none kV22 dc22 pm22 an22 cd22 ct22), sl22⟩) (c22 : PySem.W.codeIn K cd22 "_law_depth" = true) (k22 : PySem.W.keepIn K (.ref f22) = true)
    (a23 : PySem.W.nsIn K mainGlobals "_law_size" = some (some (.ref f23))) (l23 : K.lookup f23 = some ⟨oc23, od23, .func (PySem.W.fnOf "_law_size" "_law_size" (defArgs sLSize) (defBody sLSize) (defScope sLSize) .none kV23 dc23 pm23 an23 cd23 ct23), sl23⟩) (c23 : PySem.W.codeIn K cd23 "_law_size" = true) (k23 : PySem.W.keepIn K (.ref f23) = true)
    (a24 : PySem.W.nsIn K mainGlobals "_law_bad_path" = some (some (.ref f24))) (l24 : K.lookup f24 = some ⟨oc24, od24, .func (PySem.W.fnOf "_law_bad_path" "_law_bad_path" (defArgs sLBadPath) (defBody sLBadPath) (defScope sLBadPath) .none kV24 dc24 pm24 an24 cd24 ct24), sl24⟩) (c24 : PySem.W.codeIn K cd24 "_law_bad_path" = true) (k24 : PySem.W.keepIn K (.ref f24) = true)
    (a25 : PySem.W.nsIn K mainGlobals "_law_fault" = some (some (.ref f25))) (l25 : K.lookup f25 = some ⟨oc25, od25, .func (PySem.W.fnOf "_law_fault" "_law_fault" (defArgs sLFault) (defBody sLFault) (defScope sLFault) .none kV25 dc25 pm25 an25 cd25 ct25), sl25⟩) (c25 : PySem.W.codeIn K cd25 "_law_fault" = true) (k25 : PySem.W.keepIn K (.ref f25) = true)
    (a26 : PySem.W.nsIn K mainGlobals "_law_edit" = some (some (.ref f26))) (l26 : K.lookup f26 = some ⟨oc26, od26, .func (PySem.W.fnOf "_law_edit" "_law_edit" (defArgs sLEdit) (defBody sLEdit) (defScope sLEdit) .none kV26 dc26 pm26 an26 cd26 ct26), sl26⟩) (c26 : PySem.W.codeIn K cd26 "_law_edit" = true) (k26 : PySem.W.keepIn K (.ref f26) = true)
    (a27 : PySem.W.nsIn K mainGlobals "_law_compare" = some (some (.ref f27))) (l27 : K.lookup f27 = some ⟨oc27, od27, .func (PySem.W.fnOf "_law_compare" "_law_compare" (defArgs sLCompare) (defBody sLCompare) (defScope sLCompare) .none kV27 dc27 pm27 an27 cd27 ct27), sl27⟩) (c27 : PySem.W.codeIn K cd27 "_law_compare" = true) (k27 : PySem.W.keepIn K (.ref f27) = true)
    (a28 : PySem.W.nsIn K mainGlobals "law" = some (some (.ref f28))) (l28 : K.lookup f28 = some ⟨oc28, od28, .func (PySem.W.fnOf "law" "law" (defArgs sLaw) (defBody sLaw) (defScope sLaw) .none kV28 dc28 pm28 an28 cd28 ct28), sl28⟩) (c28 : PySem.W.codeIn K cd28 "law" = true) (k28 : PySem.W.keepIn K (.ref f28) = true)
    (zLen : PySem.W.nsIn K mainGlobals "len" = some none)
    (zTuple : PySem.W.nsIn K mainGlobals "tuple" = some none)
    (zRange : PySem.W.nsIn K mainGlobals "range" = some none)
    (zSorted : PySem.W.nsIn K mainGlobals "sorted" = some none)
    (zList : PySem.W.nsIn K mainGlobals "list" = some none)
    (zAbs : PySem.W.nsIn K mainGlobals "abs" = some none)
    (zInt : PySem.W.nsIn K mainGlobals "int" = some none)
    (zOrd : PySem.W.nsIn K mainGlobals "ord" = some none)
    (zMax : PySem.W.nsIn K mainGlobals "max" = some none)
    (zZip : PySem.W.nsIn K mainGlobals "zip" = some none)
    (zIsinstance : PySem.W.nsIn K mainGlobals "isinstance" = some none)
    (aA : PySem.W.nsIn K mainGlobals "ArchiveError" = some (some (.ref CA)))
    (aN : PySem.W.nsIn K mainGlobals "NoSuchPath" = some (some (.ref CN)))
    (xN : PySem.W.excIn K CN [.type "ValueError", .type "Exception", .type "BaseException", .type "object"] "ValueError.__new__" = true)
    (kN : PySem.W.keepIn K (.ref CN) = true)
    (bN : PySem.W.subIn K (.ref CN) (.type "BaseException") = some true)
    (tN : PySem.W.typeIn K (.ref CN) = some (.type "type"))
    (bA : PySem.W.subIn K (.ref CA) (.type "BaseException") = some true)
    (hA : PySem.W.hasDictIn K CA = true)
    (tA : PySem.W.typeIn K (.ref CA) = some (.type "type"))
    (sNA : PySem.W.subIn K (.ref CN) (.ref CA) = some true)
    (e1 : PySem.W.findIn K (.ref CN) "__getattribute__" = some (some (.builtin "BaseException.__getattribute__")))
    (e2 : PySem.W.findIn K (.ref CN) "__getattr__" = some none)
    (e4 : PySem.W.hasDictIn K CN = true)
    (e5 : PySem.W.findIn K (.ref CN) "__class__" = some (some (.builtin "object.__class__")))
    (e6 : PySem.W.specialIn K (.builtin "object.__class__") "__get__" = some (some (.builtin "getset_descriptor.__get__")))
    (e7 : PySem.W.takesIn K (.builtin "object.__class__") = some true)
    (e8 : PySem.W.mroIn K CN (.type "object") = some true)
    : ∃ fd : FuncData, (∀ (s : Shared) (v : Value), BindsTo s fd ⟨[v], []⟩ [("_law_script", v)]) ∧ ∀ base : Heap, K.In base → base.Ns mainGlobals mg → FnOk P w K mg base CX0 80 fa fd ["_law_script"] (spLaw K) := by
  have e := hfa.symm.trans (PySem.W.mg_of X G a28)
  cases e
  have T : Txt K mg CA CN := ⟨PySem.W.mg_none_of X G zLen, PySem.W.mg_none_of X G zTuple, PySem.W.mg_none_of X G zRange, PySem.W.mg_none_of X G zSorted, PySem.W.mg_none_of X G zList, PySem.W.mg_none_of X G zAbs, PySem.W.mg_none_of X G zInt, PySem.W.mg_none_of X G zOrd, PySem.W.mg_none_of X G zMax, PySem.W.mg_none_of X G zZip, PySem.W.mg_none_of X G zIsinstance, PySem.W.mg_of X G aA, PySem.W.mg_of X G aN, xN, kN, bN, tN, PySem.W.exm_ref bA hA tA sNA, ⟨e1, e2, bN, e4, e5, e6, e7, e8⟩, if_pos (beq_self_eq_true _)⟩
  have F0 := fun_mk (st := sPEntry) l0 c0 k0
  have d0 : DPEntry K mg _ _ := ⟨F0, F0.binds (ps := ["volume", "name"]) fun _ _ _ _ _ _ us hl => match us, hl with | [_, _], _ => rfl, PySem.W.mg_of X G a0⟩
  have F1 := fun_mk (st := sPLookup) l1 c1 k1
  have d1 : DPLookup K mg _ _ := ⟨F1, F1.binds (ps := ["volume", "path"]) fun _ _ _ _ _ _ us hl => match us, hl with | [_, _], _ => rfl, PySem.W.mg_of X G a1⟩
  have F2 := fun_mk (st := sPWithEntry) l2 c2 k2
  have d2 : DPWithEntry K mg _ _ := ⟨F2, F2.binds (ps := ["folder", "name", "child"]) fun _ _ _ _ _ _ us hl => match us, hl with | [_, _, _], _ => rfl, PySem.W.mg_of X G a2⟩
  have F3 := fun_mk (st := sPReplaced) l3 c3 k3
  have d3 : DPReplaced K mg _ _ := ⟨F3, F3.binds (ps := ["volume", "path", "new"]) fun _ _ _ _ _ _ us hl => match us, hl with | [_, _, _], _ => rfl, PySem.W.mg_of X G a3⟩
  have F4 := fun_mk (st := sPRemoved) l4 c4 k4
  have d4 : DPRemoved K mg _ _ := ⟨F4, F4.binds (ps := ["volume", "path"]) fun _ _ _ _ _ _ us hl => match us, hl with | [_, _], _ => rfl, PySem.W.mg_of X G a4⟩
  have F5 := fun_mk (st := sPCollect) l5 c5 k5
  have d5 : DPCollect K mg _ _ := ⟨F5, F5.binds (ps := ["first", "second", "path", "found"]) fun _ _ _ _ _ _ us hl => match us, hl with | [_, _, _, _], _ => rfl, PySem.W.mg_of X G a5⟩
  have F6 := fun_mk (st := sPCompare) l6 c6 k6
  have d6 : DPCompare K mg _ _ := ⟨F6, F6.binds (ps := ["first", "second"]) fun _ _ _ _ _ _ us hl => match us, hl with | [_, _], _ => rfl, PySem.W.mg_of X G a6⟩
  have F7 := fun_mk (st := sPApplyChanges) l7 c7 k7
  have d7 : DPApplyChanges K mg _ _ := ⟨F7, F7.binds (ps := ["volume", "changes"]) fun _ _ _ _ _ _ us hl => match us, hl with | [_, _], _ => rfl, PySem.W.mg_of X G a7⟩
  have F8 := fun_mk (st := sLCell) l8 c8 k8
  have d8 : DLCell K mg _ _ := ⟨F8, F8.binds (ps := ["_law_script", "_law_k"]) fun _ _ _ _ _ _ us hl => match us, hl with | [_, _], _ => rfl, PySem.W.mg_of X G a8⟩
  have F9 := fun_mk (st := sLMix) l9 c9 k9
  have d9 : DLMix K mg _ _ := ⟨F9, F9.binds (ps := ["_law_cell_here", "_law_k"]) fun _ _ _ _ _ _ us hl => match us, hl with | [_, _], _ => rfl, PySem.W.mg_of X G a9⟩
  have F10 := fun_mk (st := sLRow) l10 c10 k10
  have d10 : DLRow K mg _ _ := ⟨F10, F10.binds (ps := ["_law_cell_here", "_law_count", "_law_bound"]) fun _ _ _ _ _ _ us hl => match us, hl with | [_, _, _], _ => rfl, PySem.W.mg_of X G a10⟩
  have F11 := fun_mk (st := sLIsCode) l11 c11 k11
  have d11 : DLIsCode K mg _ _ := ⟨F11, F11.binds (ps := ["_law_octet"]) fun _ _ _ _ _ _ us hl => match us, hl with | [_], _ => rfl, PySem.W.mg_of X G a11⟩
  have F12 := fun_mk (st := sLChars) l12 c12 k12
  have d12 : DLChars K mg _ _ := ⟨F12, F12.binds (ps := []) fun _ _ _ _ _ _ us hl => match us, hl with | [], _ => rfl, PySem.W.mg_of X G a12⟩
  have F13 := fun_mk (st := sLText) l13 c13 k13
  have d13 : DLText K mg _ _ := ⟨F13, F13.binds (ps := ["_law_cell_here", "_law_size_here"]) fun _ _ _ _ _ _ us hl => match us, hl with | [_, _], _ => rfl, PySem.W.mg_of X G a13⟩
  have F14 := fun_mk (st := sLNames) l14 c14 k14
  have d14 : DLNames K mg _ _ := ⟨F14, F14.binds (ps := ["_law_cell_here", "_law_count"]) fun _ _ _ _ _ _ us hl => match us, hl with | [_, _], _ => rfl, PySem.W.mg_of X G a14⟩
  have F15 := fun_mk (st := sLLeaf) l15 c15 k15
  have d15 : DLLeaf K mg _ _ := ⟨F15, F15.binds (ps := ["_law_cell_here"]) fun _ _ _ _ _ _ us hl => match us, hl with | [_], _ => rfl, PySem.W.mg_of X G a15⟩
  have F16 := fun_mk (st := sLFolder) l16 c16 k16
  have d16 : DLFolder K mg _ _ := ⟨F16, F16.binds (ps := ["_law_cell_here", "_law_parts"]) fun _ _ _ _ _ _ us hl => match us, hl with | [_, _], _ => rfl, PySem.W.mg_of X G a16⟩
  have F17 := fun_mk (st := sLWide) l17 c17 k17
  have d17 : DLWide K mg _ _ := ⟨F17, F17.binds (ps := ["_law_count"]) fun _ _ _ _ _ _ us hl => match us, hl with | [_], _ => rfl, PySem.W.mg_of X G a17⟩
  have F18 := fun_mk (st := sLVolume) l18 c18 k18
  have d18 : DLVolume K mg _ _ := ⟨F18, F18.binds (ps := ["_law_cells"]) fun _ _ _ _ _ _ us hl => match us, hl with | [_], _ => rfl, PySem.W.mg_of X G a18⟩
  have F19 := fun_mk (st := sLIsText) l19 c19 k19
  have d19 : DLIsText K mg _ _ := ⟨F19, F19.binds (ps := ["_law_text_here"]) fun _ _ _ _ _ _ us hl => match us, hl with | [_], _ => rfl, PySem.W.mg_of X G a19⟩
  have F20 := fun_mk (st := sLIsName) l20 c20 k20
  have d20 : DLIsName K mg _ _ := ⟨F20, F20.binds (ps := ["_law_text_here"]) fun _ _ _ _ _ _ us hl => match us, hl with | [_], _ => rfl, PySem.W.mg_of X G a20⟩
  have F21 := fun_mk (st := sLIsBad) l21 c21 k21
  have d21 : DLIsBad K mg _ _ := ⟨F21, F21.binds (ps := ["_law_volume_here"]) fun _ _ _ _ _ _ us hl => match us, hl with | [_], _ => rfl, PySem.W.mg_of X G a21⟩
  have F22 := fun_mk (st := sLDepth) l22 c22 k22
  have d22 : DLDepth K mg _ _ := ⟨F22, F22.binds (ps := ["_law_volume_here"]) fun _ _ _ _ _ _ us hl => match us, hl with | [_], _ => rfl, PySem.W.mg_of X G a22⟩
  have F23 := fun_mk (st := sLSize) l23 c23 k23
  have d23 : DLSize K mg _ _ := ⟨F23, F23.binds (ps := ["_law_volume_here"]) fun _ _ _ _ _ _ us hl => match us, hl with | [_], _ => rfl, PySem.W.mg_of X G a23⟩
  have F24 := fun_mk (st := sLBadPath) l24 c24 k24
  have d24 : DLBadPath K mg _ _ := ⟨F24, F24.binds (ps := ["_law_volume_here", "_law_path"]) fun _ _ _ _ _ _ us hl => match us, hl with | [_, _], _ => rfl, PySem.W.mg_of X G a24⟩
  have F25 := fun_mk (st := sLFault) l25 c25 k25
  have d25 : DLFault K mg _ _ := ⟨F25, F25.binds (ps := ["_law_volume_here"]) fun _ _ _ _ _ _ us hl => match us, hl with | [_], _ => rfl, PySem.W.mg_of X G a25⟩
  have F26 := fun_mk (st := sLEdit) l26 c26 k26
  have d26 : DLEdit K mg _ _ := ⟨F26, F26.binds (ps := ["_law_volume_here", "_law_cell_here", "_law_steps"]) fun _ _ _ _ _ _ us hl => match us, hl with | [_, _, _], _ => rfl, PySem.W.mg_of X G a26⟩
  have F27 := fun_mk (st := sLCompare) l27 c27 k27
  have d27 : DLCompare K mg _ _ := ⟨F27, F27.binds (ps := ["_law_first", "_law_second", "_law_path"]) fun _ _ _ _ _ _ us hl => match us, hl with | [_, _, _], _ => rfl, PySem.W.mg_of X G a27⟩
  have F28 := fun_mk (st := sLaw) l28 c28 k28
  have d28 : DLaw K mg _ _ := ⟨F28, F28.binds (ps := ["_law_script"]) fun _ _ _ _ _ _ us hl => match us, hl with | [_], _ => rfl, PySem.W.mg_of X G a28⟩
  exact ⟨PySem.W.fnOf "law" "law" (defArgs sLaw) (defBody sLaw) (defScope sLaw) .none kV28 dc28 pm28 an28 cd28 ct28, fun s v => .of_eq rfl, fun base _ _ => ok_all T d0 d1 d2 d3 d4 d5 d6 d7 d8 d9 d10 d11 d12 d13 d14 d15 d16 d17 d18 d19 d20 d21 d22 d23 d24 d25 d26 d27 d28⟩
theorem walk {l : PySem.W.OpenLaw} {q : Program} {loose : List Str} {XP : (Str → Option Value) → Heap → Prop} {YP : World → Heap → Prop} {d : DefRec} {K : Params → PySem.W.Frag} (hn : l.most = some 63) (hdf : d.params.defaults = [])
    (hY : ∀ (w : World) (h : Heap), YP w h → (K w.params).In h)
    (F : ∀ (w : World) (mg : Str → Option Value) (fa : Addr) (h : Heap), (K w.params).In h → h.Ns mainGlobals mg → mg d.name = some (.ref fa) →
      ∃ fd : FuncData, (∀ (s : Shared) (u : Value), BindsTo s fd ⟨[u], []⟩ [("_law_script", u)]) ∧ ∀ base : Heap, (K w.params).In base → base.Ns mainGlobals mg → FnOk l.prog w (K w.params) mg base CX0 80 fa fd ["_law_script"] (spLaw (K w.params))) :
    PySem.W.WalkO q loose XP YP l.row.toRowW d [] (fun f vs => PySem.call f vs) :=
  L2.walk_of (n := 63) (k := 80) (x := "_law_script") (CX := fun _ => CX0) (sp := fun w => spLaw (K w.params)) hn (by decide) hdf ⟨rfl, by decide, by decide⟩ hY F (fun _ _ a ns hl _ hS => ⟨a, ns, rfl, hS, hl, fun _ => rfl⟩) fun _ _ _ _ _ z => z
end Sc
open PySem PySem.W PyProof.Rows
set_option maxRecDepth 100000 in
set_option maxHeartbeats 0 in
theorem PySem.Challenge.cw_scanpages_k63_whole_changes_holds : PySem.Challenge.rw_scanpages_k63_whole_changes.Holds := by
  w_on; o_law; k_head; (case hw => w_witness2)
  k_fill
  refine Sc.walk (l := PySem.Challenge.rw_scanpages_k63_whole_changes) rfl rfl (fun w h Y => PySem.W.kIn_of Y) ?F
  case F =>
    intro w mg fa h KX G hmg
    refine' Sc.all_mk KX G hmg ?a0 ?l0 ?c0 ?k0 ?a1 ?l1 ?c1 ?k1 ?a2 ?l2 ?c2 ?k2 ?a3 ?l3 ?c3 ?k3 ?a4 ?l4 ?c4 ?k4 ?a5 ?l5 ?c5 ?k5 ?a6 ?l6 ?c6 ?k6 ?a7 ?l7 ?c7 ?k7 ?a8 ?l8 ?c8 ?k8 ?a9 ?l9 ?c9 ?k9 ?a10 ?l10 ?c10 ?k10 ?a11 ?l11 ?c11 ?k11 ?a12 ?l12 ?c12 ?k12 ?a13 ?l13 ?c13 ?k13 ?a14 ?l14 ?c14 ?k14 ?a15 ?l15 ?c15 ?k15 ?a16 ?l16 ?c16 ?k16 ?a17 ?l17 ?c17 ?k17 ?a18 ?l18 ?c18 ?k18 ?a19 ?l19 ?c19 ?k19 ?a20 ?l20 ?c20 ?k20 ?a21 ?l21 ?c21 ?k21 ?a22 ?l22 ?c22 ?k22 ?a23 ?l23 ?c23 ?k23 ?a24 ?l24 ?c24 ?k24 ?a25 ?l25 ?c25 ?k25 ?a26 ?l26 ?c26 ?k26 ?a27 ?l27 ?c27 ?k27 ?a28 ?l28 ?c28 ?k28 ?zLen ?zTuple ?zRange ?zSorted ?zList ?zAbs ?zInt ?zOrd ?zMax ?zZip ?zIsinstance ?aA ?aN ?xN ?kN ?bN ?tN ?bA ?hA ?tA ?sNA ?e1 ?e2 ?e4 ?e5 ?e6 ?e7 ?e8
    (case a0 => k_is)
    (case l0 => k_is)
    (case c0 => k_is)
    (case k0 => k_is)
    (case a1 => k_is)
    (case l1 => k_is)
    (case c1 => k_is)
    (case k1 => k_is)
    (case a2 => k_is)
    (case l2 => k_is)
    (case c2 => k_is)
    (case k2 => k_is)
    (case a3 => k_is)
    (case l3 => k_is)
    (case c3 => k_is)
    (case k3 => k_is)
    (case a4 => k_is)
    (case l4 => k_is)
    (case c4 => k_is)
    (case k4 => k_is)
    (case a5 => k_is)
    (case l5 => k_is)
    (case c5 => k_is)
    (case k5 => k_is)
    (case a6 => k_is)
    (case l6 => k_is)
    (case c6 => k_is)
    (case k6 => k_is)
    (case a7 => k_is)
    (case l7 => k_is)
    (case c7 => k_is)
    (case k7 => k_is)
    (case a8 => k_is)
    (case l8 => k_is)
    (case c8 => k_is)
    (case k8 => k_is)
    (case a9 => k_is)
    (case l9 => k_is)
    (case c9 => k_is)
    (case k9 => k_is)
    (case a10 => k_is)
    (case l10 => k_is)
    (case c10 => k_is)
    (case k10 => k_is)
    (case a11 => k_is)
    (case l11 => k_is)
    (case c11 => k_is)
    (case k11 => k_is)
    (case a12 => k_is)
    (case l12 => k_is)
    (case c12 => k_is)
    (case k12 => k_is)
    (case a13 => k_is)
    (case l13 => k_is)
    (case c13 => k_is)
    (case k13 => k_is)
    (case a14 => k_is)
    (case l14 => k_is)
    (case c14 => k_is)
    (case k14 => k_is)
    (case a15 => k_is)
    (case l15 => k_is)
    (case c15 => k_is)
    (case k15 => k_is)
    (case a16 => k_is)
    (case l16 => k_is)
    (case c16 => k_is)
    (case k16 => k_is)
    (case a17 => k_is)
    (case l17 => k_is)
    (case c17 => k_is)
    (case k17 => k_is)
    (case a18 => k_is)
    (case l18 => k_is)
    (case c18 => k_is)
    (case k18 => k_is)
    (case a19 => k_is)
    (case l19 => k_is)
    (case c19 => k_is)
    (case k19 => k_is)
    (case a20 => k_is)
    (case l20 => k_is)
    (case c20 => k_is)
    (case k20 => k_is)
    (case a21 => k_is)
    (case l21 => k_is)
    (case c21 => k_is)
    (case k21 => k_is)
    (case a22 => k_is)
    (case l22 => k_is)
    (case c22 => k_is)
    (case k22 => k_is)
    (case a23 => k_is)
    (case l23 => k_is)
    (case c23 => k_is)
    (case k23 => k_is)
    (case a24 => k_is)
    (case l24 => k_is)
    (case c24 => k_is)
    (case k24 => k_is)
    (case a25 => k_is)
    (case l25 => k_is)
    (case c25 => k_is)
    (case k25 => k_is)
    (case a26 => k_is)
    (case l26 => k_is)
    (case c26 => k_is)
    (case k26 => k_is)
    (case a27 => k_is)
    (case l27 => k_is)
    (case c27 => k_is)
    (case k27 => k_is)
    (case a28 => k_is)
    (case l28 => k_is)
    (case c28 => k_is)
    (case k28 => k_is)
    (case zLen => k_is)
    (case zTuple => k_is)
    (case zRange => k_is)
    (case zSorted => k_is)
    (case zList => k_is)
    (case zAbs => k_is)
    (case zInt => k_is)
    (case zOrd => k_is)
    (case zMax => k_is)
    (case zZip => k_is)
    (case zIsinstance => k_is)
    (case aA => k_is)
    (case aN => k_is)
    (case xN => k_exc)
    (case kN => k_is)
    (case bN => k_is)
    (case tN => k_is)
    (case bA => k_is)
    (case hA => k_is)
    (case tA => k_is)
    (case sNA => k_is)
    (case e1 => k_is)
    (case e2 => k_is)
    (case e4 => k_is)
    (case e5 => k_is)
    (case e6 => k_is)
    (case e7 => k_is)
    (case e8 => k_is)