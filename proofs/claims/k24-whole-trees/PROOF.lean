import PyProof.Rows.All
import Wide.All
import OpenK.AllK
import Wide.FinOn
import HandS.ForMost
import HandS.Rev
import HandS.RevTup
import HandS.Walk
import HandS.ListItems
import HandS.Sort
import HandS.SortOrd
import HandS.SortRule
import HandS.NamedTupSort
import KE.KDictList
import KE.KItemsList
import KE.GoesMore
import KE.GoesEnum
import HandS.TupAny
import HandS.IsInst
import HandS.Codes
import PySem.Challenge.RW_readingsall_k24_whole_trees_have_numbers
set_option Elab.async false
set_option linter.all false
set_option maxRecDepth 100000
set_option maxHeartbeats 4000000
/-! The whole trees of two drawn forests have numbers: the walk of each function, and the plain mathematics of rows, places and sorted lists. -/
/-! K24Math: the mathematics of law k24, in core Lean. -/
namespace K24
abbrev Way := Int × List Nat
abbrev Fo := List (List Way)
abbrev Flat := List (Nat × Nat)
abbrev T := Int × Flat
abbrev Coord := Nat × Int × Nat

/-! ### lists -/
def fil (c : Int) (l : List T) : List T := l.filter fun t => decide (t.1 = c)
theorem fil_nil (c : Int) : fil c [] = [] := rfl
theorem fil_append (c : Int) (a b : List T) : fil c (a ++ b) = fil c a ++ fil c b := List.filter_append ..
theorem mem_fil {c : Int} {l : List T} {t : T} : t ∈ fil c l ↔ t ∈ l ∧ t.1 = c := by simp [fil]
theorem fil_cons_pos {c : Int} {t : T} {l : List T} (h : t.1 = c) : fil c (t :: l) = t :: fil c l := by simp [fil, h]
theorem fil_cons_neg {c : Int} {t : T} {l : List T} (h : t.1 ≠ c) : fil c (t :: l) = fil c l := by simp [fil, h]
def costs (l : List T) : List Int := l.map (·.1)
theorem count_costs (l : List T) (c : Int) : (costs l).count c = (fil c l).length := by
  induction l with
  | nil => rfl
  | cons t l ih =>
    by_cases h : t.1 = c
    · rw [fil_cons_pos h, List.length_cons, ← ih]; simp [costs, List.count_cons, h]
    · rw [fil_cons_neg h, ← ih]; simp [costs, List.count_cons, h]
theorem costs_append (a b : List T) : costs (a ++ b) = costs a ++ costs b := List.map_append ..
theorem costs_length (l : List T) : (costs l).length = l.length := List.length_map ..

/-- a list of lists, read at a place -/
theorem getElem?_append_add {α : Type} (a b : List α) (q : Nat) : (a ++ b)[a.length + q]? = b[q]? := by
  rw [List.getElem?_append_right (by omega)]; congr 1; omega
theorem flatMap_const {α β : Type} (f : α → List β) (b : Nat) : ∀ (l : List α), (∀ x ∈ l, (f x).length = b) → ∀ (p q : Nat) (x : α), l[p]? = some x → q < b → (l.flatMap f)[p * b + q]? = (f x)[q]?
  | [], _, p, q, x, h, _ => by simp at h
  | y :: l, hl, 0, q, x, h, hq => by
    simp at h; subst h
    have := hl y (by simp)
    rw [List.flatMap_cons, Nat.zero_mul, Nat.zero_add, List.getElem?_append_left (by omega)]
  | y :: l, hl, p + 1, q, x, h, hq => by
    have e := hl y (by simp)
    rw [List.flatMap_cons, show (p + 1) * b + q = (f y).length + (p * b + q) by rw [e, Nat.add_mul]; omega, getElem?_append_add]
    exact flatMap_const f b l (fun z hz => hl z (List.mem_cons_of_mem _ hz)) p q x (by simpa using h) hq
theorem length_flatMap_sum {α β : Type} (f : α → List β) (l : List α) : (l.flatMap f).length = (l.map fun x => (f x).length).sum := by
  induction l with
  | nil => rfl
  | cons x l ih => simp [List.flatMap_cons, ih]
theorem sum_append (a b : List Nat) : (a ++ b).sum = a.sum + b.sum := by simp
theorem sum_const {α : Type} (g : α → Nat) (b : Nat) (l : List α) (h : ∀ x ∈ l, g x = b) : (l.map g).sum = l.length * b := by
  induction l with
  | nil => simp
  | cons x l ih =>
    rw [List.map_cons, List.sum_cons, h x (by simp), ih (fun y hy => h y (List.mem_cons_of_mem _ hy)), List.length_cons, Nat.add_mul]; omega
theorem sum_map_congr {α : Type} {g g' : α → Nat} {l : List α} (h : ∀ x ∈ l, g x = g' x) : (l.map g).sum = (l.map g').sum := by
  rw [List.map_congr_left h]
/-- a place within a sum of weights -/
theorem find_place {α : Type} (g : α → Nat) : ∀ (l : List α) (q : Nat), q < (l.map g).sum → ∃ l1 x l2, l = l1 ++ x :: l2 ∧ (l1.map g).sum ≤ q ∧ q < (l1.map g).sum + g x
  | [], q, h => by simp at h
  | x :: l, q, h => by
    by_cases hx : q < g x
    · exact ⟨[], x, l, rfl, Nat.zero_le _, by simpa using hx⟩
    · have h' : q - g x < (l.map g).sum := by
        rw [List.map_cons, List.sum_cons] at h; omega
      obtain ⟨l1, y, l2, e, h1, h2⟩ := find_place g l (q - g x) h'
      refine ⟨x :: l1, y, l2, by rw [e]; rfl, ?_, ?_⟩
      · rw [List.map_cons, List.sum_cons]; omega
      · rw [List.map_cons, List.sum_cons]; omega

/-! ### sorted by cost, stable -/
structure Srt (out l : List T) : Prop where
  asc : out.Pairwise fun a b => a.1 ≤ b.1
  cls : ∀ c, fil c out = fil c l
theorem Srt.uniq : ∀ {a b l : List T}, Srt a l → Srt b l → a = b := by
  have key : ∀ (a b : List T), a.Pairwise (fun a b => a.1 ≤ b.1) → b.Pairwise (fun a b => a.1 ≤ b.1) → (∀ c, fil c a = fil c b) → a = b := by
    intro a
    induction a with
    | nil =>
      intro b _ _ h
      cases b with
      | nil => rfl
      | cons y b => have := h y.1; rw [fil_nil, fil_cons_pos rfl] at this; cases this
    | cons x a ih =>
      intro b ha hb h
      cases b with
      | nil => have := h x.1; rw [fil_nil, fil_cons_pos rfl] at this; cases this
      | cons y b =>
        have hxy : x.1 ≤ y.1 := by
          have hm : y ∈ fil y.1 (x :: a) := by rw [h y.1]; exact mem_fil.mpr ⟨List.mem_cons_self, rfl⟩
          rcases List.mem_cons.mp (mem_fil.mp hm).1 with e | hm
          · rw [e]; exact Int.le_refl _
          · exact (List.pairwise_cons.mp ha).1 y hm
        have hyx : y.1 ≤ x.1 := by
          have hm : x ∈ fil x.1 (y :: b) := by rw [← h x.1]; exact mem_fil.mpr ⟨List.mem_cons_self, rfl⟩
          rcases List.mem_cons.mp (mem_fil.mp hm).1 with e | hm
          · rw [e]; exact Int.le_refl _
          · exact (List.pairwise_cons.mp hb).1 x hm
        have e1 : y.1 = x.1 := Int.le_antisymm hyx hxy
        have q := h x.1
        rw [fil_cons_pos rfl, fil_cons_pos e1] at q
        have e2 : x = y := (List.cons.inj q).1
        subst e2
        congr 1
        refine ih b (List.pairwise_cons.mp ha).2 (List.pairwise_cons.mp hb).2 fun c => ?_
        have q := h c
        by_cases hc : x.1 = c
        · rw [fil_cons_pos hc, fil_cons_pos hc] at q; exact (List.cons.inj q).2
        · rw [fil_cons_neg hc, fil_cons_neg hc] at q; exact q
  intro a b l ha hb
  exact key a b ha.asc hb.asc fun c => (ha.cls c).trans (hb.cls c).symm
def leT (a b : T) : Bool := decide (a.1 ≤ b.1)
def sortT (l : List T) : List T := l.mergeSort leT
theorem leT_trans (a b c : T) (h1 : leT a b = true) (h2 : leT b c = true) : leT a c = true := by
  simp [leT] at *; omega
theorem leT_total (a b : T) : (leT a b || leT b a) = true := by
  simp [leT]; omega
theorem sortT_srt (l : List T) : Srt (sortT l) l := by
  refine ⟨?_, fun c => ?_⟩
  · have := List.pairwise_mergeSort (le := leT) leT_trans leT_total l
    exact this.imp fun h => by simpa [leT] using h
  · have hp : (fil c l).Pairwise (fun a b => leT a b = true) := by
      refine List.pairwise_of_forall_mem_list fun a ha b hb => ?_
      rw [leT, (mem_fil.mp ha).2, (mem_fil.mp hb).2]; simp
    have hs := List.sublist_mergeSort (le := leT) leT_trans leT_total hp (List.filter_sublist (l := l))
    have h2 : (fil c l).Sublist (fil c (sortT l)) := by
      have := hs.filter (fun t => decide (t.1 = c))
      rwa [show (fil c l).filter (fun t => decide (t.1 = c)) = fil c l by simp [fil]] at this
    have hl : (fil c (sortT l)).length = (fil c l).length := by
      have := (List.mergeSort_perm l leT).filter (fun t => decide (t.1 = c))
      exact this.length_eq
    exact (h2.eq_of_length hl.symm).symm
theorem sortT_perm (l : List T) : (sortT l).Perm l := List.mergeSort_perm l leT
/-- sorted: below, at, above a cost -/
theorem asc_split {l : List T} (h : l.Pairwise fun a b => a.1 ≤ b.1) (c : Int) :
    l = l.filter (fun t => decide (t.1 < c)) ++ (fil c l ++ l.filter (fun t => decide (c < t.1))) := by
  induction l with
  | nil => rfl
  | cons x l ih =>
    have hx := (List.pairwise_cons.mp h).1
    have ih := ih (List.pairwise_cons.mp h).2
    rcases Int.lt_trichotomy x.1 c with q | q | q
    · rw [List.filter_cons_of_pos (by simpa using q), fil_cons_neg (by omega), List.filter_cons_of_neg (by simp; omega), List.cons_append, ← ih]
    · have e : l.filter (fun t => decide (t.1 < c)) = [] := List.filter_eq_nil_iff.mpr fun t ht => by have := hx t ht; simp; omega
      rw [List.filter_cons_of_neg (by simp; omega), fil_cons_pos q, List.filter_cons_of_neg (by simp; omega), e, List.nil_append, List.cons_append]
      rw [e, List.nil_append] at ih
      rw [← ih]
    · have e : l.filter (fun t => decide (t.1 < c)) = [] := List.filter_eq_nil_iff.mpr fun t ht => by have := hx t ht; simp; omega
      have e2 : fil c l = [] := List.filter_eq_nil_iff.mpr fun t ht => by have := hx t ht; simp; omega
      rw [e, e2, List.nil_append, List.nil_append] at ih
      rw [List.filter_cons_of_neg (by simp; omega), fil_cons_neg (by omega), List.filter_cons_of_pos (by simpa using q), e, e2, List.nil_append, List.nil_append, ← ih]

/-! ### rows of trees, trees of an entry -/
def rows (L : Nat → List T) : List Nat → List T
  | [] => [(0, [])]
  | c :: cs => (L c).flatMap fun t => (rows L cs).map fun r => (t.1 + r.1, t.2 ++ r.2)
def wayTrees (L : Nat → List T) (e j : Nat) (w : Way) : List T := (rows L w.2).map fun r => (w.1 + r.1, (e, j) :: r.2)
def allFrom (L : Nat → List T) (e : Nat) : Nat → List Way → List T
  | _, [] => []
  | j, w :: ws => wayTrees L e j w ++ allFrom L e (j + 1) ws
theorem allFrom_append (L : Nat → List T) (e : Nat) : ∀ (ws vs : List Way) (j : Nat), allFrom L e j (ws ++ vs) = allFrom L e j ws ++ allFrom L e (j + ws.length) vs
  | [], vs, j => by simp [allFrom]
  | w :: ws, vs, j => by
    rw [List.cons_append, allFrom, allFrom, allFrom_append L e ws vs (j + 1), List.append_assoc, List.length_cons, show j + 1 + ws.length = j + (ws.length + 1) by omega]
theorem rows_congr {L M : Nat → List T} : ∀ {cs : List Nat}, (∀ c ∈ cs, L c = M c) → rows L cs = rows M cs
  | [], _ => rfl
  | c :: cs, h => by
    rw [rows, rows, h c (by simp), rows_congr fun d hd => h d (List.mem_cons_of_mem _ hd)]
theorem allFrom_congr {L M : Nat → List T} {e : Nat} : ∀ {ws : List Way} {j : Nat}, (∀ w ∈ ws, ∀ c ∈ w.2, L c = M c) → allFrom L e j ws = allFrom M e j ws
  | [], _, _ => rfl
  | w :: ws, j, h => by
    rw [allFrom, allFrom, wayTrees, wayTrees, rows_congr (h w (by simp)), allFrom_congr fun v hv => h v (List.mem_cons_of_mem _ hv)]
theorem rows_length_cons (L : Nat → List T) (c : Nat) (cs : List Nat) : (rows L (c :: cs)).length = (L c).length * (rows L cs).length := by
  rw [rows, length_flatMap_sum, sum_const _ (rows L cs).length _ fun x _ => by simp]
def cnt (L : Nat → List T) (e : Nat) (c : Int) : Nat := (fil c (L e)).length
def cntR (L : Nat → List T) (cs : List Nat) (s : Int) : Nat := (fil s (rows L cs)).length
theorem cntR_nil (L : Nat → List T) (s : Int) : cntR L [] s = if s = 0 then 1 else 0 := by
  unfold cntR rows fil
  by_cases h : s = 0
  · subst h; rfl
  · rw [if_neg h, List.filter_cons_of_neg (by simp; omega)]; rfl
theorem fil_rows_cons (L : Nat → List T) (c : Nat) (cs : List Nat) (s : Int) :
    fil s (rows L (c :: cs)) = (L c).flatMap fun t => (fil (s - t.1) (rows L cs)).map fun r => (t.1 + r.1, t.2 ++ r.2) := by
  rw [rows, fil, List.filter_flatMap]
  congr 1
  funext t
  rw [List.filter_map, fil]
  congr 2
  funext r
  simp only [Function.comp]
  congr 1
  exact propext ⟨fun h => by omega, fun h => by omega⟩
theorem cntR_cons (L : Nat → List T) (c : Nat) (cs : List Nat) (s : Int) : cntR L (c :: cs) s = ((L c).map fun t => cntR L cs (s - t.1)).sum := by
  rw [cntR, fil_rows_cons, length_flatMap_sum]
  exact sum_map_congr fun t _ => by rw [List.length_map, cntR]
/-- the rows ahead of those whose first child costs ck -/
def before (L : Nat → List T) (c : Nat) (cs : List Nat) (s ck : Int) : Nat := (((L c).filter fun t => decide (t.1 < ck)).map fun t => cntR L cs (s - t.1)).sum
inductive Below (L : Nat → List T) : List Nat → Int → Nat → List Coord → Prop
  | nil : Below L [] 0 0 []
  | cons {c : Nat} {cs : List Nat} {s ck : Int} {p q : Nat} {bl : List Coord} (hp : p < cnt L c ck) (h : Below L cs (s - ck) q bl) :
      Below L (c :: cs) s (before L c cs s ck + p * cntR L cs (s - ck) + q) ((c, ck, p) :: bl)
def flatC (L : Nat → List T) (x : Coord) : Flat := (((fil x.2.1 (L x.1))[x.2.2]?).map (·.2)).getD []
theorem flatC_of {L : Nat → List T} {e : Nat} {c : Int} {p : Nat} {t : T} (h : (fil c (L e))[p]? = some t) : flatC L (e, c, p) = t.2 := by
  simp [flatC, h]
def Asc (L : Nat → List T) : Prop := ∀ e, (L e).Pairwise fun a b => a.1 ≤ b.1
/-- the row at its place -/
theorem row_at {L : Nat → List T} (A : Asc L) {c : Nat} {cs : List Nat} {s ck : Int} {p q : Nat} {t r : T} (ht : (fil ck (L c))[p]? = some t) (hr : (fil (s - ck) (rows L cs))[q]? = some r) :
    (fil s (rows L (c :: cs)))[before L c cs s ck + p * cntR L cs (s - ck) + q]? = some (t.1 + r.1, t.2 ++ r.2) := by
  have e := asc_split (A c) ck
  rw [fil_rows_cons]
  have e1 : (L c).flatMap (fun t => (fil (s - t.1) (rows L cs)).map fun r => (t.1 + r.1, t.2 ++ r.2)) =
      ((L c).filter (fun t => decide (t.1 < ck))).flatMap (fun t => (fil (s - t.1) (rows L cs)).map fun r => (t.1 + r.1, t.2 ++ r.2)) ++
      ((fil ck (L c)).flatMap (fun t => (fil (s - t.1) (rows L cs)).map fun r => (t.1 + r.1, t.2 ++ r.2)) ++
        ((L c).filter (fun t => decide (ck < t.1))).flatMap (fun t => (fil (s - t.1) (rows L cs)).map fun r => (t.1 + r.1, t.2 ++ r.2))) := by
    rw [← List.flatMap_append, ← List.flatMap_append, ← e]
  rw [e1]
  have e2 : before L c cs s ck = (((L c).filter (fun t => decide (t.1 < ck))).flatMap (fun t => (fil (s - t.1) (rows L cs)).map fun r => (t.1 + r.1, t.2 ++ r.2))).length := by
    rw [length_flatMap_sum, before]
    exact sum_map_congr fun t _ => by rw [List.length_map, cntR]
  rw [Nat.add_assoc, e2, getElem?_append_add]
  have hq : q < cntR L cs (s - ck) := by
    rcases Nat.lt_or_ge q (fil (s - ck) (rows L cs)).length with h | h
    · exact h
    · rw [List.getElem?_eq_none h] at hr; cases hr
  have tc : t.1 = ck := (mem_fil.mp (List.mem_of_getElem? ht)).2
  have k : ((fil ck (L c)).flatMap (fun t => (fil (s - t.1) (rows L cs)).map fun r => (t.1 + r.1, t.2 ++ r.2)))[p * cntR L cs (s - ck) + q]? = some (t.1 + r.1, t.2 ++ r.2) := by
    rw [flatMap_const _ (cntR L cs (s - ck)) _ (fun x hx => by rw [List.length_map, (mem_fil.mp hx).2, cntR]) p q t ht hq, List.getElem?_map, tc, hr]; rfl
  rw [List.getElem?_append_left (List.getElem?_eq_some_iff.mp k).1, k]
theorem Below.sem {L : Nat → List T} (A : Asc L) : ∀ {cs : List Nat} {s : Int} {q : Nat} {bl : List Coord}, Below L cs s q bl → (fil s (rows L cs))[q]? = some (s, bl.flatMap (flatC L))
  | _, _, _, _, .nil => rfl
  | _, _, _, _, @Below.cons _ c cs s ck p q bl hp h => by
    have ht : (fil ck (L c))[p]? = some (fil ck (L c))[p] := List.getElem?_eq_getElem hp
    have r := row_at A ht (h.sem A)
    rw [r, List.flatMap_cons, flatC_of ht]
    have tc : ((fil ck (L c))[p]).1 = ck := (mem_fil.mp (List.getElem_mem hp)).2
    rw [tc]
    congr 2
    show ck + (s - ck) = s
    omega
theorem Below.lt {L : Nat → List T} (A : Asc L) {cs : List Nat} {s : Int} {q : Nat} {bl : List Coord} (h : Below L cs s q bl) : q < cntR L cs s := (List.getElem?_eq_some_iff.mp (h.sem A)).1
theorem Below.fst {L : Nat → List T} : ∀ {cs : List Nat} {s : Int} {q : Nat} {bl : List Coord}, Below L cs s q bl → bl.map (·.1) = cs
  | _, _, _, _, .nil => rfl
  | _, _, _, _, .cons _ h => by rw [List.map_cons, h.fst]
theorem Below.sum {L : Nat → List T} : ∀ {cs : List Nat} {s : Int} {q : Nat} {bl : List Coord}, Below L cs s q bl → (bl.map (·.2.1)).sum = s
  | _, _, _, _, .nil => rfl
  | _, _, _, _, @Below.cons _ c cs s ck p q bl _ h => by
    rw [List.map_cons, List.sum_cons, h.sum]
    show ck + (s - ck) = s
    omega
theorem Below.ok {L : Nat → List T} : ∀ {cs : List Nat} {s : Int} {q : Nat} {bl : List Coord}, Below L cs s q bl → ∀ x ∈ bl, x.1 ∈ cs ∧ x.2.2 < cnt L x.1 x.2.1
  | _, _, _, _, .nil, x, hx => by simp at hx
  | _, _, _, _, .cons hp h, x, hx => by
    rcases List.mem_cons.mp hx with e | hx
    · subst e; exact ⟨List.mem_cons_self, hp⟩
    · exact ⟨List.mem_cons_of_mem _ (h.ok x hx).1, (h.ok x hx).2⟩
theorem Below.has {L : Nat → List T} (A : Asc L) : ∀ (cs : List Nat) (s : Int) (q : Nat), q < cntR L cs s → ∃ bl, Below L cs s q bl
  | [], s, q, h => by
    rw [cntR_nil] at h
    by_cases e : s = 0
    · subst e
      have : q = 0 := by simpa using h
      subst this
      exact ⟨[], .nil⟩
    · rw [if_neg e] at h; omega
  | c :: cs, s, q, h => by
    rw [cntR_cons] at h
    obtain ⟨l1, t, l2, e, h1, h2⟩ := find_place (fun t : T => cntR L cs (s - t.1)) (L c) q h
    have hA := A c
    rw [e] at hA
    have hA1 : l1.Pairwise fun a b => a.1 ≤ b.1 := (List.pairwise_append.mp hA).1
    have hle : ∀ u ∈ l1, u.1 ≤ t.1 := fun u hu => (List.pairwise_append.mp hA).2.2 u hu t (by simp)
    have hge : ∀ u ∈ t :: l2, t.1 ≤ u.1 := fun u hu => by
      rcases List.mem_cons.mp hu with e | hu
      · rw [e]; exact Int.le_refl _
      · exact (List.pairwise_cons.mp (List.pairwise_append.mp hA).2.1).1 u hu
    have e1 : (L c).filter (fun u => decide (u.1 < t.1)) = l1.filter (fun u => decide (u.1 < t.1)) := by
      have z : (t :: l2).filter (fun u => decide (u.1 < t.1)) = [] := List.filter_eq_nil_iff.mpr fun u hu => by have := hge u hu; simp; omega
      rw [e, List.filter_append, z, List.append_nil]
    have e2 : l1.filter (fun u => decide (t.1 < u.1)) = [] := List.filter_eq_nil_iff.mpr fun u hu => by have := hle u hu; simp; omega
    have e3 := asc_split hA1 t.1
    rw [e2, List.append_nil] at e3
    have e4 : (l1.map fun t => cntR L cs (s - t.1)).sum = before L c cs s t.1 + (fil t.1 l1).length * cntR L cs (s - t.1) := by
      rw [before, e1]
      conv => lhs; rw [e3]
      rw [List.map_append, sum_append, sum_const _ (cntR L cs (s - t.1)) (fil t.1 l1) fun u hu => by rw [(mem_fil.mp hu).2]]
    have hp : (fil t.1 l1).length < cnt L c t.1 := by
      rw [cnt, e, fil_append, List.length_append, fil_cons_pos rfl, List.length_cons]; omega
    obtain ⟨bl, hb⟩ := Below.has A cs (s - t.1) (q - (l1.map fun t => cntR L cs (s - t.1)).sum) (by omega)
    refine ⟨(c, t.1, (fil t.1 l1).length) :: bl, ?_⟩
    have := Below.cons hp hb
    rw [← e4, show (l1.map fun t => cntR L cs (s - t.1)).sum + (q - (l1.map fun t => cntR L cs (s - t.1)).sum) = q by omega] at this
    exact this

/-! ### nodes -/
/-- trees with this cost whose way stands ahead of j -/
def pre (L : Nat → List T) (en : List Way) (j : Nat) (c : Int) : Nat := ((en.take j).map fun w => cntR L w.2 (c - w.1)).sum
theorem pre_succ {L : Nat → List T} {en : List Way} {j : Nat} {c : Int} {w : Way} (h : en[j]? = some w) : pre L en (j + 1) c = pre L en j c + cntR L w.2 (c - w.1) := by
  have hj := (List.getElem?_eq_some_iff.mp h)
  obtain ⟨hj, e⟩ := hj
  rw [pre, pre, List.take_succ, h]
  simp [e]
def Node (L : Nat → List T) (en : List Way) (c : Int) (p j : Nat) (bl : List Coord) : Prop := ∃ w q, en[j]? = some w ∧ Below L w.2 (c - w.1) q bl ∧ p = pre L en j c + q
theorem fil_way (L : Nat → List T) (e j : Nat) (w : Way) (c : Int) : fil c (wayTrees L e j w) = (fil (c - w.1) (rows L w.2)).map fun r => (w.1 + r.1, (e, j) :: r.2) := by
  rw [wayTrees, fil, List.filter_map, fil]
  congr 2
  funext r
  simp only [Function.comp]
  congr 1
  exact propext ⟨fun h => by omega, fun h => by omega⟩
theorem fil_way_length (L : Nat → List T) (e j : Nat) (w : Way) (c : Int) : (fil c (wayTrees L e j w)).length = cntR L w.2 (c - w.1) := by rw [fil_way, List.length_map, cntR]
theorem fil_all_length (L : Nat → List T) (e : Nat) (c : Int) : ∀ (ws : List Way) (j : Nat), (fil c (allFrom L e j ws)).length = (ws.map fun w => cntR L w.2 (c - w.1)).sum
  | [], _ => rfl
  | w :: ws, j => by rw [allFrom, fil_append, List.length_append, fil_way_length, fil_all_length L e c ws, List.map_cons, List.sum_cons]
theorem all_at {L : Nat → List T} {e : Nat} {en : List Way} {j : Nat} {w : Way} {c : Int} {q : Nat} (hj : en[j]? = some w) {r : T} (hr : (fil (c - w.1) (rows L w.2))[q]? = some r) :
    (fil c (allFrom L e 0 en))[pre L en j c + q]? = some (w.1 + r.1, (e, j) :: r.2) := by
  obtain ⟨hjl, ew⟩ := List.getElem?_eq_some_iff.mp hj
  have e0 : en = en.take j ++ (w :: en.drop (j + 1)) := by
    rw [← ew, ← List.drop_eq_getElem_cons hjl, List.take_append_drop]
  have e1 : allFrom L e 0 en = allFrom L e 0 (en.take j) ++ (wayTrees L e j w ++ allFrom L e (j + 1) (en.drop (j + 1))) := by
    conv => lhs; rw [e0]
    rw [allFrom_append, allFrom, List.length_take, Nat.zero_add, show min j en.length = j by omega]
  rw [e1, fil_append, fil_append]
  have e2 : pre L en j c = (fil c (allFrom L e 0 (en.take j))).length := by rw [fil_all_length, pre]
  rw [e2, getElem?_append_add]
  have k : (fil c (wayTrees L e j w))[q]? = some (w.1 + r.1, (e, j) :: r.2) := by rw [fil_way, List.getElem?_map, hr]; rfl
  rw [List.getElem?_append_left (List.getElem?_eq_some_iff.mp k).1, k]
theorem pre_lt_find {L : Nat → List T} {en : List Way} {c : Int} {p : Nat} (h : p < (en.map fun w => cntR L w.2 (c - w.1)).sum) : ∃ j w q, en[j]? = some w ∧ q < cntR L w.2 (c - w.1) ∧ p = pre L en j c + q := by
  obtain ⟨l1, w, l2, e, h1, h2⟩ := find_place (fun w : Way => cntR L w.2 (c - w.1)) en p h
  refine ⟨l1.length, w, p - (l1.map fun w => cntR L w.2 (c - w.1)).sum, by rw [e]; simp, by omega, ?_⟩
  rw [pre, e, List.take_left]
  omega
/-- an entry: its trees are sorted -/
def Ent (L : Nat → List T) (e : Nat) (en : List Way) : Prop := Srt (L e) (allFrom L e 0 en)
theorem Ent.cnt {L : Nat → List T} {e : Nat} {en : List Way} (E : Ent L e en) (c : Int) : cnt L e c = (en.map fun w => cntR L w.2 (c - w.1)).sum := by
  rw [K24.cnt, E.cls, fil_all_length]
theorem Node.sem {L : Nat → List T} (A : Asc L) {e : Nat} {en : List Way} (E : Ent L e en) {c : Int} {p j : Nat} {bl : List Coord} (h : Node L en c p j bl) : (fil c (L e))[p]? = some (c, (e, j) :: bl.flatMap (flatC L)) := by
  obtain ⟨w, q, hj, hb, rfl⟩ := h
  rw [E.cls, all_at hj (hb.sem A)]
  congr 2
  show w.1 + (c - w.1) = c
  omega
theorem Node.lt {L : Nat → List T} (A : Asc L) {e : Nat} {en : List Way} (E : Ent L e en) {c : Int} {p j : Nat} {bl : List Coord} (h : Node L en c p j bl) : p < cnt L e c := (List.getElem?_eq_some_iff.mp (h.sem A E)).1
theorem Node.flat {L : Nat → List T} (A : Asc L) {e : Nat} {en : List Way} (E : Ent L e en) {c : Int} {p j : Nat} {bl : List Coord} (h : Node L en c p j bl) : flatC L (e, c, p) = (e, j) :: bl.flatMap (flatC L) := flatC_of (h.sem A E)
theorem Node.has {L : Nat → List T} (A : Asc L) {e : Nat} {en : List Way} (E : Ent L e en) {c : Int} {p : Nat} (h : p < cnt L e c) : ∃ j bl, Node L en c p j bl := by
  rw [E.cnt] at h
  obtain ⟨j, w, q, hj, hq, e1⟩ := pre_lt_find h
  obtain ⟨bl, hb⟩ := Below.has A w.2 (c - w.1) q hq
  exact ⟨j, bl, w, q, hj, hb, e1⟩

/-! ### the whole forest -/
/-- L lists the trees of the forest F -/
structure Lists (F : Fo) (L : Nat → List T) : Prop where
  asc : Asc L
  ent : ∀ e en, F[e]? = some en → Ent L e en
  chi : ∀ (e : Nat) (en : List Way), F[e]? = some en → ∀ w ∈ en, ∀ c ∈ w.2, c < e
/-- number(): reading pairs from behind over a row of coordinates -/
inductive Run (F : Fo) (L : Nat → List T) : Flat → List Coord → List Coord → Prop
  | nil {D : List Coord} : Run F L [] D D
  | cons {e j : Nat} {en : List Way} {c : Int} {p : Nat} {bl D D' : List Coord} {xs : Flat} (he : F[e]? = some en) (hn : Node L en c p j bl) (h : Run F L xs (D ++ [(e, c, p)]) D') : Run F L ((e, j) :: xs) (D ++ bl.reverse) D'
theorem Run.append {F : Fo} {L : Nat → List T} : ∀ {xs ys : Flat} {D D1 D2 : List Coord}, Run F L xs D D1 → Run F L ys D1 D2 → Run F L (xs ++ ys) D D2
  | _, _, _, _, _, .nil, h => h
  | _, _, _, _, _, .cons he hn h', h => .cons he hn (h'.append h)
theorem Run.of {F : Fo} {L : Nat → List T} (G : Lists F L) : ∀ (e : Nat) (en : List Way), F[e]? = some en → ∀ (c : Int) (p : Nat) (D : List Coord), p < cnt L e c → Run F L (flatC L (e, c, p)).reverse D (D ++ [(e, c, p)]) := by
  intro e
  induction e using Nat.strongRecOn with
  | _ e ih =>
    intro en he c p D hp
    obtain ⟨j, bl, hn⟩ := Node.has G.asc (G.ent e en he) hp
    rw [hn.flat G.asc (G.ent e en he), List.reverse_cons]
    have hb : ∀ x ∈ bl, x.1 < e ∧ x.2.2 < cnt L x.1 x.2.1 := fun x hx => by
      obtain ⟨w, q, hj, hb, _⟩ := hn
      exact ⟨G.chi e en he w (List.mem_of_getElem? hj) x.1 (hb.ok x hx).1, (hb.ok x hx).2⟩
    have hlen : ∀ x : Nat, x < e → ∃ en', F[x]? = some en' := fun x hx => by
      have := (List.getElem?_eq_some_iff.mp he).1
      exact ⟨F[x]'(by omega), List.getElem?_eq_getElem _⟩
    have run : ∀ (cl : List Coord), (∀ x ∈ cl, x ∈ bl) → ∀ D, Run F L (cl.flatMap (flatC L)).reverse D (D ++ cl.reverse) := by
      intro cl
      induction cl with
      | nil => intro _ D; simpa using Run.nil
      | cons x cl ih2 =>
        intro hm D
        rw [List.flatMap_cons, List.reverse_append, List.reverse_cons, ← List.append_assoc]
        refine (ih2 (fun y hy => hm y (List.mem_cons_of_mem _ hy)) D).append ?_
        obtain ⟨h1, h2⟩ := hb x (hm x List.mem_cons_self)
        obtain ⟨en', he'⟩ := hlen x.1 h1
        exact ih x.1 h1 en' he' x.2.1 x.2.2 _ h2
    exact (run bl (fun _ h => h) D).append (.cons he hn .nil)
/-- the place of a tree among all of its entry -/
theorem num_at {L : Nat → List T} (A : Asc L) {e : Nat} {c : Int} {p : Nat} {t : T} (h : (fil c (L e))[p]? = some t) : (L e)[((L e).filter fun t => decide (t.1 < c)).length + p]? = some t := by
  have e1 := asc_split (A e) c
  have hp := (List.getElem?_eq_some_iff.mp h).1
  conv => lhs; rw [e1]
  rw [List.filter_append, List.filter_append]
  have e2 : (fil c (L e)).filter (fun t => decide (t.1 < c)) = [] := List.filter_eq_nil_iff.mpr fun t ht => by have := (mem_fil.mp ht).2; simp; omega
  have e3 : ((L e).filter (fun t => decide (c < t.1))).filter (fun t => decide (t.1 < c)) = [] := List.filter_eq_nil_iff.mpr fun t ht => by have := (List.mem_filter.mp ht).2; simp at this; simp; omega
  have e4 : ((L e).filter (fun t => decide (t.1 < c))).filter (fun t => decide (t.1 < c)) = (L e).filter (fun t => decide (t.1 < c)) := by simp
  rw [e2, e3, e4, List.nil_append, List.append_nil, getElem?_append_add, List.getElem?_append_left hp, h]
theorem num_find {L : Nat → List T} (A : Asc L) {e n : Nat} {t : T} (h : (L e)[n]? = some t) : ∃ p, (fil t.1 (L e))[p]? = some t ∧ n = ((L e).filter fun u => decide (u.1 < t.1)).length + p := by
  obtain ⟨hn, et⟩ := List.getElem?_eq_some_iff.mp h
  have e1 := asc_split (A e) t.1
  -- n is not in the first part, nor in the last
  have hk : ∀ (a b c : List T), L e = a ++ (b ++ c) → (∀ u ∈ a, u.1 < t.1) → (∀ u ∈ c, t.1 < u.1) → a.length ≤ n ∧ b[n - a.length]? = some t := by
    intro a b c he ha hc
    rw [he] at h
    rcases Nat.lt_or_ge n a.length with q | q
    · rw [List.getElem?_append_left q] at h
      have := ha t (List.mem_of_getElem? h)
      omega
    · refine ⟨q, ?_⟩
      rw [List.getElem?_append_right q] at h
      rcases Nat.lt_or_ge (n - a.length) b.length with r | r
      · rw [List.getElem?_append_left r] at h; exact h
      · rw [List.getElem?_append_right r] at h
        have := hc t (List.mem_of_getElem? h)
        omega
  obtain ⟨h1, h2⟩ := hk _ _ _ e1 (fun u hu => by simpa using (List.mem_filter.mp hu).2) (fun u hu => by simpa using (List.mem_filter.mp hu).2)
  exact ⟨_, h2, by omega⟩

/-! ### counting tables -/
abbrev Kv := List (Int × Nat)
def sumAt (ps : Kv) (s : Int) : Nat := (ps.map fun p => if p.1 = s then p.2 else 0).sum
theorem sumAt_nil (s : Int) : sumAt [] s = 0 := rfl
theorem sumAt_cons (p : Int × Nat) (ps : Kv) (s : Int) : sumAt (p :: ps) s = (if p.1 = s then p.2 else 0) + sumAt ps s := by simp [sumAt]
theorem sumAt_append (a b : Kv) (s : Int) : sumAt (a ++ b) s = sumAt a s + sumAt b s := by simp [sumAt]
theorem sumAt_notin {kv : Kv} {s : Int} (h : s ∉ kv.map (·.1)) : sumAt kv s = 0 := by
  induction kv with
  | nil => rfl
  | cons p kv ih =>
    rw [List.map_cons, List.mem_cons, not_or] at h
    rw [sumAt_cons, if_neg (fun e => h.1 e.symm), ih h.2]
theorem sumAt_mem : ∀ {kv : Kv}, (kv.map (·.1)).Nodup → ∀ {s : Int} {n : Nat}, (s, n) ∈ kv → sumAt kv s = n
  | [], _, _, _, h => by simp at h
  | p :: kv, hn, s, n, h => by
    rw [List.map_cons, List.nodup_cons] at hn
    rw [sumAt_cons]
    rcases List.mem_cons.mp h with e | h
    · subst e
      rw [if_pos rfl, sumAt_notin hn.1]; rfl
    · have hs : s ∈ kv.map (·.1) := List.mem_map.mpr ⟨_, h, rfl⟩
      rw [if_neg (fun e => hn.1 (by rw [e]; exact hs)), sumAt_mem hn.2 h]; omega
theorem sumAt_perm {a b : Kv} (h : a.Perm b) (s : Int) : sumAt a s = sumAt b s := (h.map _).sum_nat
def put (kv : Kv) (s : Int) (n : Nat) : Kv := if (kv.any fun p => decide (p.1 = s)) = true then kv.map (fun p => if p.1 = s then (p.1, n) else p) else kv ++ [(s, n)]
theorem put_in {kv : Kv} {s : Int} (n : Nat) (h : s ∈ kv.map (·.1)) : put kv s n = kv.map (fun p => if p.1 = s then (p.1, n) else p) := by
  unfold put
  rw [if_pos]
  obtain ⟨p, hp, e⟩ := List.mem_map.mp h
  exact List.any_eq_true.mpr ⟨p, hp, by simpa using e⟩
theorem put_notin {kv : Kv} {s : Int} (n : Nat) (h : s ∉ kv.map (·.1)) : put kv s n = kv ++ [(s, n)] := by
  unfold put
  rw [if_neg]
  intro q
  obtain ⟨p, hp, e⟩ := List.any_eq_true.mp q
  exact h (List.mem_map.mpr ⟨p, hp, by simpa using e⟩)
theorem sumAt_repl : ∀ {kv : Kv}, (kv.map (·.1)).Nodup → ∀ {s : Int} (n : Nat) (u : Int), s ∈ kv.map (·.1) → sumAt (kv.map fun p => if p.1 = s then (p.1, n) else p) u = if u = s then n else sumAt kv u
  | [], _, s, n, u, h => by simp at h
  | p :: kv, hn, s, n, u, h => by
    rw [List.map_cons, List.nodup_cons] at hn
    rw [List.map_cons, sumAt_cons, sumAt_cons]
    by_cases e : p.1 = s
    · have e2 : kv.map (fun p => if p.1 = s then (p.1, n) else p) = kv := by
        rw [List.map_congr_left (g := id) fun q hq => ?_, List.map_id]
        rw [if_neg]; exact rfl
        intro z
        exact hn.1 (List.mem_map.mpr ⟨q, hq, by rw [z, e]⟩)
      rw [e2, if_pos e]
      by_cases hu : u = s
      · rw [if_pos hu, hu]
        have : sumAt kv s = 0 := sumAt_notin (by rw [← e]; exact hn.1)
        simp [e, this]
      · rw [if_neg hu]
        have : ¬ p.1 = u := fun z => hu (by rw [← z, e])
        simp [this]
    · have h' : s ∈ kv.map (·.1) := by
        rcases List.mem_cons.mp (by simpa using h : s ∈ p.1 :: kv.map (·.1)) with z | z
        · exact absurd z.symm e
        · exact z
      rw [if_neg e, sumAt_repl hn.2 n u h']
      by_cases hu : u = s
      · subst hu; simp [e]
      · simp [hu]
theorem sumAt_put {kv : Kv} (hn : (kv.map (·.1)).Nodup) (s : Int) (n : Nat) (u : Int) : sumAt (put kv s n) u = if u = s then n else sumAt kv u := by
  by_cases h : s ∈ kv.map (·.1)
  · rw [put_in n h, sumAt_repl hn n u h]
  · rw [put_notin n h, sumAt_append, sumAt_cons, sumAt_nil]
    by_cases hu : u = s
    · subst hu; simp [sumAt_notin h]
    · simp [hu, Ne.symm hu]
theorem put_nodup {kv : Kv} (hn : (kv.map (·.1)).Nodup) (s : Int) (n : Nat) : ((put kv s n).map (·.1)).Nodup := by
  by_cases h : s ∈ kv.map (·.1)
  · rw [put_in n h, List.map_map]
    have : ((fun p : Int × Nat => p.1) ∘ fun p => if p.1 = s then (p.1, n) else p) = fun p => p.1 := by
      funext p; simp only [Function.comp]; split <;> rfl
    rw [this]; exact hn
  · rw [put_notin n h, List.map_append]
    refine List.nodup_append.mpr ⟨hn, by simp, fun a ha b hb => ?_⟩
    rw [show b = s by simpa using hb]
    intro e; exact h (e ▸ ha)
theorem put_pos {kv : Kv} (hp : ∀ p ∈ kv, 0 < p.2) {s : Int} {n : Nat} (h : 0 < n) : ∀ p ∈ put kv s n, 0 < p.2 := by
  intro p hm
  by_cases hs : s ∈ kv.map (·.1)
  · rw [put_in n hs] at hm
    obtain ⟨q, hq, e⟩ := List.mem_map.mp hm
    subst e
    split
    · exact h
    · exact hp q hq
  · rw [put_notin n hs] at hm
    rcases List.mem_append.mp hm with hm | hm
    · exact hp p hm
    · rw [show p = (s, n) by simpa using hm]; exact h
theorem put_length (kv : Kv) (s : Int) (n : Nat) : (put kv s n).length ≤ kv.length + 1 := by
  unfold put; split <;> simp
/-- what has been added, pair by pair -/
structure Acc (kv ps : Kv) : Prop where
  nd : (kv.map (·.1)).Nodup
  pos : ∀ p ∈ kv, 0 < p.2
  val : ∀ s, sumAt kv s = sumAt ps s
theorem Acc.nil : Acc [] [] := ⟨List.nodup_nil, by simp, fun _ => rfl⟩
theorem Acc.add {kv ps : Kv} (a : Acc kv ps) {s : Int} {n : Nat} (h : 0 < n) : Acc (put kv s (sumAt kv s + n)) (ps ++ [(s, n)]) := by
  refine ⟨put_nodup a.nd _ _, put_pos a.pos (by omega), fun u => ?_⟩
  rw [sumAt_put a.nd, sumAt_append, sumAt_cons, sumAt_nil, ← a.val]
  by_cases hu : u = s
  · subst hu; simp
  · simp [hu, Ne.symm hu]
/-- the table of a list's counts -/
structure IsCnt (kv : Kv) (l : List Int) : Prop where
  nd : (kv.map (·.1)).Nodup
  pos : ∀ p ∈ kv, 0 < p.2
  val : ∀ s, sumAt kv s = l.count s
theorem Acc.cnt {kv ps : Kv} {l : List Int} (a : Acc kv ps) (h : ∀ s, sumAt ps s = l.count s) : IsCnt kv l := ⟨a.nd, a.pos, fun s => (a.val s).trans (h s)⟩
theorem IsCnt.one : IsCnt [(0, 1)] [0] := ⟨by simp, by simp, fun s => by
  rw [sumAt_cons, sumAt_nil]
  by_cases h : (0 : Int) = s
  · subst h; rfl
  · rw [if_neg h]; simp [List.count_cons, h]⟩
theorem IsCnt.mem {kv : Kv} {l : List Int} (c : IsCnt kv l) {s : Int} {n : Nat} (h : (s, n) ∈ kv) : n = l.count s := by
  rw [← c.val, sumAt_mem c.nd h]
theorem IsCnt.has {kv : Kv} {l : List Int} (c : IsCnt kv l) {s : Int} (h : s ∈ l) : (s, l.count s) ∈ kv := by
  by_cases hs : s ∈ kv.map (·.1)
  · obtain ⟨⟨a, n⟩, hp, e⟩ := List.mem_map.mp hs
    have e : a = s := e
    subst e
    rw [← c.mem hp]; exact hp
  · have := c.val s
    rw [sumAt_notin hs] at this
    have h2 := List.count_pos_iff.mpr h
    omega
theorem IsCnt.perm {a b : Kv} {l : List Int} (c : IsCnt a l) (h : b.Perm a) : IsCnt b l :=
  ⟨(h.map _).nodup_iff.mpr c.nd, fun p hp => c.pos p (h.mem_iff.mp hp), fun s => (sumAt_perm h s).trans (c.val s)⟩
theorem IsCnt.congr {a : Kv} {l m : List Int} (c : IsCnt a l) (h : ∀ s, l.count s = m.count s) : IsCnt a m := ⟨c.nd, c.pos, fun s => (c.val s).trans (h s)⟩
theorem sum_split_key (g : Int → Nat) (a : Int) (l : List Int) : (l.map g).sum = l.count a * g a + ((l.filter fun b => decide (b ≠ a)).map g).sum := by
  induction l with
  | nil => simp
  | cons b l ih =>
    by_cases h : b = a
    · subst h
      rw [List.filter_cons_of_neg (by simp), List.map_cons, List.sum_cons, ih, List.count_cons_self, Nat.add_mul]; omega
    · rw [List.filter_cons_of_pos (by simpa using h), List.map_cons, List.map_cons, List.sum_cons, List.sum_cons, ih, List.count_cons_of_ne h]; omega
theorem IsCnt.sum (g : Int → Nat) : ∀ {kv : Kv} {l : List Int}, IsCnt kv l → (kv.map fun p => p.2 * g p.1).sum = (l.map g).sum
  | [], l, c => by
    cases l with
    | nil => rfl
    | cons a l => have := c.has (s := a) (by simp); simp at this
  | p :: kv, l, c => by
    have hn := c.nd
    rw [List.map_cons, List.nodup_cons] at hn
    have c' : IsCnt kv (l.filter fun b => decide (b ≠ p.1)) := by
      refine ⟨hn.2, fun q hq => c.pos q (List.mem_cons_of_mem _ hq), fun s => ?_⟩
      have v := c.val s
      rw [sumAt_cons] at v
      by_cases h : p.1 = s
      · subst h
        rw [sumAt_notin hn.1]
        exact (List.count_eq_zero.mpr (by simp)).symm
      · rw [if_neg h] at v
        rw [List.count_filter (by simpa using fun e => h e.symm)]; omega
    rw [List.map_cons, List.sum_cons, c'.sum g, sum_split_key g p.1 l]
    have : p.2 = l.count p.1 := c.mem (s := p.1) (n := p.2) (by simp)
    rw [← this]
theorem IsCnt.total {kv : Kv} {l : List Int} (c : IsCnt kv l) : (kv.map (·.2)).sum = l.length := by
  have := c.sum fun _ => 1
  rw [sum_const _ 1 l fun _ _ => rfl, Nat.mul_one] at this
  rw [← this]
  exact sum_map_congr fun p _ => (Nat.mul_one _).symm
theorem IsCnt.length_le {kv : Kv} {l : List Int} (c : IsCnt kv l) : kv.length ≤ l.length := by
  rw [← c.total]
  have : ∀ (k : Kv), (∀ p ∈ k, 0 < p.2) → k.length ≤ (k.map (·.2)).sum := by
    intro k
    induction k with
    | nil => simp
    | cons p k ih =>
      intro h
      have h1 := h p (by simp)
      have h2 := ih fun q hq => h q (List.mem_cons_of_mem _ hq)
      rw [List.length_cons, List.map_cons, List.sum_cons]; omega
  exact this kv c.pos

/-! ### what combined() adds up -/
def prods (kv1 kv2 : Kv) : Kv := kv1.flatMap fun p => kv2.map fun q => (p.1 + q.1, p.2 * q.2)
theorem sumAt_scaled (a : Int) (n : Nat) (s : Int) : ∀ kv : Kv, sumAt (kv.map fun q => (a + q.1, n * q.2)) s = n * sumAt kv (s - a)
  | [] => by simp [sumAt]
  | q :: kv => by
    rw [List.map_cons, sumAt_cons, sumAt_cons, sumAt_scaled a n s kv, Nat.mul_add]
    congr 1
    by_cases h : a + q.1 = s
    · rw [if_pos h, if_pos (by omega)]
    · rw [if_neg h, if_neg (by omega)]; simp
theorem sumAt_prods (kv1 kv2 : Kv) (s : Int) : sumAt (prods kv1 kv2) s = (kv1.map fun p => p.2 * sumAt kv2 (s - p.1)).sum := by
  unfold prods
  induction kv1 with
  | nil => rfl
  | cons p kv1 ih => rw [List.flatMap_cons, sumAt_append, sumAt_scaled, ih, List.map_cons, List.sum_cons]
theorem prods_cnt {L : Nat → List T} {c : Nat} {cs : List Nat} {kv1 kv2 : Kv} (h1 : IsCnt kv1 (costs (L c))) (h2 : IsCnt kv2 (costs (rows L cs))) (s : Int) : sumAt (prods kv1 kv2) s = (costs (rows L (c :: cs))).count s := by
  have e1 : (kv1.map fun p => p.2 * sumAt kv2 (s - p.1)).sum = (kv1.map fun p => p.2 * cntR L cs (s - p.1)).sum := by
    refine sum_map_congr fun p _ => ?_
    rw [h2.val, count_costs, cntR]
  rw [sumAt_prods, e1, h1.sum (fun a => cntR L cs (s - a)), count_costs, ← cntR, cntR_cons, costs, List.map_map]
  exact sum_map_congr fun t _ => rfl
/-- what an entry's loop adds up -/
def shifts (c : Int) (kv : Kv) : Kv := kv.map fun q => (c + q.1, q.2)
theorem sumAt_shifts (c : Int) (s : Int) (kv : Kv) : sumAt (shifts c kv) s = sumAt kv (s - c) := by
  have := sumAt_scaled c 1 s kv
  simpa [shifts] using this
theorem wayTrees_cnt (L : Nat → List T) (e j : Nat) (w : Way) (s : Int) : (costs (wayTrees L e j w)).count s = (costs (rows L w.2)).count (s - w.1) := by
  rw [count_costs, fil_way_length, cntR, count_costs]

/-! ### sorted tables -/
structure SCnt (S : Kv) (l : List Int) : Prop where
  cnt : IsCnt S l
  asc : S.Pairwise fun a b => a.1 < b.1
theorem SCnt.lt_sum {S : Kv} {l : List Int} (h : SCnt S l) (g : Int → Nat) {i : Nat} {c : Int} {n : Nat} (hi : S[i]? = some (c, n)) :
    ((S.take i).map fun p => p.2 * g p.1).sum = ((l.filter fun a => decide (a < c)).map g).sum := by
  have e := h.cnt.sum fun a => if a < c then g a else 0
  have e2 : (l.map fun a => if a < c then g a else 0).sum = ((l.filter fun a => decide (a < c)).map g).sum := by
    clear e h
    induction l with
    | nil => rfl
    | cons a l ih =>
      by_cases q : a < c
      · rw [List.filter_cons_of_pos (by simpa using q), List.map_cons, List.map_cons, List.sum_cons, List.sum_cons, ih, if_pos q]
      · rw [List.filter_cons_of_neg (by simpa using q), List.map_cons, List.sum_cons, ih, if_neg q]; omega
  rw [e2] at e
  rw [← e]
  obtain ⟨hil, ei⟩ := List.getElem?_eq_some_iff.mp hi
  have hs : S = S.take i ++ S.drop i := (List.take_append_drop i S).symm
  have hd : S.drop i = (c, n) :: S.drop (i + 1) := by rw [← ei]; exact List.drop_eq_getElem_cons hil
  have ha := h.asc
  rw [hs, hd] at ha
  have ha1 := List.pairwise_append.mp ha
  conv => rhs; rw [hs]
  rw [List.map_append, sum_append]
  have z1 : ((S.drop i).map fun p => p.2 * (if p.1 < c then g p.1 else 0)).sum = 0 := by
    rw [sum_const _ 0]; simp
    intro x hx
    rw [hd] at hx
    have : ¬ x.1 < c := by
      rcases List.mem_cons.mp hx with z | z
      · rw [z]; exact Int.lt_irrefl _
      · have := (List.pairwise_cons.mp ha1.2.1).1 x z
        show ¬ x.1 < c
        have q : c < x.1 := this
        omega
    rw [if_neg this]; rfl
  rw [z1, Nat.add_zero]
  refine sum_map_congr fun p hp => ?_
  have : p.1 < c := ha1.2.2 p hp (c, n) (by simp)
  rw [if_pos this]
theorem SCnt.lt_count {S : Kv} {l : List Int} (h : SCnt S l) {i : Nat} {c : Int} {n : Nat} (hi : S[i]? = some (c, n)) :
    ((S.take i).map (·.2)).sum = (l.filter fun a => decide (a < c)).length := by
  have := h.lt_sum (fun _ => 1) hi
  rw [sum_const _ 1 _ fun _ _ => rfl, Nat.mul_one] at this
  rw [← this]
  exact sum_map_congr fun p _ => (Nat.mul_one _).symm
theorem SCnt.sum_if {S : Kv} {l : List Int} (h : SCnt S l) (g : Int → Nat) (c : Int) : (S.map fun p => if p.1 < c then p.2 * g p.1 else 0).sum = ((l.filter fun a => decide (a < c)).map g).sum := by
  have e := h.cnt.sum fun a => if a < c then g a else 0
  have e2 : (l.map fun a => if a < c then g a else 0).sum = ((l.filter fun a => decide (a < c)).map g).sum := by
    clear e h
    induction l with
    | nil => rfl
    | cons a l ih =>
      by_cases q : a < c
      · rw [List.filter_cons_of_pos (by simpa using q), List.map_cons, List.map_cons, List.sum_cons, List.sum_cons, ih, if_pos q]
      · rw [List.filter_cons_of_neg (by simpa using q), List.map_cons, List.sum_cons, ih, if_neg q]; omega
  rw [← e2, ← e]
  refine sum_map_congr fun p _ => ?_
  split <;> simp
theorem costs_lt (l : List T) (c : Int) : ((costs l).filter fun a => decide (a < c)) = costs (l.filter fun t => decide (t.1 < c)) := by
  rw [costs, List.filter_map]; rfl
theorem before_eq {L : Nat → List T} {c : Nat} {cs : List Nat} {s ck : Int} : (((costs (L c)).filter fun a => decide (a < ck)).map fun a => cntR L cs (s - a)).sum = before L c cs s ck := by
  rw [costs_lt, costs, List.map_map, before]; rfl

/-! ### the lists of a whole forest -/
def lk (D : List (List T)) : Nat → List T := fun e => D.getD e []
def TL (F : Fo) : List (List T) := F.foldl (fun D en => D ++ [sortT (allFrom (lk D) D.length 0 en)]) []
theorem TL_snoc (F : Fo) (en : List Way) : TL (F ++ [en]) = TL F ++ [sortT (allFrom (lk (TL F)) (TL F).length 0 en)] := by simp [TL, List.foldl_append]
theorem snoc_ind {α : Type} {P : List α → Prop} (h0 : P []) (h1 : ∀ l a, P l → P (l ++ [a])) : ∀ l, P l := by
  intro l
  rw [← List.reverse_reverse l]
  induction l.reverse with
  | nil => exact h0
  | cons a r ih => rw [List.reverse_cons]; exact h1 _ _ ih
theorem TL_length (F : Fo) : (TL F).length = F.length := by
  induction F using snoc_ind with
  | h0 => rfl
  | h1 F en ih => rw [TL_snoc, List.length_append, List.length_append, ih]; rfl
theorem lk_lt {D E : List (List T)} {e : Nat} (h : e < D.length) : lk (D ++ E) e = lk D e := by simp [lk, List.getD_eq_getElem?_getD, List.getElem?_append_left h]
theorem lk_at {D : List (List T)} {x : List T} {E : List (List T)} : lk (D ++ x :: E) D.length = x := by simp [lk, List.getD_eq_getElem?_getD]
structure WF (F : Fo) : Prop where
  nn : ∀ (e : Nat) (en : List Way), F[e]? = some en → ∀ w ∈ en, 0 ≤ w.1
  chi : ∀ (e : Nat) (en : List Way), F[e]? = some en → ∀ w ∈ en, ∀ c ∈ w.2, c < e
theorem WF.nil : WF [] := ⟨fun e en h => by simp at h, fun e en h => by simp at h⟩
theorem WF.snoc {F : Fo} {en : List Way} (h : WF F) (h1 : ∀ w ∈ en, 0 ≤ w.1) (h2 : ∀ w ∈ en, ∀ c ∈ w.2, c < F.length) : WF (F ++ [en]) := by
  have key : ∀ (e : Nat) en', (F ++ [en])[e]? = some en' → F[e]? = some en' ∨ (e = F.length ∧ en' = en) := by
    intro e en' h
    rcases Nat.lt_trichotomy e F.length with q | q | q
    · rw [List.getElem?_append_left q] at h; exact .inl h
    · subst q; simp at h; exact .inr ⟨rfl, h.symm⟩
    · rw [List.getElem?_eq_none (by simp; omega)] at h; cases h
  refine ⟨fun e en' he => ?_, fun e en' he => ?_⟩
  · rcases key e en' he with q | ⟨rfl, rfl⟩
    · exact h.nn e en' q
    · exact h1
  · rcases key e en' he with q | ⟨rfl, rfl⟩
    · exact h.chi e en' q
    · exact h2
theorem WF.init {F G : Fo} (h : WF (F ++ G)) : WF F := by
  have key : ∀ (e : Nat) en', F[e]? = some en' → (F ++ G)[e]? = some en' := fun e en' q => by
    rw [List.getElem?_append_left (List.getElem?_eq_some_iff.mp q).1, q]
  exact ⟨fun e en q => h.nn e en (key e en q), fun e en q => h.chi e en (key e en q)⟩
theorem lists_of (F : Fo) : WF F → Lists F (lk (TL F)) := by
  induction F using snoc_ind with
  | h0 => exact fun _ => ⟨fun e => by simp [lk, TL], fun e en h => by simp at h, fun e en h => by simp at h⟩
  | h1 F en ih =>
    intro h
    have ih := ih h.init
    have hlt : ∀ c, c < F.length → lk (TL (F ++ [en])) c = lk (TL F) c := fun c hc => by
      rw [TL_snoc, lk_lt (by rw [TL_length]; exact hc)]
    have hat : lk (TL (F ++ [en])) F.length = sortT (allFrom (lk (TL F)) F.length 0 en) := by
      have := lk_at (D := TL F) (x := sortT (allFrom (lk (TL F)) (TL F).length 0 en)) (E := [])
      rw [TL_snoc, ← TL_length F]
      exact this
    refine ⟨fun e => ?_, fun e en' he => ?_, h.chi⟩
    · rcases Nat.lt_trichotomy e F.length with q | q | q
      · rw [hlt e q]; exact ih.asc e
      · rw [q, hat]; exact (sortT_srt _).asc
      · have : lk (TL (F ++ [en])) e = [] := by
          have hl : (TL (F ++ [en])).length ≤ e := by rw [TL_length]; simp; omega
          simp [lk, List.getD_eq_getElem?_getD, List.getElem?_eq_none hl]
        rw [this]; exact List.Pairwise.nil
    · have chi := h.chi e en' he
      have hel : e < F.length + 1 := by simpa using (List.getElem?_eq_some_iff.mp he).1
      have ec : allFrom (lk (TL (F ++ [en]))) e 0 en' = allFrom (lk (TL F)) e 0 en' :=
        allFrom_congr fun w hw c hc => hlt c (by have := chi w hw c hc; omega)
      rw [Ent, ec]
      rcases Nat.lt_or_ge e F.length with q | q
      · rw [hlt e q]
        rw [List.getElem?_append_left q] at he
        exact ih.ent e en' he
      · have q : e = F.length := by omega
        subst q
        have : en = en' := by simpa using he
        subst this
        rw [hat]; exact sortT_srt _

/-! ### caps -/
def prodM (A : List Nat) : List Nat → Nat
  | [] => 1
  | c :: cs => max 1 (A.getD c 0) * prodM A cs
def capOf (A : List Nat) (en : List Way) : Nat := (en.map fun w => prodM A w.2).sum
def capsL (F : Fo) : List Nat := F.foldl (fun A en => A ++ [capOf A en]) []
theorem capsL_snoc (F : Fo) (en : List Way) : capsL (F ++ [en]) = capsL F ++ [capOf (capsL F) en] := by simp [capsL, List.foldl_append]
theorem capsL_length (F : Fo) : (capsL F).length = F.length := by
  induction F using snoc_ind with
  | h0 => rfl
  | h1 F en ih => rw [capsL_snoc, List.length_append, List.length_append, ih]; rfl
theorem prodM_pos (A : List Nat) : ∀ cs, 1 ≤ prodM A cs
  | [] => Nat.le_refl _
  | c :: cs => by
    rw [prodM]
    exact Nat.mul_pos (by omega) (prodM_pos A cs)
theorem prodM_append (A : List Nat) : ∀ a b, prodM A (a ++ b) = prodM A a * prodM A b
  | [], b => by simp [prodM]
  | c :: a, b => by rw [List.cons_append, prodM, prodM, prodM_append A a b, Nat.mul_assoc]
theorem prodM_suffix (A : List Nat) (a b : List Nat) : prodM A b ≤ prodM A (a ++ b) := by
  rw [prodM_append]
  exact Nat.le_mul_of_pos_left _ (prodM_pos A a)
theorem prodM_congr {A B : List Nat} : ∀ {cs : List Nat}, (∀ c ∈ cs, A.getD c 0 = B.getD c 0) → prodM A cs = prodM B cs
  | [], _ => rfl
  | c :: cs, h => by rw [prodM, prodM, h c (by simp), prodM_congr fun d hd => h d (List.mem_cons_of_mem _ hd)]
theorem rows_le {L : Nat → List T} {A : List Nat} : ∀ {cs : List Nat}, (∀ c ∈ cs, (L c).length ≤ A.getD c 0) → (rows L cs).length ≤ prodM A cs
  | [], _ => Nat.le_refl _
  | c :: cs, h => by
    rw [rows_length_cons, prodM]
    refine Nat.mul_le_mul ?_ (rows_le fun d hd => h d (List.mem_cons_of_mem _ hd))
    have := h c (by simp)
    omega
theorem all_length (L : Nat → List T) (e : Nat) : ∀ (ws : List Way) (j : Nat), (allFrom L e j ws).length = (ws.map fun w => (rows L w.2).length).sum
  | [], _ => rfl
  | w :: ws, j => by rw [allFrom, List.length_append, all_length L e ws, wayTrees, List.length_map, List.map_cons, List.sum_cons]
theorem sum_le_sum {α : Type} {g g' : α → Nat} : ∀ {l : List α}, (∀ x ∈ l, g x ≤ g' x) → (l.map g).sum ≤ (l.map g').sum
  | [], _ => Nat.le_refl _
  | x :: l, h => by
    rw [List.map_cons, List.map_cons, List.sum_cons, List.sum_cons]
    exact Nat.add_le_add (h x (by simp)) (sum_le_sum fun y hy => h y (List.mem_cons_of_mem _ hy))
theorem le_sum {α : Type} (g : α → Nat) : ∀ {l : List α} {x : α}, x ∈ l → g x ≤ (l.map g).sum
  | y :: l, x, h => by
    rw [List.map_cons, List.sum_cons]
    rcases List.mem_cons.mp h with e | h
    · rw [e]; omega
    · have := le_sum g h; omega
theorem capsL_lt {F : Fo} {G : Fo} {e : Nat} (h : e < F.length) : (capsL (F ++ G)).getD e 0 = (capsL F).getD e 0 := by
  induction G using snoc_ind with
  | h0 => rw [List.append_nil]
  | h1 G en ih =>
    rw [← List.append_assoc, capsL_snoc, List.getD_eq_getElem?_getD, List.getElem?_append_left (by rw [capsL_length]; simp; omega), ← List.getD_eq_getElem?_getD, ih]
theorem capsL_at {F : Fo} {en : List Way} {G : Fo} : (capsL (F ++ en :: G)).getD F.length 0 = capOf (capsL F) en := by
  rw [show F ++ en :: G = (F ++ [en]) ++ G by simp, capsL_lt (by simp), capsL_snoc, List.getD_eq_getElem?_getD, List.getElem?_append_right (by rw [capsL_length]; exact Nat.le_refl _), capsL_length]
  simp
/-- what the drawn forests are like -/
structure OkF (F : Fo) : Prop where
  wf : WF F
  len : F.length ≤ 9
  ways : ∀ en ∈ F, en.length ≤ 5
  kids : ∀ en ∈ F, ∀ w ∈ en, w.2.length ≤ 6
  caps : ∀ x ∈ capsL F, x ≤ 120
theorem cap_way {A : List Nat} {en : List Way} {w : Way} (h : w ∈ en) : prodM A w.2 ≤ capOf A en := le_sum (fun w : Way => prodM A w.2) h
theorem split_at {α : Type} {l : List α} {e : Nat} {x : α} (h : l[e]? = some x) : l = l.take e ++ x :: l.drop (e + 1) ∧ (l.take e).length = e := by
  obtain ⟨hl, ex⟩ := List.getElem?_eq_some_iff.mp h
  refine ⟨?_, by rw [List.length_take]; omega⟩
  rw [← ex, ← List.drop_eq_getElem_cons hl, List.take_append_drop]
theorem caps_at {F : Fo} {e : Nat} {en : List Way} (h : F[e]? = some en) (hc : ∀ w ∈ en, ∀ c ∈ w.2, c < e) : (capsL F).getD e 0 = capOf (capsL F) en := by
  obtain ⟨h1, h2⟩ := split_at h
  have e1 : (capsL F).getD e 0 = capOf (capsL (F.take e)) en := by
    have := capsL_at (F := F.take e) (en := en) (G := F.drop (e + 1))
    rw [h2] at this
    conv => lhs; rw [h1]
    exact this
  rw [e1, capOf, capOf]
  refine sum_map_congr fun w hw => prodM_congr fun c hcc => ?_
  have hlt := hc w hw c hcc
  conv => rhs; rw [h1]
  exact (capsL_lt (by rw [h2]; exact hlt)).symm
theorem lens_le {F : Fo} {L : Nat → List T} (G : Lists F L) : ∀ (e : Nat) (en : List Way), F[e]? = some en → (L e).length ≤ (capsL F).getD e 0 := by
  intro e
  induction e using Nat.strongRecOn with
  | _ e ih =>
    intro en he
    have hp : (L e).length = (allFrom L e 0 en).length := by
      have E := G.ent e en he
      have : E.asc = E.asc := rfl
      have e0 : L e = sortT (allFrom L e 0 en) := E.uniq (sortT_srt _)
      rw [e0]; exact (sortT_perm _).length_eq
    have hlen : ∀ x : Nat, x < e → ∃ en', F[x]? = some en' := fun x hx => by
      have := (List.getElem?_eq_some_iff.mp he).1
      exact ⟨F[x]'(by omega), List.getElem?_eq_getElem _⟩
    rw [hp, all_length, caps_at he (G.chi e en he), capOf]
    refine sum_le_sum fun w hw => rows_le fun c hc => ?_
    have hlt := G.chi e en he w hw c hc
    obtain ⟨en', he'⟩ := hlen c hlt
    exact ih c hlt en' he'
theorem OkF.lists {F : Fo} (h : OkF F) : Lists F (lk (TL F)) := lists_of F h.wf
theorem OkF.cap_le {F : Fo} (h : OkF F) (e : Nat) : (capsL F).getD e 0 ≤ 120 := by
  rw [List.getD_eq_getElem?_getD]
  cases q : (capsL F)[e]? with
  | none => simp
  | some x => exact h.caps x (List.mem_of_getElem? q)
theorem OkF.len_le {F : Fo} (h : OkF F) {e : Nat} {en : List Way} (he : F[e]? = some en) : (lk (TL F) e).length ≤ 120 := Nat.le_trans (lens_le h.lists e en he) (h.cap_le e)
theorem OkF.rows_le {F : Fo} (h : OkF F) {e : Nat} {en : List Way} (he : F[e]? = some en) {w : Way} (hw : w ∈ en) {a cs : List Nat} (hs : a ++ cs = w.2) : (rows (lk (TL F)) cs).length ≤ 120 := by
  have h1 : (rows (lk (TL F)) cs).length ≤ prodM (capsL F) cs := K24.rows_le fun c hc => by
    have hlt := h.wf.chi e en he w hw c (by rw [← hs]; exact List.mem_append.mpr (.inr hc))
    have := (List.getElem?_eq_some_iff.mp he).1
    exact lens_le h.lists c F[c] (List.getElem?_eq_getElem _)
  have h2 := prodM_suffix (capsL F) a cs
  rw [hs] at h2
  have h3 := cap_way (A := capsL F) hw
  have h4 := caps_at he (h.wf.chi e en he)
  have h5 := h.cap_le e
  omega
/-- the sizes of trees -/
def sz : Nat → Nat
  | 0 => 1
  | n + 1 => 1 + 6 * sz n
theorem sz_mono : ∀ {a b : Nat}, a ≤ b → sz a ≤ sz b := by
  intro a b h
  induction b with
  | zero => have : a = 0 := by omega
            subst this; exact Nat.le_refl _
  | succ b ih =>
    rcases Nat.lt_or_ge a (b + 1) with q | q
    · have := ih (by omega)
      rw [sz]; omega
    · have : a = b + 1 := by omega
      subst this; exact Nat.le_refl _
theorem rows_size {L : Nat → List T} {m : Nat} : ∀ {cs : List Nat}, (∀ c ∈ cs, ∀ t ∈ L c, t.2.length ≤ m) → ∀ r ∈ rows L cs, r.2.length ≤ cs.length * m
  | [], _, r, hr => by
    have : r = (0, []) := by simpa [rows] using hr
    subst this; simp
  | c :: cs, h, r, hr => by
    rw [rows] at hr
    obtain ⟨t, ht, hr⟩ := List.mem_flatMap.mp hr
    obtain ⟨r', hr', e⟩ := List.mem_map.mp hr
    subst e
    have h1 := h c (by simp) t ht
    have h2 := rows_size (fun d hd => h d (List.mem_cons_of_mem _ hd)) r' hr'
    rw [List.length_append, List.length_cons, Nat.add_mul]; omega
theorem mem_allFrom {L : Nat → List T} {e : Nat} {t : T} : ∀ {ws : List Way} {j : Nat}, t ∈ allFrom L e j ws → ∃ w ∈ ws, ∃ k, t ∈ wayTrees L e k w
  | [], j, h => by simp [allFrom] at h
  | w :: ws, j, h => by
    rw [allFrom] at h
    rcases List.mem_append.mp h with h | h
    · exact ⟨w, by simp, j, h⟩
    · obtain ⟨v, hv, k, hk⟩ := mem_allFrom h
      exact ⟨v, List.mem_cons_of_mem _ hv, k, hk⟩
theorem OkF.size {F : Fo} (h : OkF F) : ∀ (e : Nat) (en : List Way), F[e]? = some en → ∀ t ∈ lk (TL F) e, t.2.length ≤ sz e ∧ 1 ≤ t.2.length := by
  intro e
  induction e using Nat.strongRecOn with
  | _ e ih =>
    intro en he t ht
    have E := h.lists.ent e en he
    have e0 : lk (TL F) e = sortT (allFrom (lk (TL F)) e 0 en) := E.uniq (sortT_srt _)
    rw [e0] at ht
    have ht := (sortT_perm _).mem_iff.mp ht
    obtain ⟨w, hw, k, hk⟩ := mem_allFrom ht
    obtain ⟨r, hr, e2⟩ := List.mem_map.mp hk
    subst e2
    have hk6 := h.kids en (List.mem_of_getElem? he) w hw
    refine ⟨?_, by simp⟩
    cases e with
    | zero =>
      have : w.2 = [] := by
        cases q : w.2 with
        | nil => rfl
        | cons c cs => have := h.wf.chi 0 en he w hw c (by rw [q]; simp); omega
      rw [this] at hr
      have : r = (0, []) := by simpa [rows] using hr
      subst this; simp [sz]
    | succ e =>
      have hb := rows_size (m := sz e) (fun c hc u hu => by
        have hlt := h.wf.chi (e + 1) en he w hw c hc
        have hle := (List.getElem?_eq_some_iff.mp he).1
        have := (ih c hlt F[c] (List.getElem?_eq_getElem _) u hu).1
        exact Nat.le_trans this (sz_mono (by omega))) r hr
      have : w.2.length * sz e ≤ 6 * sz e := Nat.mul_le_mul_right _ hk6
      show r.2.length + 1 ≤ 1 + 6 * sz e
      omega
theorem OkF.flat_le {F : Fo} (h : OkF F) {e : Nat} {en : List Way} (he : F[e]? = some en) {t : T} (ht : t ∈ lk (TL F) e) : t.2.length ≤ 2015539 := by
  have h1 := (h.size e en he t ht).1
  have h2 : e ≤ 8 := by have := (List.getElem?_eq_some_iff.mp he).1; have := h.len; omega
  exact Nat.le_trans h1 (Nat.le_trans (sz_mono h2) (by decide))
end K24
namespace K24
/-! ### picks -/
def picks : List Nat → List (List Nat)
  | [] => [[]]
  | n :: ns => (List.range n).flatMap fun k => (picks ns).map fun r => k :: r
theorem picks_snoc : ∀ (ns : List Nat) (m : Nat), picks (ns ++ [m]) = (picks ns).flatMap fun r => (List.range m).map fun k => r ++ [k]
  | [], m => by
    simp only [List.nil_append, picks, List.map_cons, List.map_nil, List.flatMap_cons, List.flatMap_nil, List.append_nil]
    exact (List.map_eq_flatMap ..).symm
  | n :: ns, m => by
    rw [List.cons_append, picks, picks, picks_snoc ns m, List.flatMap_assoc]
    congr 1
    funext k
    rw [List.map_flatMap, List.flatMap_map]
    congr 1
    funext r
    rw [List.map_map]
    rfl
theorem picks_len : ∀ {ns : List Nat} {r : List Nat}, r ∈ picks ns → r.length = ns.length
  | [], r, h => by
    have : r = [] := by simpa [picks] using h
    subst this; rfl
  | n :: ns, r, h => by
    rw [picks] at h
    obtain ⟨k, _, h⟩ := List.mem_flatMap.mp h
    obtain ⟨q, hq, e⟩ := List.mem_map.mp h
    subst e
    rw [List.length_cons, List.length_cons, picks_len hq]
theorem picks_lt : ∀ {ns : List Nat} {r : List Nat}, r ∈ picks ns → ∀ {i n k : Nat}, ns[i]? = some n → r[i]? = some k → k < n
  | [], r, _, i, n, k, h1, _ => by simp at h1
  | m :: ns, r, h, i, n, k, h1, h2 => by
    rw [picks] at h
    obtain ⟨j, hj, h⟩ := List.mem_flatMap.mp h
    obtain ⟨q, hq, e⟩ := List.mem_map.mp h
    subst e
    cases i with
    | zero =>
      have e1 : m = n := by simpa using h1
      have e2 : j = k := by simpa using h2
      subst e1 e2
      exact List.mem_range.mp hj
    | succ i => exact picks_lt hq (by simpa using h1) (by simpa using h2)
theorem picks_length : ∀ ns : List Nat, (picks ns).length = ns.foldr (· * ·) 1
  | [] => rfl
  | n :: ns => by
    rw [picks, length_flatMap_sum, sum_const _ (picks ns).length _ (fun x _ => by simp), List.length_range, picks_length ns]; rfl
end K24
namespace K24
theorem capsL_take {F : Fo} {i e : Nat} (h : e < i) (hi : i ≤ F.length) : (capsL (F.take i)).getD e 0 = (capsL F).getD e 0 := by
  conv => rhs; rw [← List.take_append_drop i F]
  exact (capsL_lt (by rw [List.length_take]; omega)).symm
theorem take_snoc {α : Type} {l : List α} {i : Nat} {x : α} (h : l[i]? = some x) : l.take (i + 1) = l.take i ++ [x] := by
  rw [List.take_succ, h]; rfl
theorem prodM_drop {A : List Nat} {cs : List Nat} {m c : Nat} (h : cs[m]? = some c) : prodM A (cs.drop m) = max 1 (A.getD c 0) * prodM A (cs.drop (m + 1)) := by
  obtain ⟨hm, e⟩ := List.getElem?_eq_some_iff.mp h
  rw [List.drop_eq_getElem_cons hm, e, prodM]
theorem sum_take_succ {α : Type} (g : α → Nat) {l : List α} {j : Nat} {x : α} (h : l[j]? = some x) : ((l.take (j + 1)).map g).sum = ((l.take j).map g).sum + g x := by
  rw [take_snoc h]; simp
end K24
namespace K24
theorem TL_take (F : Fo) (i : Nat) : TL (F.take i) = (TL F).take i := by
  have key : ∀ G : Fo, (TL (F.take i ++ G)).take (F.take i).length = TL (F.take i) := by
    intro G
    induction G using snoc_ind with
    | h0 => rw [List.append_nil, ← TL_length, List.take_length]
    | h1 G en ih =>
      rw [← List.append_assoc, TL_snoc, List.take_append_of_le_length (by rw [TL_length]; simp), ih]
  have := key (F.drop i)
  rw [List.take_append_drop] at this
  rw [← this, List.length_take]
  rcases Nat.le_total i F.length with h | h
  · rw [Nat.min_eq_left h]
  · rw [Nat.min_eq_right h, ← TL_length F, List.take_length, List.take_of_length_le (by rw [TL_length]; exact h)]
theorem lk_take {D : List (List T)} {i c : Nat} (h : c < i) : lk (D.take i) c = lk D c := by
  simp [lk, List.getD_eq_getElem?_getD, List.getElem?_take, h]
theorem lk_get {F : Fo} {e : Nat} (h : e < F.length) : (TL F)[e]? = some (lk (TL F) e) := by
  have : e < (TL F).length := by rw [TL_length]; exact h
  simp [lk, List.getD_eq_getElem?_getD, List.getElem?_eq_getElem this]
theorem ent_cnt {F : Fo} (G : Lists F (lk (TL F))) {e : Nat} {en : List Way} (he : F[e]? = some en) (s : Int) : (en.map fun w => cntR (lk (TL F)) w.2 (s - w.1)).sum = (costs (lk (TL F) e)).count s := by
  rw [count_costs, ← cnt, (G.ent e en he).cnt]
end K24
/-! K24Rules: rules of mine over the hand layer: enumerate of a tuple, list(reversed(xs)), list(d.values()), sorted(d.items()), sorted of found rows. -/

/-! ### enumerate of anything that begins, from 0 -/
namespace K24R
open PySem PySem.Spec PyProof.Rows L2

theorem enum1 {v : Value} {o : Obj} {G : Heap → Prop} (B : Begins v o G) :
    Meets (Builtin.«enumerate.__new__» ⟨[.type "enumerate", v], []⟩) (fun _ R s => G s.heap ∧
      R (.ok (.ret (.ref (s.heap.push o).objs.size))) { s with heap := (s.heap.push o).push { cls := .type "enumerate", data := .fields #[.none, .bool false, .ref s.heap.objs.size, rawInt 0, .none, .none] } }) :=
  .of_wp fun prog w A R s h => by
    obtain ⟨hp, g, d, tk, os⟩ := s
    obtain ⟨hG, h⟩ := h
    have hsub := sub_enumerate
    have go : ∀ {A' : Around} {E' : Value → Shared → Prop} {Q' : Value → Shared → Prop}, Q' (.ref hp.objs.size) ⟨hp.push o, g, d, tk, os⟩ → wpAny (model prog w) A' (pyIter v) Q' E' ⟨hp, g, d, tk, os⟩ :=
      fun q => B.iter prog w _ _ ⟨hp, g, d, tk, os⟩ _ hG q
    wp_walk using go
    refine wpAny_stack_any fun st => wpAny_pure ?_
    split
    · rename_i c _ _ _ _ _
      cases (c == Value.type "enumerate") <;> (wp_walk using go; exact ⟨_, rfl, h⟩)
    · wp_walk using go
      exact ⟨_, rfl, h⟩
section
variable {prog : Program} {w : World} {A : Around} {E : Value → Shared → Prop} {s : Shared}
theorem enum1_call {v : Value} {o : Obj} {G : Heap → Prop} {Q : Value → Shared → Prop} (B : Begins v o G) (hG : G s.heap)
    (h : ∀ h' : Heap, IsEnum h' (s.heap.objs.size + 1) s.heap.objs.size 0 .none → h'.get? s.heap.objs.size = some o → (∀ b ob, s.heap.get? b = some ob → h'.get? b = some ob) → Q (.ref (s.heap.objs.size + 1)) { s with heap := h' }) :
    wpAny (model prog w) A (call (.type "enumerate") [v]) Q E s := by
  refine callType_new F.called_enumerate (by decide) (F.typeCall_enumerate_1 _) (F.newCall_enumerate_1 _) (fun obj => F.args_object_init_2 obj _) F.entry_enumerate_new (enum1 B) ⟨hG, ?_⟩
  have hz : (s.heap.push o).objs.size = s.heap.objs.size + 1 := Heap.size_push ..
  have hE : ((s.heap.push o).push { cls := .type "enumerate", data := .fields #[.none, .bool false, .ref s.heap.objs.size, rawInt 0, .none, .none] }).get? (s.heap.push o).objs.size = some { cls := .type "enumerate", data := .fields #[.none, .bool false, .ref s.heap.objs.size, rawInt 0, .none, .none] } := Heap.get?_push_size _ rfl
  rw [hz] at hE
  show _ ∧ _
  rw [hz]
  exact ⟨⟨_, hE, rfl⟩, h _ hE (Heap.get?_push_of_some _ (Heap.get?_push_size _ B.free)) fun b ob q => Heap.get?_push_of_some _ (Heap.get?_push_of_some _ q)⟩
end
/-- enumerate over the tuple at a of n items: each turn a new pair -/
def IteT (K : PySem.W.Frag) (a : Addr) (n : Nat) : It where
  go := fun i H => i < n ∧ ∃ xs : List V, SqT K H a xs ∧ xs.length = n
  yld := fun i H v H' => ∃ t x, v = .ref t ∧ H t = none ∧ H' = upd H t (.tup [.int (i : Nat), x]) ∧ ∀ xs, SqT K H a xs → xs[i]? = some x
  stop := fun i H => n ≤ i ∧ ∃ xs : List V, SqT K H a xs ∧ xs.length = n
theorem turn_enumT {P : Program} {w : World} {K : PySem.W.Frag} {elts : List Expr} {kk : Nat} {tpos : Pos} (a e it : Addr) (n : Nat) :
    Turn P w K (.Tuple elts kk tpos) (IteT K a n) [e, it] e (fun i h => i ≤ n ∧ (∃ old, IsEnum h e it ((i : Nat) : Int) old) ∧ h.IsTupleIter it a i ∧ e ≠ it) where
  mem := by simp
  obj := by
    rintro i h ⟨_, ⟨old, he⟩, ⟨o, ho, hc, hd⟩, _⟩ b hb
    rcases (show b = e ∨ b = it by simpa using hb) with rfl | rfl
    · exact ⟨_, he, fun v q => nomatch q⟩
    · exact ⟨o, ho, fun v q => by rw [hd] at q; cases q⟩
  keep := by
    rintro i h h' ⟨h0, ⟨old, he⟩, hi, hne⟩ k
    exact ⟨h0, ⟨old, k e (by simp) _ he⟩, hi.at fun o q => k it (by simp) o q, hne⟩
  item := by
    intro X hP hw hK hc i pins s σ H E I hf st hg
    subst hP hw hK
    obtain ⟨_, ⟨old, he⟩, hit, hne⟩ := st
    obtain ⟨hin, xs, hq, hxn⟩ := hg
    obtain ⟨its, rv, p, hz⟩ := I.tuple hq
    have hel : e < s.heap.objs.size := Heap.lt_size he
    have hil : it < s.heap.objs.size := let ⟨_, q, _⟩ := hit; Heap.lt_size q
    obtain ⟨oa, hoa, hca, _⟩ := id p
    have hae : e ≠ a := fun z => by
      have he2 := he
      unfold IsEnum at he2
      rw [z, hoa] at he2
      cases he2
      exact absurd (Value.type.inj hca) (by decide)
    have hait : a ≠ it := fun z => by
      obtain ⟨o1, q1, q2, _⟩ := hit
      rw [← z, hoa] at q1
      cases q1
      rw [hca] at q2
      exact absurd (Value.type.inj q2) (by decide)
    have hsz : its.toArray.size = n := by rw [List.size_toArray, ← rv.length, hxn]
    refine wpAny_pyNext_enum_itemD (Draws.tuple (prog := X.prog) (w := X.w) (A := X.A.in1) (I.ok.hd hc) it a hait its.toArray) he ⟨hit, p⟩ (by rw [hsz]; exact hin) hne (by simp [hne, hae]) fun x h' tk hx ho hst hT _ hk => ?_
    refine ⟨_, rfl, wpAny_letOwnedTupleGo_enum (s := { s with heap := h', toks := tk + 1 }) ho fun h'' he' sb => ?_⟩
    have hT2 : h''.get? s.heap.objs.size = some { cls := .type "tuple", data := .seq #[.int i tk, x] } := (sb.2 _ (Nat.ne_of_gt hel)).trans hT
    have hx' : its[i]? = some x := by simpa using hx
    obtain ⟨y, hy⟩ : ∃ y, xs[i]? = some y := ⟨xs[i]'(by omega), List.getElem?_eq_getElem _⟩
    obtain ⟨u, hu, ru⟩ := rv.get hy
    rw [hx'] at hu
    cases hu
    have new : ObjOk X.prog X.w (upd H s.heap.objs.size (.tup [.int (i : Nat), y])) h'' s.heap.objs.size (.tup [.int (i : Nat), y]) :=
      ⟨by show 2 ≤ sizeLine; decide, [.int i tk, x], .cons ⟨_, rfl⟩ (.cons ru .nil), ⟨_, hT2, rfl, _, rfl⟩⟩
    have kk2 : ∀ b ob, b ∉ [e, it] → s.heap.get? b = some ob → h''.get? b = some ob := fun b ob hb q => by
      have hb' : b ≠ e ∧ b ≠ it := by simpa using hb
      exact (sb.2 b hb'.1).trans (hk b ob hb'.1 hb'.2 q)
    have I1 := I.turnedNew (t' := tk + 1) (ch := [e, it]) kk2 hf (Nat.le_refl _) new
    refine ⟨.ref s.heap.objs.size, _, I1, rfl, ⟨_, y, rfl, I.hok.fresh (Nat.le_refl _), rfl, fun ys hys => by rw [I.tuple_inj hys hq]; exact hy⟩, ⟨hin, ⟨x, ?_⟩, hst.1.at fun o q => (sb.2 it (Ne.symm hne)).trans q, hne⟩, fun b hb => ?_⟩
    · have e1 : ((i + 1 : Nat) : Int) = (i : Int) + 1 := by omega
      rw [e1]; exact he'
    · have hb' : b < s.heap.objs.size := by
        rcases (show b = e ∨ b = it by simpa using hb) with rfl | rfl
        · exact hel
        · exact hil
      rw [upd_ne (Nat.ne_of_lt hb')]
      exact (hf b hb).1
  done := by
    intro X hP hw hK hc i pins s σ H E I hf st hg
    subst hP hw hK
    obtain ⟨hle, ⟨old, he⟩, hit, hne⟩ := st
    obtain ⟨hge, xs, hq, hxn⟩ := hg
    obtain ⟨its, rv, p, hz⟩ := I.tuple hq
    obtain ⟨f0, f1, f2, f3, f4, f5⟩ := hf it (by simp)
    obtain ⟨oa, hoa, hca, _⟩ := id p
    have hait : a ≠ it := fun z => by
      obtain ⟨o1, q1, q2, _⟩ := hit
      rw [← z, hoa] at q1
      cases q1
      rw [hca] at q2
      exact absurd (Value.type.inj q2) (by decide)
    have hi : i = its.toArray.size := by rw [List.size_toArray, ← rv.length, hxn]; omega
    refine wpAny_pyNext_enum_endD (Draws.tuple (prog := X.prog) (w := X.w) (A := X.A.in1) (I.ok.hd hc) it a hait its.toArray) he (by rw [← hi]; exact ⟨hit, p⟩) fun h' eb => ?_
    exact ⟨rfl, I.turned (t' := s.toks) (fun b o hb q => eb b o hb q) f0 f1 f3 f4 f5⟩
  self := fun A i s Q E st h => let ⟨_, ⟨_, he⟩, _⟩ := st; wpAny_pyIter_enum he h
def iEnumT (K : PySem.W.Frag) (ta : TA) : TI := fun σ H R => ta σ H fun vs H1 => ∃ a xs, vs = [.ref a] ∧ SqT K H1 a xs ∧ R (IteT K a xs.length) H1
theorem pi_enumT {X : Cx} {e : Expr} {ta : TA} {p pos tpos : Pos} {elts : List Expr} {kk : Nat} (hg : Gl X "enumerate") (hm : X.mg "enumerate" = none) (ha : PA X [e] ta) (hs : starEach [e] X.env = [(false, eval e X.env)] := by rfl) :
    PI X (.Tuple elts kk tpos) (.Call (.Name "enumerate" p) [e] [] pos) (iEnumT X.K ta) := by
  refine ⟨fun pins s σ H R I h => ?_⟩
  refine Call_ (ld_blt I hg hm boot_enumerate (PyProof.Rows.callWith_type1 (thn (ha.run pos pins s σ H _ I h) fun us s1 ⟨vs, H1, I1, r1, q1⟩ => ?_) hs rfl))
  obtain ⟨a, xs, rfl, hq, q⟩ := q1
  rw [Vals.ref1 r1]
  obtain ⟨its, rv, p', hz⟩ := I1.tuple hq
  refine enum1_call (begins_tuple a its.toArray) p' fun h' he hit hk => wpAny_pyIter_enum he ?_
  refine ⟨s1.heap.objs.size + 1, [s1.heap.objs.size + 1, s1.heap.objs.size], _, _, H1, rfl, I1.kept (t' := s1.toks) hk, turn_enumT a (s1.heap.objs.size + 1) s1.heap.objs.size xs.length, ⟨Nat.zero_le _, ⟨.none, he⟩, ⟨_, hit, rfl, rfl⟩, Nat.succ_ne_self _⟩, fun b hb => ?_, q⟩
  have hle : s1.heap.objs.size ≤ b := by
    rcases (show b = s1.heap.objs.size + 1 ∨ b = s1.heap.objs.size by simpa using hb) with z | z <;> rw [z]
    · exact Nat.le_succ _
    · exact Nat.le_refl _
  exact I1.fpOk hle (I1.hok.fresh hle)
theorem walk_enumT {K : PySem.W.Frag} {a : Addr} {xs : List V} : Walk (IteT K a xs.length) xs.length (fun H => SqT K H a xs) (YPair (fun i => some (.int (i : Nat))) (fun i => xs[i]?)) :=
  ⟨fun i _ hi q => ⟨hi, xs, q, rfl⟩, fun _ q => ⟨Nat.le_refl _, xs, q, rfl⟩, fun i H v H' _ q y => by
    obtain ⟨t, x, h1, h2, h3, h4⟩ := y
    exact ⟨t, .int (i : Nat), x, h1, h2, h3, rfl, h4 xs q⟩⟩

/-! ### many new objects at once -/
theorem laidAll {X : Cx} {pins : List (Addr × Obj)} {σ : L2.St} {H H' : Hp} {s : Shared} {h' : Heap} {tk : Nat} (I : Inv X pins σ H s) (hk : ∀ b o, s.heap.get? b = some o → h'.get? b = some o)
    (same : ∀ b o, H b = some o → H' b = some o) (low : ∀ b o, s.heap.get? b = some o → H b = none → H' b = none) (new : ∀ b u, H b = none → H' b = some u → ObjOk X.prog X.w H' h' b u) : Inv X pins σ H' { s with heap := h', toks := tk } := by
  have un : Un (frs X.stack) [] H H' s.heap h' := by
    refine ⟨fun b o q _ _ _ => hk b o q, fun b o q _ _ _ => ⟨o.slots, hk b o q⟩, fun b o q n _ => low b o q n, fun b o q _ => ⟨o, hk b o q⟩, fun b xs q => same b _ q, fun b o u q => same b _ q, fun b ps q => ⟨#[], ?_⟩⟩
    rw [same b _ q]; simp
  refine I.call' (ch := []) rfl un (fun b u q => ?_) I.bare fun b z => by simp at z
  cases hb : H b with
  | none => exact new b u hb q
  | some v =>
    have := same b v hb
    rw [q] at this
    cases this
    exact (I.hok b u hb).stay (fun d v _ y => hk d v y) (fun d y => same d _ y) fun d xs y => same d _ y

/-! ### list(reversed(xs)) -/
section
variable {prog : Program} {w : World} {A : Around} {E : Value → Shared → Prop} {s : Shared}
theorem list_of_rev {it l : Addr} {items : Array Value} {Q : Value → Shared → Prop} (hh : A.handled = none) (hit : s.heap.IsRevIter it l ((items.size : Int) - 1)) (hl : s.heap.IsList l items) (hne : l ≠ it) (hn : items.size ≤ sizeLine)
    (hQ : ∀ (h' : Heap) (tk : Nat) (acc : Array Value) (c : Nat), (∀ b o, b ≠ it → s.heap.get? b = some o → h'.get? b = some o) → h'.get? s.heap.objs.size = some { cls := .type "list", dict := none, data := .seq acc c, slots := #[] } →
      ItemsOf (fun i v => items[items.size - 1 - i]? = some v) acc items.size → Q (.ref s.heap.objs.size) { s with heap := h', toks := tk }) :
    wpAny (model prog w) A (call (.type "list") [.ref it]) Q E s := by
  refine callType_codes (Q₁ := fun obj s1 => obj = .ref s.heap.objs.size ∧ s1 = { s with heap := s.heap.push { cls := .type "list", data := .seq #[] } }) PySem.F.called_list (PySem.F.typeCall_list_1 _) PySem.F.entry_list_init (code_list_new _ ⟨rfl, rfl⟩) fun obj s1 h1 => ?_
  obtain ⟨rfl, rfl⟩ := h1
  obtain ⟨oi, hoi, _⟩ := id hit
  obtain ⟨ol, hol, _⟩ := id hl
  have hSi : s.heap.objs.size ≠ it := Nat.ne_of_gt (Heap.lt_size hoi)
  have hSl : s.heap.objs.size ≠ l := Nat.ne_of_gt (Heap.lt_size hol)
  have hSf : s.heap.objs.size ∉ [it, l] := by simp [hSi, hSl]
  have hS : (s.heap.push { cls := .type "list", data := .seq #[] }).get? s.heap.objs.size = some { cls := .type "list", data := .seq #[] } := Heap.get?_push_size _ rfl
  refine ⟨⟨_, hS, rfl⟩, PySem.F.args_list_init_2 _ _, ?_⟩
  show wpAny _ _ (do let old ← Builtin.List.listItems (.ref s.heap.objs.size); Builtin.List.listUpdate (.ref s.heap.objs.size) (fun _ => #[]); letGo old.toList.reverse; Builtin.List.listExtendWith (.ref s.heap.objs.size) (.ref it) .none) _ _ _
  refine wpAny_bind ?_
  unfold Builtin.List.listItems
  refine wpAny_bind (wpAny_seqItems hS rfl (wpAny_pure ?_))
  refine wpAny_bind ?_
  show wpAny _ _ (updateSeq s.heap.objs.size (fun _ => #[])) _ _ _
  refine wpAny_updateSeq hS rfl ?_
  have hS2 := Heap.get?_update_self (Obj.mapSeq (fun _ => (#[] : Array Value))) hS rfl
  generalize hh2 : (s.heap.push { cls := .type "list", data := .seq #[] }).update s.heap.objs.size (Obj.mapSeq fun _ => (#[] : Array Value)) = h2 at hS2
  have k2 : ∀ b o, s.heap.get? b = some o → h2.get? b = some o := fun b o q => by
    rw [← hh2]
    exact (Heap.get?_update_other _ _ (Nat.ne_of_gt (Heap.lt_size q))).trans (Heap.get?_push_of_some _ q)
  refine wpAny_bind (wpAny_letGo ?_)
  have hit2 : h2.IsRevIter it l ((items.size : Int) - 1) := hit.at fun o e => k2 _ o e
  have hl2 : h2.IsList l items := hl.at fun o e => k2 _ o e
  have hT : ({ s with heap := h2 } : Shared).TypeIs (.ref it) "list_reverseiterator" := Heap.IsRevIter.typeIs (s := { s with heap := h2 }) hit2
  have W := (Walks.listRev (prog := prog) (w := w) (A := A.in1.in1) hh it l hne items).toS
  have hsame : Builtin.List.listSameRef (.ref s.heap.objs.size) (.ref it) = false := by simp [Builtin.List.listSameRef, hSi]
  show wpAny _ _ (Builtin.List.listExtendWith (.ref s.heap.objs.size) (.ref it) .none) _ _ { s with heap := h2 }
  unfold Builtin.List.listExtendWith
  refine wpAny_bind (wpAny_typeOf hT ?_)
  rw [if_neg (by rw [hsame]; decide)]
  refine wpAny_bind (wpAny_pyIter_revIter (s := { s with heap := h2 }) hit2 ?_)
  refine wpAny_bind (wpAny_holding ?_)
  unfold Builtin.List.listLengthHint
  refine wpAny_bind (wpAny_specialOf hT RT.nolen_lri ?_)
  show wpAny _ _ (specialOf (Value.ref it) (Str.ofString "__length_hint__") >>= _) _ _ _
  refine wpAny_bind (wpAny_specialOf hT RT.hint_lri ?_)
  generalize hid : ("list_reverseiterator.__length_hint__" : String) = id0
  wp_delta
  rw [show splitId id0 = some ("list_reverseiterator", "__length_hint__") from by subst hid; decide +kernel]
  subst hid
  refine wpAny_bind (wpAny_isInstance (b := true) hT (by rw [isSubtype_type]; kernel_rfl) ?_)
  refine wpAny_pure ?_
  rw [if_neg (by decide)]
  have e0 : ((items.size : Nat) : Int) - 1 - ((0 : Nat) : Int) = (items.size : Int) - 1 := by omega
  refine wpAny_pure ⟨plainId_quiet F.plain_extend_loop _, codeAny_extend_loopS W hn _ hSf _ items.size 0 _ _ _ rfl (Nat.zero_le _) ⟨Nat.zero_le _, by rw [e0]; exact hit2, hl2⟩ hS2 (ItemsOf.nil _) fun s' acc c hm hS' hacc => ?_⟩
  rw [Moved.eq_with hm]
  refine ⟨rfl, hQ s'.heap s'.toks acc c (fun b o hb e => hm.heap b o (fun hmem => ?_) (k2 _ _ e)) hS' hacc⟩
  rcases List.mem_cons.mp hmem with e' | hmem
  · exact absurd (Heap.lt_size e) (by rw [e']; exact Nat.lt_irrefl _)
  · exact hb (List.mem_singleton.mp hmem)
end
end K24R
namespace K24R
open PySem PySem.Spec PyProof.Rows L2
/-! ### list(reversed(e)) -/
def tListRev (K : PySem.W.Frag) (te : TE) : TE := fun σ H Q => te σ H fun v H1 => ∃ (a : Addr) (xs : List V), v = .ref a ∧ SqL K H1 a xs ∧ ∀ q, H1 q = none → Q (.ref q) (upd H1 q (.lst xs.reverse))
section
variable {X : Cx}
theorem pe_listRev {e : Expr} {te : TE} {p p2 pos pos2 : Pos} (hc : X.calm = true) (hg : Gl X "list") (hm : X.mg "list" = none) (hg2 : Gl X "reversed") (hm2 : X.mg "reversed" = none) (he : PE X e te)
    (hs : starEach [e] X.env = (false, eval e X.env) :: starEach [] X.env := by rfl)
    (hs2 : starEach [.Call (.Name "reversed" p2) [e] [] pos2] X.env = (false, eval (.Call (.Name "reversed" p2) [e] [] pos2) X.env) :: starEach [] X.env := by rfl) :
    PE X (.Call (.Name "list" p) [.Call (.Name "reversed" p2) [e] [] pos2] [] pos) (tListRev X.K te) := by
  refine ⟨fun pins s σ H Q I h => ?_⟩
  refine Call_ (ld_blt I hg hm (by decide +kernel : bootBuiltins "list" = some (.type "list")) (PyProof.Rows.callWith_type1 (args_cons (Call_ (ld_blt I hg2 hm2 PyProof.Rows.boot_reversed (PyProof.Rows.callWith_type1 (args_cons (thn (he.run pins s σ H _ I h) fun u s1 ⟨v, H1, I1, r1, q1⟩ => args_nil ?_) hs) hs rfl))) hs2) hs2 rfl))
  obtain ⟨a, xs, rfl, hq, q⟩ := q1
  obtain rfl : u = Value.ref a := r1
  obtain ⟨its, rv, p', hz⟩ := I1.list hq
  refine call_reversed_list p'.isList (args_nil ?_)
  have hn : its.toArray.size ≤ sizeLine := by rw [List.size_toArray, ← rv.length]; exact hz
  have hl := p'.isList
  obtain ⟨ol, hol, _⟩ := id hl
  have hne : a ≠ s1.heap.objs.size := Nat.ne_of_lt (Heap.lt_size hol)
  have I2 : Inv X pins σ H1 { s1 with heap := s1.heap.push (revObj a ((its.toArray.size : Int) - 1)) } := I1.kept (t' := s1.toks) fun b o q => Heap.get?_push_of_some _ q
  obtain ⟨f0, f1, f2, f3, f4, f5⟩ := I1.fpOk (H' := H1) (b := s1.heap.objs.size) (Nat.le_refl _) (I1.hok.fresh (Nat.le_refl _))
  refine list_of_rev (s := { s1 with heap := s1.heap.push (revObj a ((its.toArray.size : Int) - 1)) }) (I1.ok.hd hc) ⟨_, Heap.get?_push_size _ rfl, rfl, rfl⟩ (hl.push _) hne hn fun h' tk acc c hk hS hi => ?_
  have hz2 : (s1.heap.push (revObj a ((its.toArray.size : Int) - 1))).objs.size = s1.heap.objs.size + 1 := Heap.size_push ..
  -- turn the iterator, then lay the list
  generalize hd : (s1.heap.push (revObj a ((its.toArray.size : Int) - 1))).objs.size = d at hS hz2
  have dH : H1 d = none := I2.hok.fresh (by rw [hd]; exact Nat.le_refl _)
  have I3 : Inv X pins σ H1 { s1 with heap := h', toks := tk } := I2.turned (t' := tk) (fun b o hb e => hk b o hb e) f0 f1 f3 f4 f5
  have old : ∀ b o, s1.heap.get? b = some o → b ≠ d := fun b o q z => by
    have := Heap.lt_size q
    rw [z, hz2] at this
    exact Nat.lt_irrefl _ (Nat.lt_of_succ_lt this)
  refine ⟨.ref d, upd H1 d (.lst xs.reverse), ?_, rfl, q d dH⟩
  have un : Un (frs X.stack) [s1.heap.objs.size] H1 (upd H1 d (.lst xs.reverse)) (s1.heap.push (revObj a ((its.toArray.size : Int) - 1))) h' := by
    have ne : ∀ b o, (s1.heap.push (revObj a ((its.toArray.size : Int) - 1))).get? b = some o → b ≠ d := fun b o q => by
      have := Heap.lt_size q
      rw [hd] at this
      exact Nat.ne_of_lt this
    refine ⟨fun b o q _ _ hx => hk b o (fun z => hx (by simp [z])) q, fun b o q _ _ hx => ⟨o.slots, hk b o (fun z => hx (by simp [z])) q⟩, fun b o q n _ => by rw [upd_ne (ne b o q)]; exact n, fun b o q hx => ⟨o, hk b o (fun z => hx (by simp [z])) q⟩,
      fun b ys q => by rw [upd_ne (ne_of_none q dH)]; exact q, fun b o u q => by rw [upd_ne (ne_of_none q dH)]; exact q, fun b ps q => ⟨#[], by rw [upd_ne (ne_of_none q dH), q]; simp⟩⟩
  refine I2.call' (ch := [s1.heap.objs.size]) rfl un (fun b u qb => ?_) I2.bare fun b hb => ?_
  · by_cases hbd : b = d
    · subst hbd
      rw [upd_same] at qb
      cases qb
      exact ⟨by rw [List.length_reverse]; exact hz, acc.toList, c, RT.vals_rev rv hi, by rw [Array.toArray_toList]; exact hS⟩
    · rw [upd_ne hbd] at qb
      exact (I3.hok b u qb).stay (fun c v _ r => r) (fun c r => by rw [upd_ne (ne_of_none r dH)]; exact r) fun c ys r => by rw [upd_ne (ne_of_none r dH)]; exact r
  · obtain rfl : b = s1.heap.objs.size := by simpa using hb
    exact ⟨f3, f1, f4, f5⟩
/-! ### list(e.values()) -/
def tListVals (te : TE) : TE := fun σ H Q => te σ H fun x H1 => ∃ (d : Addr) (kvs : List (Key × V)), x = .ref d ∧ H1 d = some (.dK kvs) ∧ ∀ q, H1 q = none → Q (.ref q) (upd H1 q (.lst (kvs.map (·.2))))
theorem paired_vals {kvs : List (Key × V)} {vs : List (Key × Value)} (r : KV kvs vs) : Vals (kvs.map (·.2)) (vs.map (·.2)) := by
  induction r with
  | nil => exact .nil
  | cons h _ ih => exact .cons h.2 ih
theorem pe_listVals {e : Expr} {te : TE} {p apos cpos pos : Pos} (hc : X.calm = true) (he : PE X e te) (hg : Gl X "list") (hm : X.mg "list" = none) (hbase : attributeBase e "values" X.env (eval e X.env) = eval e X.env := by rfl) (hline : (apos.endLine == cpos.line) = true := by rfl)
    (hs : starEach [.Call (.Attribute e "values" apos) [] [] cpos] X.env = (false, eval (.Call (.Attribute e "values" apos) [] [] cpos) X.env) :: starEach [] X.env := by rfl) :
    PE X (.Call (.Name "list" p) [.Call (.Attribute e "values" apos) [] [] cpos] [] pos) (tListVals te) := by
  refine ⟨fun pins s σ H Q I hq => ?_⟩
  refine Call_ (ld_blt I hg hm (by decide +kernel : bootBuiltins "list" = some (.type "list")) (PyProof.Rows.callWith_type1 (args_cons ?_ hs) hs rfl))
  refine wpAny_Call_method (T := "dict") (id := "dict.values") hbase rfl hline F.plainAttrs_dict F.slot_dict_values F.type_dict_values (thn (he.run pins s σ H _ I hq) fun u s1 ⟨x, H1, I1, rx, d, kvs, ex, hd, q⟩ => ?_)
  subst ex
  obtain rfl : u = Value.ref d := rx
  obtain ⟨hz, hs0, vs, kv, hdo⟩ := I1.hok d _ hd
  obtain ⟨ep, hat⟩ := hdo.dictAt
  have lk : kvs.length = vs.length := Paired.length kv
  have I2 : Inv X pins σ H1 { s1 with heap := s1.heap.push { cls := .type "dict_values", data := .fields #[.ref d] } } := I1.kept (t' := s1.toks) fun b ob q => Heap.get?_push_of_some _ q
  refine ⟨hdo.typeIs, hdo.mapOf.noDict, ?_⟩
  show wpAny _ _ (callWith cpos (.builtin "dict.values") [.ref d] [] []) _ X.xe s1
  refine method_meetsIn F.slot_dict_values F.entry_dict_values rfl (PySem.evalArgs_none ⟨rfl, hdo.typeIs, F.args_dict_values_1 _, _, meets_dict_values (mixKind X.prog X.w) d hs0, ⟨vs, hdo⟩, ?_⟩)
  refine args_nil ?_
  refine PySem.W.kdl_call (PySem.W.kdl_values (knd := mixKind X.prog X.w) (prog := X.prog) (w := X.w) (r := s1.heap.objs.size) (d := d) (kvs := vs) (ep := ep)) (I1.ok.hd hc) ⟨⟨_, Heap.get?_push_size _ rfl, rfl, rfl⟩, hat.push _⟩ (by omega) fun h' tk acc c hk hS hacc => ?_
  generalize hdd : (s1.heap.push { cls := .type "dict_values", data := .fields #[.ref d] }).objs.size = D at hS
  have dH : H1 D = none := I2.hok.fresh (by rw [hdd]; exact Nat.le_refl _)
  have ev : acc.toList = vs.map (·.2) := PySem.W.kdl_vals_eq acc.toList (by rw [Array.length_toList]; exact hacc.1) fun j v e => hacc.2 j v (by rw [← Array.getElem?_toList]; exact e)
  refine ⟨.ref D, upd H1 D (.lst (kvs.map (·.2))), laidAll (tk := tk) I2 hk (fun b o r => by rw [upd_ne (ne_of_none r dH)]; exact r) (fun b o r n => ?_) (fun b u n r => ?_), rfl, q D dH⟩
  · have := Heap.lt_size r
    rw [hdd] at this
    rw [upd_ne (Nat.ne_of_lt this)]
    exact n
  · by_cases hb : b = D
    · subst hb
      rw [upd_same] at r
      cases r
      exact ⟨by rw [List.length_map]; exact hz, acc.toList, c, by rw [ev]; exact paired_vals kv, by rw [Array.toArray_toList]; exact hS⟩
    · rw [upd_ne hb, n] at r
      cases r
end
end K24R
namespace K24R
open PySem PySem.Spec PyProof.Rows L2
/-! ### sorted(e.items()), ints at ints -/
/-- the pairs tracked -/
def putI : Hp → List Addr → List (Int × Int) → Hp
  | H, a :: as, p :: kv => putI (upd H a (.tup [.int p.1, .int p.2])) as kv
  | H, _, _ => H
theorem putI_off {b : Addr} : ∀ (as : List Addr) (kv : List (Int × Int)) (H : Hp), b ∉ as → putI H as kv b = H b
  | [], _, _, _ => rfl
  | _ :: _, [], _, _ => rfl
  | a :: as, p :: kv, H, h => by
    rw [putI, putI_off as kv _ (fun z => h (List.mem_cons_of_mem _ z)), upd_ne (fun z => h (by rw [z]; exact List.mem_cons_self))]
theorem putI_at : ∀ (as : List Addr) (kv : List (Int × Int)) (H : Hp), as.Nodup → ∀ {j : Nat} {a : Addr} {p : Int × Int}, as[j]? = some a → kv[j]? = some p → putI H as kv a = some (.tup [.int p.1, .int p.2])
  | [], _, _, _, j, a, p, h, _ => by simp at h
  | _ :: _, [], _, _, j, a, p, _, h => by simp at h
  | x :: as, q :: kv, H, hn, 0, a, p, h1, h2 => by
    have e1 : x = a := by simpa using h1
    have e2 : q = p := by simpa using h2
    subst e1 e2
    rw [putI, putI_off as kv _ (List.nodup_cons.mp hn).1, upd_same]
  | x :: as, q :: kv, H, hn, j + 1, a, p, h1, h2 => by
    rw [putI]
    exact putI_at as kv _ (List.nodup_cons.mp hn).2 (by simpa using h1) (by simpa using h2)
def keyAt (as : List Addr) (kv : List (Int × Int)) (a : Addr) : Int × Int := ((as.zip kv).lookup a).getD (0, 0)
theorem keyAt_at : ∀ {as : List Addr} {kv : List (Int × Int)}, as.Nodup → ∀ {j : Nat} {a : Addr} {p : Int × Int}, as[j]? = some a → kv[j]? = some p → keyAt as kv a = p
  | [], _, _, j, a, p, h, _ => by simp at h
  | _ :: _, [], _, j, a, p, _, h => by simp at h
  | x :: as, q :: kv, hn, 0, a, p, h1, h2 => by
    have e1 : x = a := by simpa using h1
    have e2 : q = p := by simpa using h2
    subst e1 e2
    simp [keyAt]
  | x :: as, q :: kv, hn, j + 1, a, p, h1, h2 => by
    have h1 : as[j]? = some a := by simpa using h1
    have hne : (a == x) = false := by
      refine beq_eq_false_iff_ne.mpr fun z => ?_
      exact (List.nodup_cons.mp hn).1 (by rw [← z]; exact List.mem_of_getElem? h1)
    have := keyAt_at (List.nodup_cons.mp hn).2 h1 (by simpa using h2 : kv[j]? = some p)
    rw [← this, keyAt, keyAt, List.zip_cons_cons, List.lookup_cons, hne]
section
variable {prog : Program} {w : World} {A : Around} {E : Value → Shared → Prop} {s : Shared}
/-- sorted(view of a dict's items): the pairs made, then sorted -/
theorem sorted_view {κ : Type} [DecidableEq κ] {knd : KeyKind prog w κ} {r d : Addr} {kvs : List (κ × Value)} {ep : Nat} {Q : Value → Shared → Prop} (hh : A.handled = none) (hv : s.heap.IsItemsView r d) (hrl : s.heap.objs.size = r + 1) (hm : s.heap.DictAt knd d kvs ep) (hn : kvs.length ≤ sizeLine)
    (kv : List (Int × Int)) (hkv : kv.length = kvs.length)
    (hint : ∀ (j : Nat) (k : κ) (x : Value) (key : Value), kvs[j]? = some (k, x) → knd.is k key = true → ∃ p t u, kv[j]? = some p ∧ key = .int p.1 t ∧ x = .int p.2 u)
    (h : ∀ (h' : Heap) (tk : Nat) (as : List Addr) (D : Addr) (out : List Value) (n : Nat), (∀ b o, s.heap.get? b = some o → h'.get? b = some o) → as.length = kv.length → as.Nodup → (∀ a ∈ as, s.heap.objs.size ≤ a) → s.heap.objs.size ≤ D → D ∉ as →
      (∀ (j : Nat) (a : Addr) (p : Int × Int), as[j]? = some a → kv[j]? = some p → ∃ t u, h'.get? a = some { cls := .type "tuple", data := .seq #[.int p.1 t, .int p.2 u] }) →
      h'.get? D = some (seqObj "list" out.toArray n) → out.Perm (as.map Value.ref) → SrtO.Srtd (fun v u => SrtO.lexB (keyAt as kv (match v with | .ref a => a | _ => 0)) (keyAt as kv (match u with | .ref a => a | _ => 0))) out → Q (.ref D) { s with heap := h', toks := tk }) :
    wpAny (model prog w) A (call (.builtin "sorted") [.ref r]) Q E s := by
  refine Calls.call_function_entry kind_sorted plain_sorted entry_sorted (args_sorted1 _) ?_
  unfold Builtin.«sorted»
  refine wpAny_bind (m := checkCount "sorted" 1 1 _) (wpAny_pure ?_)
  refine wpAny_bind (PySem.W.kdx_collect (A := A.in1) (knd := knd) (kvs := kvs) (ep := ep) hh hv hm hn fun h1 tk as hk hl hG => ?_)
  have hla : (as.map Value.ref).length ≤ sizeLine := by rw [List.length_map, hl]; exact hn
  refine wpAny_bind (wpAny_newList ?_ hla)
  have nd : as.Nodup := hG.rise.imp fun h => Nat.ne_of_lt h
  have hpair : ∀ (j : Nat) (a : Addr) (p : Int × Int), as[j]? = some a → kv[j]? = some p → ∃ t u, h1.get? a = some { cls := .type "tuple", data := .seq #[.int p.1 t, .int p.2 u] } := by
    intro j a p ha hp
    obtain ⟨key, k, x, e1, e2, e3⟩ := hG.pairs j a ha
    obtain ⟨p', t, u, e4, rfl, rfl⟩ := hint j k x key e1 e2
    rw [hp] at e4
    cases e4
    exact ⟨t, u, e3⟩
  have hall : ∀ a ∈ as, ∃ (j : Nat) (p : Int × Int), as[j]? = some a ∧ kv[j]? = some p := fun a ha => by
    obtain ⟨j, hj⟩ := List.mem_iff_getElem?.mp ha
    have hjl := (List.getElem?_eq_some_iff.mp hj).1
    exact ⟨j, kv[j]'(by omega), hj, List.getElem?_eq_getElem _⟩
  have hoL : (h1.push (seqObj "list" (as.map Value.ref).toArray 0)).get? h1.objs.size = some (seqObj "list" (as.map Value.ref).toArray 0) := Heap.get?_push_size _ rfl
  have isP : ∀ v ∈ as.map Value.ref, Srt.IsPair (h1.push (seqObj "list" (as.map Value.ref).toArray 0)) v (keyAt as kv (match v with | .ref a => a | _ => 0)).1 (keyAt as kv (match v with | .ref a => a | _ => 0)).2 := by
    intro v hv
    obtain ⟨a, ha, rfl⟩ := List.mem_map.mp hv
    obtain ⟨j, p, e1, e2⟩ := hall a ha
    obtain ⟨t, u, e3⟩ := hpair j a p e1 e2
    rw [keyAt_at nd e1 e2]
    exact ⟨a, _, t, u, 0, rfl, Heap.get?_push_of_some _ e3, rfl, rfl⟩
  show wpAny _ _ _ _ _ { s with heap := h1.push (seqObj "list" (as.map Value.ref).toArray 0), toks := tk }
  refine wpAny_bind (wpAny_holding (wpAny_call_entry slot_list_sort ⟨_, hoL, rfl⟩ entry_list_sort
    (SrtO.list_sort_ord (s := { s with heap := h1.push (seqObj "list" (as.map Value.ref).toArray 0), toks := tk }) (SrtO.swo_lex fun v => keyAt as kv (match v with | .ref a => a | _ => 0)) hoL hla
      (fun h2 => SrtO.pairs_sortableO (s := { s with heap := h1.push (seqObj "list" (as.map Value.ref).toArray 0), toks := tk }) (by omega) isP fun o e => ?_) fun out hs hb => ⟨_, rfl, ?_⟩) (args_list_sort _)))
  · have e' : some o = some (seqObj "list" (as.map Value.ref).toArray 0) := e.symm.trans hoL
    cases e'
    intro c
    exact absurd (Value.type.inj c) (by decide)
  · obtain ⟨n, hD⟩ := PyProof.Rows.sortedHeap_at (out := out.toArray) hoL
    have old : ∀ b o, h1.get? b = some o → (sortedHeap (h1.push (seqObj "list" (as.map Value.ref).toArray 0)) h1.objs.size (as.map Value.ref) out.toArray).get? b = some o := fun b o q => by
      have hlt := Heap.lt_size q
      rw [PyProof.Rows.sortedHeap_old (Nat.ne_of_lt hlt) (by rw [Heap.size_push]; exact Nat.lt_succ_of_lt hlt)]
      exact Heap.get?_push_of_some _ q
    refine wpAny_pure ⟨_, rfl, h _ tk as h1.objs.size out n (fun b o q => old b o (hk b o q)) (by rw [hl, hkv]) nd (fun a ha => Nat.le_of_lt (hG.above a ha)) ?_ (fun z => Nat.lt_irrefl _ (hG.there z)) (fun j a p e1 e2 => ?_) hD hb.perm hs⟩
    · obtain ⟨_, ho, _⟩ := hv
      have hlt := Heap.lt_size (hk _ _ ho)
      rw [hrl]
      exact hlt
    · obtain ⟨t, u, e3⟩ := hpair j a p e1 e2
      exact ⟨t, u, old _ _ e3⟩
end
def tSortedItems (te : TE) : TE := fun σ H Q => te σ H fun x H1 => ∃ (d : Addr) (kv : List (Int × Int)), x = .ref d ∧ H1 d = some (.dK (kv.map fun p => (Sum.inl p.1, V.int p.2))) ∧
  ∀ (H' : Hp) (D : Addr) (ts : List Addr) (S : List (Int × Int)), (∀ b o, H1 b = some o → H' b = some o) → H1 D = none → (∀ t ∈ ts, H1 t = none) → H' D = some (.lst (ts.map V.ref)) →
    Paired (fun (t : Addr) (p : Int × Int) => H' t = some (.tup [.int p.1, .int p.2])) ts S → S.Perm kv → S.Pairwise (fun p q => SrtO.lexB q p = false) → Q (.ref D) H'
theorem paired_map {α β : Type} {F : α → β → Prop} {f : α → β} : ∀ {l : List α}, (∀ x ∈ l, F x (f x)) → Paired F l (l.map f)
  | [], _ => .nil
  | x :: l, h => .cons (h x (by simp)) (paired_map fun y hy => h y (List.mem_cons_of_mem _ hy))
def adr : Value → Addr
  | .ref a => a
  | _ => 0
theorem keys_zip : ∀ (as : List Addr) (kv : List (Int × Int)), as.length = kv.length → as.Nodup → as.map (keyAt as kv) = kv := by
  intro as kv hl hn
  refine List.ext_getElem? fun j => ?_
  rw [List.getElem?_map]
  cases e : as[j]? with
  | none =>
    have := List.getElem?_eq_none_iff.mp e
    exact (List.getElem?_eq_none (by omega)).symm
  | some a =>
    have hj := (List.getElem?_eq_some_iff.mp e).1
    have e2 : kv[j]? = some (kv[j]'(by omega)) := List.getElem?_eq_getElem _
    rw [e2, Option.map_some, keyAt_at hn e e2]
section
variable {X : Cx}
theorem pe_sortedItems {e : Expr} {te : TE} {p apos cpos pos : Pos} (hc : X.calm = true) (he : PE X e te) (hg : Gl X "sorted") (hm : X.mg "sorted" = none) (hbase : attributeBase e "items" X.env (eval e X.env) = eval e X.env := by rfl) (hline : (apos.endLine == cpos.line) = true := by rfl)
    (hs : starEach [.Call (.Attribute e "items" apos) [] [] cpos] X.env = (false, eval (.Call (.Attribute e "items" apos) [] [] cpos) X.env) :: starEach [] X.env := by rfl) :
    PE X (.Call (.Name "sorted" p) [.Call (.Attribute e "items" apos) [] [] cpos] [] pos) (tSortedItems te) := by
  refine ⟨fun pins s σ H Q I hq => ?_⟩
  refine Call_ (ld_blt I hg hm (by decide +kernel : bootBuiltins "sorted" = some (.builtin "sorted")) (PyProof.Rows.callWith_builtin1 (args_cons ?_ hs) hs rfl))
  refine wpAny_Call_method (T := "dict") (id := "dict.items") hbase rfl hline F.plainAttrs_dict F.slot_dict_items F.type_dict_items (thn (he.run pins s σ H _ I hq) fun u s1 ⟨x, H1, I1, rx, d, kv, ex, hd, q⟩ => ?_)
  subst ex
  obtain rfl : u = Value.ref d := rx
  obtain ⟨hz, hs0, vs, kvv, hdo⟩ := I1.hok d _ hd
  obtain ⟨ep, hat⟩ := hdo.dictAt
  have lk : kv.length = vs.length := by
    have := Paired.length kvv
    rwa [List.length_map] at this
  have I2 : Inv X pins σ H1 { s1 with heap := s1.heap.push { cls := .type "dict_items", data := .fields #[.ref d] } } := I1.kept (t' := s1.toks) fun b ob q => Heap.get?_push_of_some _ q
  refine ⟨hdo.typeIs, hdo.mapOf.noDict, ?_⟩
  show wpAny _ _ (callWith cpos (.builtin "dict.items") [.ref d] [] []) _ X.xe s1
  refine method_meetsIn F.slot_dict_items F.entry_dict_items rfl (PySem.evalArgs_none ⟨rfl, hdo.typeIs, F.args_dict_items_1 _, _, meets_dict_items (mixKind X.prog X.w) d hs0, ⟨vs, hdo⟩, ?_⟩)
  refine args_nil ?_
  refine sorted_view (knd := mixKind X.prog X.w) (kvs := vs) (ep := ep) (I1.ok.hd hc) ⟨_, Heap.get?_push_size _ rfl, rfl, rfl⟩ (Heap.size_push ..) (hat.push _) (by rw [← lk]; rw [List.length_map] at hz; exact hz) kv lk ?_ ?_
  · intro j k x key hj hkey
    have hjl := (List.getElem?_eq_some_iff.mp hj).1
    have e1 : (kv.map fun p => ((Sum.inl p.1 : Key), V.int p.2))[j]? = some (Sum.inl (kv[j]'(by omega)).1, V.int (kv[j]'(by omega)).2) := by
      rw [List.getElem?_map, List.getElem?_eq_getElem (by omega)]; rfl
    obtain ⟨y, f1, f2, f3⟩ := LiI.paired_get kvv e1
    rw [hj] at f1
    cases f1
    obtain ⟨t, ht⟩ : ∃ t, key = .int (kv[j]'(by omega)).1 t := by
      have z : keyIs k key = true := hkey
      have f2 : (Sum.inl (kv[j]'(by omega)).1 : Key) = k := f2
      rw [← f2] at z
      exact Value.isInt_shape z
    obtain ⟨u, hu⟩ := f3
    exact ⟨_, t, u, List.getElem?_eq_getElem _, ht, hu⟩
  · intro h' tk as D out n hk hl hn hlow hDl hDn hp hD hperm hsrt
    have newA : ∀ a ∈ as, H1 a = none := fun a ha => I2.hok.fresh (hlow a ha)
    have newD : H1 D = none := I2.hok.fresh hDl
    have refs : ∀ v ∈ out, ∃ a ∈ as, v = Value.ref a := fun v hv => by
      obtain ⟨a, ha, e⟩ := List.mem_map.mp (hperm.mem_iff.mp hv)
      exact ⟨a, ha, e.symm⟩
    have eout : out = (out.map adr).map Value.ref := by
      rw [List.map_map]
      conv => lhs; rw [← List.map_id out]
      refine List.map_congr_left fun v hv => ?_
      obtain ⟨a, _, rfl⟩ := refs v hv
      rfl
    have pa : (out.map adr).Perm as := by
      have := hperm.map adr
      rwa [List.map_map, show adr ∘ Value.ref = id from rfl, List.map_id] at this
    have off : ∀ b o, s1.heap.get? b = some o → b ∉ as ∧ b ≠ D := fun b o r => by
      have hlt : b < (s1.heap.push { cls := .type "dict_items", data := .fields #[.ref d] }).objs.size := by rw [Heap.size_push]; exact Nat.lt_succ_of_lt (Heap.lt_size r)
      exact ⟨fun z => Nat.lt_irrefl _ (Nat.lt_of_lt_of_le hlt (hlow b z)), fun z => Nat.lt_irrefl _ (Nat.lt_of_lt_of_le hlt (by rw [z]; exact hDl))⟩
    have offv : ∀ b o, (s1.heap.push { cls := .type "dict_items", data := .fields #[.ref d] }).get? b = some o → b ∉ as ∧ b ≠ D := fun b o r => by
      have hlt := Heap.lt_size r
      exact ⟨fun z => Nat.lt_irrefl _ (Nat.lt_of_lt_of_le hlt (hlow b z)), fun z => Nat.lt_irrefl _ (Nat.lt_of_lt_of_le hlt (by rw [z]; exact hDl))⟩
    have at1 : ∀ b, b ∉ as → b ≠ D → upd (putI H1 as kv) D (.lst ((out.map adr).map V.ref)) b = H1 b := fun b h1 h2 => by rw [upd_ne h2, putI_off as kv _ h1]
    have same : ∀ b o, H1 b = some o → upd (putI H1 as kv) D (.lst ((out.map adr).map V.ref)) b = some o := fun b o r => by
      rw [at1 b (fun z => by rw [newA b z] at r; cases r) (fun z => by rw [z, newD] at r; cases r)]
      exact r
    have tupA : ∀ {j : Nat} {a : Addr} {p : Int × Int}, as[j]? = some a → kv[j]? = some p → upd (putI H1 as kv) D (.lst ((out.map adr).map V.ref)) a = some (.tup [.int p.1, .int p.2]) := fun {j a p} e1 e2 => by
      rw [upd_ne (fun z => hDn (by rw [← z]; exact List.mem_of_getElem? e1))]
      exact putI_at as kv _ hn e1 e2
    have keyOf : ∀ a ∈ as, upd (putI H1 as kv) D (.lst ((out.map adr).map V.ref)) a = some (.tup [.int (keyAt as kv a).1, .int (keyAt as kv a).2]) := fun a ha => by
      obtain ⟨j, hj⟩ := List.mem_iff_getElem?.mp ha
      have hjl := (List.getElem?_eq_some_iff.mp hj).1
      have e2 : kv[j]? = some (kv[j]'(by omega)) := List.getElem?_eq_getElem _
      rw [keyAt_at hn hj e2]
      exact tupA hj e2
    have J : Inv X pins σ (upd (putI H1 as kv) D (.lst ((out.map adr).map V.ref))) { s1 with heap := h', toks := tk } := by
      refine laidAll (s := { s1 with heap := s1.heap.push { cls := .type "dict_items", data := .fields #[.ref d] } }) (tk := tk) I2 hk same (fun b o r nn => by rw [at1 b (offv b o r).1 (offv b o r).2]; exact nn) fun b u nn r => ?_
      by_cases hbD : b = D
      · rw [hbD, upd_same] at r
        cases r
        refine ⟨?_, out, n, ?_, by rw [hbD]; exact hD⟩
        · rw [List.length_map, List.length_map, hperm.length_eq, List.length_map, hl]
          rw [List.length_map] at hz
          exact hz
        · conv => rhs; rw [eout]
          exact LiI.vals_refs _
      · by_cases hba : b ∈ as
        · obtain ⟨j, hj⟩ := List.mem_iff_getElem?.mp hba
          have hjl := (List.getElem?_eq_some_iff.mp hj).1
          have e2 : kv[j]? = some (kv[j]'(by omega)) := List.getElem?_eq_getElem _
          rw [tupA hj e2] at r
          cases r
          obtain ⟨t, u, e3⟩ := hp j b _ hj e2
          exact ⟨by show 2 ≤ sizeLine; decide, _, .cons ⟨t, rfl⟩ (.cons ⟨u, rfl⟩ .nil), _, e3, rfl, 0, rfl⟩
        · rw [at1 b hba hbD, nn] at r
          cases r
    refine ⟨.ref D, _, J, rfl, q _ D (out.map adr) ((out.map adr).map (keyAt as kv)) same newD (fun t ht => newA t (pa.mem_iff.mp ht)) upd_same (paired_map fun a ha => keyOf a (pa.mem_iff.mp ha)) ?_ ?_⟩
    · have := pa.map (keyAt as kv)
      rwa [keys_zip as kv hl hn] at this
    · rw [List.map_map]
      exact List.pairwise_map.mpr (hsrt.imp fun h => h)
end
end K24R
namespace K24R
open PySem PySem.Spec PyProof.Rows L2
/-! ### sorted of found rows: (cost, way, picks, flat), no two with the same cost, way and picks -/
structure IsQuad (h : Heap) (v : Value) (c j : Int) (pt : Addr) (ps : List Int) (fl : Addr) : Prop where
  ex : ∃ a o t u n, v = .ref a ∧ h.get? a = some o ∧ o.cls = .type "tuple" ∧ o.data = .seq #[.int c t, .int j u, .ref pt, .ref fl] n
  picks : ∃ its, IsTup h pt its ∧ IntsAre its.toList ps
theorem IsQuad.keeps {h h' : Heap} {v : Value} {c j : Int} {pt fl : Addr} {ps : List Int} (q : IsQuad h v c j pt ps fl) (k : ∀ b o, h.get? b = some o → o.cls = .type "tuple" → h'.get? b = some o) : IsQuad h' v c j pt ps fl := by
  obtain ⟨⟨a, o, t, u, n, e, ho, hc, hd⟩, its, ⟨o2, ho2, hc2, r⟩, hi⟩ := q
  exact ⟨⟨a, o, t, u, n, e, k _ _ ho hc, hc, hd⟩, its, ⟨o2, k _ _ ho2 hc2, hc2, r⟩, hi⟩
/-- two tuples of ints, item by item -/
def eqItem (ps qs : List Int) (i : Nat) : Bool := ps.getD i 0 == qs.getD i 0
theorem eqItems_iff : ∀ (ps qs : List Int), ((List.range (min ps.length qs.length)).all (eqItem ps qs) && ps.length == qs.length) = decide (ps = qs) := by
  intro ps qs
  by_cases h : ps = qs
  · subst h
    simp [eqItem]
  · rw [decide_eq_false h]
    refine Bool.eq_false_iff.mpr fun z => h ?_
    rw [Bool.and_eq_true, List.all_eq_true] at z
    obtain ⟨z1, z2⟩ := z
    have z2 : ps.length = qs.length := by simpa using z2
    refine List.ext_getElem z2 fun i h1 h2 => ?_
    have := z1 i (List.mem_range.mpr (by omega))
    simpa [eqItem, List.getD_eq_getElem?_getD, List.getElem?_eq_getElem h1, List.getElem?_eq_getElem h2] using this
section
variable {prog : Program} {w : World} {A : Around} {E : Value → Shared → Prop} {s : Shared}
theorem eq_picks {pt qt : Addr} {its iut : Array Value} {ps qs : List Int} (h1 : IsTup s.heap pt its) (h2 : IsTup s.heap qt iut) (i1 : IntsAre its.toList ps) (i2 : IntsAre iut.toList qs) (hu : A.units < cLine) : SeqAt.EqAt A s (.ref pt) (.ref qt) (decide (ps = qs)) := by
  by_cases hne : pt = qt
  · subst hne
    obtain ⟨o, ho, _, n, hd⟩ := h1
    obtain ⟨o', ho', _, n', hd'⟩ := h2
    rw [ho] at ho'
    cases ho'
    rw [hd] at hd'
    injection hd' with e _
    subst e
    have : ps = qs := by rw [← i1.numsOf, ← i2.numsOf]
    rw [decide_eq_true this]
    exact SeqAt.EqAt.same _
  · have l1 := i1.length
    have l2 := i2.length
    rw [Array.length_toList] at l1 l2
    have key := SeqAt.RcAt.tuples (A := A) (s := s) (e := eqItem ps qs) h1 h2 hu fun j q1 q2 => by
      obtain ⟨t, ht⟩ := i1.int_at j its[j] (by simp [q1])
      obtain ⟨u, hu⟩ := i2.int_at j iut[j] (by simp [q2])
      rw [ht, hu]
      exact SeqAt.EqAt.int_int _ t _ u
    rw [l1, l2, eqItems_iff] at key
    exact SeqAt.EqAt.of_refs hne key
theorem quad_cmp {vs : List Value} {k : Value → List Int} (hu : A.units + 8 < cLine) (hp : ∀ v ∈ vs, ∃ c j pt ps fl, IsQuad s.heap v c j pt ps fl ∧ k v = c :: j :: ps) (inj : ∀ v ∈ vs, ∀ u ∈ vs, k v = k u → v = u) :
    SrtO.Cmp prog w A s (tuples' true) (fun p => p.1 ∈ vs) (SrtO.lt2 fun v u => HT.lexLt (k v) (k u)) := by
  intro p q hm hm'
  have h1 := hp _ hm
  have h2 := hp _ hm'
  have hinj := inj _ hm _ hm'
  show wpAny (model prog w) A (keyLt' (tuples' true) p.1 q.1) (fun r s' => s' = s ∧ r = HT.lexLt (k p.1) (k q.1)) (fun _ _ => False) s
  generalize p.1 = v at h1 hinj ⊢
  generalize q.1 = u at h2 hinj ⊢
  obtain ⟨c, j, pt, ps, fl, ⟨⟨a, o, t1, t2, n, e, ho, hc, hd⟩, its, htup, hi⟩, hk⟩ := h1
  obtain ⟨c', j', pt', ps', fl', ⟨⟨a', o', t1', t2', n', e', ho', hc', hd'⟩, its', htup', hi'⟩, hk'⟩ := h2
  rw [hk, hk'] at hinj ⊢
  subst e e'
  refine PySem.W.kat_lt ho hd ho' hd' ?_
  show PySem.W.KatLex prog w A true (decide (4 < 4)) _ [(.int c t1, .int c' t1'), (.int j t2, .int j' t2'), (.ref pt, .ref pt'), (.ref fl, .ref fl')] 0 s
  refine PySem.W.kat_cons (SeqAt.EqAt.int_int c t1 c' t1' prog w _ _ ?_)
  refine PySem.W.kat_go (fun e1 => ?_) (fun e1 => ?_)
  · have ec : c = c' := by simpa using e1
    subst ec
    refine PySem.W.kat_yes (PySem.W.kat_cons (SeqAt.EqAt.int_int j t2 j' t2' prog w _ _ ?_))
    refine PySem.W.kat_go (fun e2 => ?_) (fun e2 => ?_)
    · have ej : j = j' := by simpa using e2
      subst ej
      refine PySem.W.kat_yes (PySem.W.kat_cons (eq_picks (A := A) htup htup' hi hi' (by omega) prog w _ _ ?_))
      refine PySem.W.kat_go (fun e3 => ?_) (fun e3 => ?_)
      · have ep : ps = ps' := by simpa using e3
        subst ep
        have ea : a = a' := by
          have := hinj rfl
          injection this
        subst ea
        rw [ho] at ho'
        cases ho'
        rw [hd] at hd'
        injection hd' with ed _
        have ef : fl = fl' := by
          have := congrArg (fun (z : Array Value) => z[3]?) ed
          simpa using this
        subst ef
        refine PySem.W.kat_yes (PySem.W.kat_cons (SeqAt.EqAt.same _ prog w _ _ ?_))
        refine PySem.W.kat_yes (PySem.W.kat_nil ⟨rfl, ?_⟩)
        have := (NtL.swo_lexL (fun z : List Int => z)).refl (c :: j :: ps)
        exact this.symm
      · refine PySem.W.kat_no (PySem.W.kat_one _ _ (HT.lt_tupInts htup htup' hi hi' (by omega) ?_))
        refine (show s = s ∧ HT.lexLt ps ps' = HT.lexLt (c :: j :: ps) (c :: j :: ps') from ⟨rfl, ?_⟩)
        rw [HT.lexLt_cons, if_pos rfl, HT.lexLt_cons, if_pos rfl]
    · have ej : ¬ j = j' := by simpa using e2
      refine PySem.W.kat_no (PySem.W.kat_one _ _ (PyProof.Rows.lt_int ?_))
      refine (show s = s ∧ decide (j < j') = HT.lexLt (c :: j :: ps) (c :: j' :: ps') from ⟨rfl, ?_⟩)
      rw [HT.lexLt_cons, if_pos rfl, HT.lexLt_cons, if_neg ej]
  · have ec : ¬ c = c' := by simpa using e1
    refine PySem.W.kat_no (oneLt_int ⟨rfl, ?_⟩)
    rw [HT.lexLt_cons, if_neg ec]
theorem quad_firsts {h : Heap} : ∀ {vs : List Value}, (∀ v ∈ vs, ∃ c j pt ps fl, IsQuad h v c j pt ps fl) → ∃ fs : List Value, PySem.W.KatTups h vs fs ∧ fs.length = vs.length ∧ ∀ f ∈ fs, ∃ x t, f = Value.int x t
  | [], _ => ⟨[], PySem.W.KatTups.nil, rfl, fun f hf => by simp at hf⟩
  | v :: vs, hp => by
    obtain ⟨fs, h1, h2, h3⟩ := quad_firsts (vs := vs) fun u hu => hp u (List.mem_cons_of_mem _ hu)
    obtain ⟨c, j, pt, ps, fl, ⟨a, o, t, u, n, e, ho, hc, hd⟩, _⟩ := hp v List.mem_cons_self
    subst e
    refine ⟨.int c t :: fs, PySem.W.KatTups.cons ho hc hd rfl h1, by simp [h2], fun f hf => ?_⟩
    rcases List.mem_cons.mp hf with rfl | hf
    · exact ⟨c, t, rfl⟩
    · exact h3 f hf
theorem quads_sortable {a : Addr} {vs : List Value} {k : Value → List Int} (hu : A.units + 8 < cLine) (h0 : 0 < vs.length) (hp : ∀ v ∈ vs, ∃ c j pt ps fl, IsQuad s.heap v c j pt ps fl ∧ k v = c :: j :: ps) (inj : ∀ v ∈ vs, ∀ u ∈ vs, k v = k u → v = u)
    (ha : ∀ o, s.heap.get? a = some o → o.cls ≠ .type "tuple") : SrtO.SortableO prog w A s a vs fun v u => HT.lexLt (k v) (k u) := by
  intro h' keep
  have hp' : ∀ v ∈ vs, ∃ c j pt ps fl, IsQuad h' v c j pt ps fl ∧ k v = c :: j :: ps := fun v hm => by
    obtain ⟨c, j, pt, ps, fl, q, e⟩ := hp v hm
    exact ⟨c, j, pt, ps, fl, q.keeps fun b o e c => keep b o (fun z => by subst z; exact ha o e c) e, e⟩
  obtain ⟨fs, h1, h2, h3⟩ := quad_firsts fun v hm => let ⟨c, j, pt, ps, fl, q, _⟩ := hp' v hm; ⟨c, j, pt, ps, fl, q⟩
  refine ⟨tuples' true, fun Q E hq => ?_, quad_cmp (s := { s with heap := h' }) hu hp' inj⟩
  refine PySem.W.kat_kind (T := .type "int") h1 (by omega) (fun f hm => ?_) (by rfl) ?_
  · obtain ⟨x, t, rfl⟩ := h3 f hm
    exact PySem.W.Looks.now
  · have e : (Value.type "int" != Value.type "tuple") = true := by decide +kernel
    rw [e]
    exact hq
end
def rSortedQ (K : PySem.W.Frag) : List V → Hp → VK → Prop := fun vs H Q => ∃ (a : Addr) (xs : List V) (k : V → List Int), vs = [V.ref a] ∧ SqL K H a xs ∧
  (∀ x ∈ xs, ∃ (t : Addr) (c j : Int) (pt : Addr) (ps : List Int) (fl : Addr), x = V.ref t ∧ H t = some (.tup [.int c, .int j, .ref pt, .ref fl]) ∧ H pt = some (.tup (ps.map V.int)) ∧ k x = c :: j :: ps) ∧
  (∀ x ∈ xs, ∀ y ∈ xs, k x = k y → x = y) ∧
  ∀ ys p, SrtO.Srtd (fun x y => HT.lexLt (k x) (k y)) ys → ys.Perm xs → H p = none → Q (.ref p) (upd H p (.lst ys))
theorem cr_sortedQ {X : Cx} (hu : X.A.units + 64 < cLine) : CallR X (.builtin "sorted") (rSortedQ X.K) := by
  intro pins s σ H vs us Q I r h
  obtain ⟨a, xs, k, rfl, hs, hx, inj, q⟩ := h
  obtain ⟨its, rv, hl, hz⟩ := I.list hs
  rw [Vals.ref1 r]
  obtain ⟨e1, e2⟩ := refs_back rv fun x m => let ⟨t, _, _, _, _, _, e, _⟩ := hx x m; ⟨t, e⟩
  have hp : ∀ v ∈ its, ∃ c j pt ps fl, IsQuad s.heap v c j pt ps fl ∧ k (backV v) = c :: j :: ps := fun v hv => by
    obtain ⟨b, rfl⟩ := e2 v hv
    have hm : V.ref b ∈ xs := by rw [e1]; exact List.mem_map.mpr ⟨_, hv, rfl⟩
    obtain ⟨t, c, j, pt, ps, fl, e, h1, h2, h3⟩ := hx _ hm
    cases e
    obtain ⟨_, i1, r1, o, ho, hc, n, hd⟩ := I.hok _ _ h1
    obtain ⟨_, i2, r2, p2⟩ := I.hok _ _ h2
    cases r1 with
    | cons ra r1 => cases r1 with
      | cons rb r1 => cases r1 with
        | cons rc r1 => cases r1 with
          | cons rd r1 =>
            cases r1
            obtain ⟨t1, rfl⟩ := ra
            obtain ⟨t2, rfl⟩ := rb
            cases rc
            cases rd
            exact ⟨c, j, pt, ps, fl, ⟨⟨b, o, t1, t2, n, rfl, ho, hc, hd⟩, _, p2, r2.ints⟩, h3⟩
  have inj' : ∀ v ∈ its, ∀ u ∈ its, k (backV v) = k (backV u) → v = u := fun v hv u hu e => by
    obtain ⟨b, rfl⟩ := e2 v hv
    obtain ⟨d, rfl⟩ := e2 u hu
    have := inj (V.ref b) (by rw [e1]; exact List.mem_map.mpr ⟨_, hv, rfl⟩) (V.ref d) (by rw [e1]; exact List.mem_map.mpr ⟨_, hu, rfl⟩) e
    cases this
    rfl
  have hu2 : X.A.in1.in1.units + 8 < cLine := by simp only [Around.in1_units]; omega
  refine SrtO.sorted_ord (NtL.swo_lexL fun v => k (backV v)) hl.isList (by rw [← rv.length]; exact hz) (fun h2 h1 b hb kk => ?_) fun out hs hb => ?_
  · refine quads_sortable (s := { s with heap := h1 }) (k := fun v => k (backV v)) hu2 (by omega) (fun v hm => ?_) inj' fun o e => ?_
    · obtain ⟨c, j, pt, ps, fl, z, e⟩ := hp v hm
      exact ⟨c, j, pt, ps, fl, z.keeps fun b o e _ => (kk b o e).2, e⟩
    · have e' : some o = some (seqObj "list" its.toArray.toList.toArray 0) := e.symm.trans (by simpa using hb)
      cases e'
      intro c
      exact absurd (Value.type.inj c) (by decide)
  · have h3 : ∀ u ∈ out, ∃ a, u = Value.ref a := fun u hu => e2 u (by simpa using hb.perm.mem_iff.mp hu)
    obtain ⟨ep, he'⟩ := PyProof.Rows.sortedAll_at s.heap its out.toArray
    have hperm : (out.map backV).Perm xs := by rw [e1]; exact hb.perm.map backV
    refine ⟨.ref _, upd H (s.heap.objs.size + 1) (.lst (out.map backV)), I.laid (t' := s.toks) (fun _ _ => PyProof.Rows.sortedAll_old) (Nat.le_succ _) ⟨by rw [hperm.length_eq]; exact hz, out, ep, vals_back h3, he'⟩, rfl, q _ _ (SrtO.srtd_map hs) hperm (I.hok.fresh (Nat.le_succ _))⟩
end K24R
namespace K24
open PySem L2 K24R
/-! ### the text by places -/
def top (i : Nat) : Stmt := PySem.Challenge.pw_readingsall_k24_whole_trees_have_numbers.main.body.getD i (.Pass ⟨0, 0, 0, 0⟩)
abbrev sCheck : Stmt := top 5
abbrev sComb : Stmt := top 6
abbrev sInit : Stmt := inClass (top 7) 0
abbrev sRests : Stmt := inClass (top 7) 1
abbrev sCounts : Stmt := inClass (top 7) 2
abbrev sTotal : Stmt := inClass (top 7) 3
abbrev sCountBy : Stmt := inClass (top 7) 4
abbrev sTree : Stmt := inClass (top 7) 5
abbrev sSplit : Stmt := inClass (top 7) 6
abbrev sNumber : Stmt := inClass (top 7) 7
abbrev sPlaced : Stmt := inClass (top 7) 8
abbrev sTape : Stmt := top 9
abbrev sTake : Stmt := top 10
abbrev sCost : Stmt := top 11
abbrev sSizes : Stmt := top 12
abbrev sCaps : Stmt := top 13
abbrev sEntries : Stmt := top 14
abbrev sPassed : Stmt := top 15
abbrev sPicks : Stmt := top 16
abbrev sTrees : Stmt := top 17
abbrev sIsInt : Stmt := top 18
abbrev sSame : Stmt := top 19
abbrev sHolds : Stmt := top 20
abbrev sLaw : Stmt := top 21

/-! ### data in the heap -/
theorem Paired.imp {α β : Type} {F G : α → β → Prop} (h : ∀ x y, F x y → G x y) : ∀ {l : List α} {m : List β}, Paired F l m → Paired G l m
  | _, _, .nil => .nil
  | _, _, .cons r t => .cons (h _ _ r) (Paired.imp h t)
theorem Paired.snoc {α β : Type} {F : α → β → Prop} : ∀ {l : List α} {m : List β}, Paired F l m → ∀ {x : α} {y : β}, F x y → Paired F (l ++ [x]) (m ++ [y])
  | _, _, .nil, x, y, h => .cons h .nil
  | _, _, .cons r t, x, y, h => .cons r (Paired.snoc t h)
theorem Paired.app {α β : Type} {F : α → β → Prop} : ∀ {l : List α} {m : List β}, Paired F l m → ∀ {l' : List α} {m' : List β}, Paired F l' m' → Paired F (l ++ l') (m ++ m')
  | _, _, .nil, _, _, h => h
  | _, _, .cons r t, _, _, h => .cons r (Paired.app t h)
theorem Paired.get {α β : Type} {F : α → β → Prop} : ∀ {l : List α} {m : List β}, Paired F l m → ∀ {i : Nat} {y : β}, m[i]? = some y → ∃ x, l[i]? = some x ∧ F x y
  | _, _, .nil, i, y, h => by simp at h
  | _, _, .cons r t, 0, y, h => by
    have e : _ = y := Option.some.inj (by simpa using h)
    subst e
    exact ⟨_, rfl, r⟩
  | _, _, .cons r t, i + 1, y, h => Paired.get t (by simpa using h)
theorem Paired.getl {α β : Type} {F : α → β → Prop} : ∀ {l : List α} {m : List β}, Paired F l m → ∀ {i : Nat} {x : α}, l[i]? = some x → ∃ y, m[i]? = some y ∧ F x y
  | _, _, .nil, i, y, h => by simp at h
  | _, _, .cons r t, 0, y, h => by
    have e : _ = y := Option.some.inj (by simpa using h)
    subst e
    exact ⟨_, rfl, r⟩
  | _, _, .cons r t, i + 1, y, h => Paired.getl t (by simpa using h)
theorem Paired.rev {α β : Type} {F : α → β → Prop} : ∀ {l : List α} {m : List β}, Paired F l m → Paired F l.reverse m.reverse
  | _, _, .nil => .nil
  | _, _, .cons r t => by rw [List.reverse_cons, List.reverse_cons]; exact Paired.snoc (Paired.rev t) r
theorem Paired.drp {α β : Type} {F : α → β → Prop} : ∀ {l : List α} {m : List β}, Paired F l m → ∀ n : Nat, Paired F (l.drop n) (m.drop n)
  | _, _, h, 0 => h
  | _, _, .nil, n + 1 => .nil
  | _, _, .cons _ t, n + 1 => Paired.drp t n
theorem Paired.dropLast {α β : Type} {F : α → β → Prop} : ∀ {l : List α} {m : List β}, Paired F l m → Paired F l.dropLast m.dropLast
  | _, _, .nil => .nil
  | _, _, .cons r .nil => .nil
  | _, _, .cons r (.cons r' t) => .cons r (Paired.dropLast (.cons r' t))
/-- what stands in H -/
def Dom (H : Hp) : Addr → Prop := fun b => H b ≠ none
def No : Addr → Prop := fun _ => False
/-- all is kept but what lies in X; tuples are always kept -/
def Ret (X : Addr → Prop) (H H' : Hp) : Prop := ∀ b o, H b = some o → (¬ X b ∨ ∃ xs, o = .tup xs) → H' b = some o
theorem Ret.of {X : Addr → Prop} {H H' : Hp} (e : Same H H') : Ret X H H' := fun b o h _ => e b o h
theorem Ret.tup {X : Addr → Prop} {H H' : Hp} (r : Ret X H H') {b : Addr} {xs : List V} (h : H b = some (.tup xs)) : H' b = some (.tup xs) := r _ _ h (.inr ⟨xs, rfl⟩)
theorem Ret.upd {X : Addr → Prop} {H : Hp} {D : Addr} {o u : HO} (hx : X D) (hD : H D = some u) (hu : ∀ xs, u ≠ .tup xs) : Ret X H (upd H D o) := fun b v h c => by
  have hb : b ≠ D := fun z => by
    subst z
    rcases c with c | ⟨xs, rfl⟩
    · exact c hx
    · rw [hD] at h
      exact hu xs (Option.some.inj h)
  rw [upd_ne hb]
  exact h
theorem Ret.trans {X : Addr → Prop} {H H1 H2 : Hp} (a : Ret X H H1) (b : Ret X H1 H2) : Ret X H H2 := fun c o h k => b c o (a c o h k) k
theorem dom_none {H : Hp} {b : Addr} (h : ¬ Dom H b) : H b = none := Classical.byContradiction fun z => h z
theorem none_dom {H : Hp} {b : Addr} (h : H b = none) : ¬ Dom H b := fun z => z h
theorem dom_some {H : Hp} {b : Addr} {o : HO} (h : H b = some o) : Dom H b := fun z => by rw [h] at z; cases z
theorem Same.dom {H H' : Hp} (e : Same H H') {b : Addr} (h : Dom H b) : Dom H' b := by
  cases q : H b with
  | none => exact absurd q h
  | some o => exact dom_some (e b o q)
theorem same_upd {H : Hp} {p : Addr} {o : HO} (h : H p = none) : Same H (L2.upd H p o) := fun b u e => by rw [upd_ne (ne_of_none e h)]; exact e
/-- a predicate of data: it leans on what lies outside X, and on tuples -/
structure Mono {α : Type} (F : (Addr → Prop) → Hp → Addr → α → Prop) : Prop where
  ret : ∀ {X H H' a x}, Ret X H H' → F X H a x → F X H' a x
  anti : ∀ {X X' H a x}, (∀ b, X' b → X b) → F X H a x → F X' H a x
theorem Mono.same {α : Type} {F : (Addr → Prop) → Hp → Addr → α → Prop} (M : Mono F) {X : Addr → Prop} {H H' : Hp} {a : Addr} {x : α} (e : Same H H') (h : F X H a x) : F X H' a x := M.ret (Ret.of e) h
theorem Mono.no {α : Type} {F : (Addr → Prop) → Hp → Addr → α → Prop} (M : Mono F) {X : Addr → Prop} {H : Hp} {a : Addr} {x : α} (h : F X H a x) : F No H a x := M.anti (fun _ z => z.elim) h
/-- a list whose items stand at addresses, each as F says -/
def LstAt {α : Type} (F : (Addr → Prop) → Hp → Addr → α → Prop) (X : Addr → Prop) (H : Hp) (a : Addr) (l : List α) : Prop := ¬ X a ∧ ∃ as : List Addr, H a = some (.lst (as.map V.ref)) ∧ Paired (F X H) as l
theorem LstAt.mono {α : Type} {F : (Addr → Prop) → Hp → Addr → α → Prop} (M : Mono F) : Mono (LstAt F) where
  ret := fun r ⟨n, as, h1, h2⟩ => ⟨n, as, r _ _ h1 (.inl n), Paired.imp (fun _ _ z => M.ret r z) h2⟩
  anti := fun k ⟨n, as, h1, h2⟩ => ⟨fun z => n (k _ z), as, h1, Paired.imp (fun _ _ z => M.anti k z) h2⟩
/-- the item at a place -/
theorem LstAt.ix {α : Type} {F : (Addr → Prop) → Hp → Addr → α → Prop} {X : Addr → Prop} {H : Hp} {a : Addr} {l : List α} (h : LstAt F X H a l) {i : Nat} {y : α} (hi : l[i]? = some y) : ∃ (xs : List V) (b : Addr), H a = some (.lst xs) ∧ xs[i]? = some (.ref b) ∧ xs.length = l.length ∧ F X H b y := by
  obtain ⟨_, as, h1, h2⟩ := h
  obtain ⟨b, e, f⟩ := Paired.get h2 hi
  exact ⟨_, b, h1, by rw [List.getElem?_map, e]; rfl, by rw [List.length_map]; exact Paired.length h2, f⟩
theorem LstAt.len {α : Type} {F : (Addr → Prop) → Hp → Addr → α → Prop} {X : Addr → Prop} {H : Hp} {a : Addr} {l : List α} (h : LstAt F X H a l) : ∃ xs : List V, H a = some (.lst xs) ∧ xs.length = l.length := by
  obtain ⟨_, as, h1, h2⟩ := h
  exact ⟨_, h1, by rw [List.length_map]; exact Paired.length h2⟩
/-- a list at D that is being built, behind the heap H0 in which it was not -/
structure Bld {α : Type} (F : (Addr → Prop) → Hp → Addr → α → Prop) (H0 : Hp) (D : Addr) (l : List α) (H' : Hp) : Prop where
  same : Same H0 H'
  lst : ∃ ds : List Addr, H' D = some (.lst (ds.map V.ref)) ∧ Paired (F (fun b => Dom H0 b ∨ b = D) H') ds l
section
variable {α : Type} {F : (Addr → Prop) → Hp → Addr → α → Prop} {H0 H1 H2 : Hp} {D d : Addr} {l : List α} {x : α}
theorem Bld.start (h : H0 D = none) : Bld F H0 D [] (upd H0 D (.lst [])) := ⟨same_upd h, [], upd_same, .nil⟩
theorem Bld.grow (M : Mono F) (b : Bld F H0 D l H1) (e : Same H1 H2) : Bld F H0 D l H2 := by
  obtain ⟨ds, h1, h2⟩ := b.lst
  exact ⟨b.same.trans e, ds, e _ _ h1, Paired.imp (fun _ _ z => M.same e z) h2⟩
theorem Bld.at (b : Bld F H0 D l H1) : ∃ acc : List V, H1 D = some (.lst acc) ∧ acc.length = l.length := by
  obtain ⟨ds, h1, h2⟩ := b.lst
  exact ⟨_, h1, by rw [List.length_map]; exact Paired.length h2⟩
theorem Bld.domD (b : Bld F H0 D l H1) : Dom H1 D := let ⟨_, h1, _⟩ := b.lst; dom_some h1
theorem Bld.domX (b : Bld F H0 D l H1) : ∀ c, (Dom H0 c ∨ c = D) → Dom H1 c := fun c h => by
  rcases h with h | rfl
  · exact Same.dom b.same h
  · exact b.domD
/-- an item that does not lean on what stood is appended -/
theorem Bld.push (M : Mono F) (hD : H0 D = none) (b : Bld F H0 D l H1) (h : F (fun c => Dom H0 c ∨ c = D) H1 d x) {acc : List V} (hacc : H1 D = some (.lst acc)) : Bld F H0 D (l ++ [x]) (upd H1 D (.lst (acc ++ [.ref d]))) := by
  obtain ⟨ds, h1, h2⟩ := b.lst
  rw [h1] at hacc
  have ea : acc = ds.map V.ref := by
    have := Option.some.inj hacc
    injection this with this
    exact this.symm
  subst ea
  have r : Ret (fun c => Dom H0 c ∨ c = D) H1 (upd H1 D (.lst (ds.map V.ref ++ [.ref d]))) := Ret.upd (.inr rfl) h1 (fun xs z => by cases z)
  refine ⟨fun c o e => ?_, ds ++ [d], by rw [upd_same, List.map_append]; rfl, Paired.snoc (Paired.imp (fun _ _ z => M.ret r z) h2) (M.ret r h)⟩
  rw [upd_ne (ne_of_none e hD)]
  exact b.same c o e
theorem Bld.done (M : Mono F) (hD : H0 D = none) (b : Bld F H0 D l H1) : LstAt F (Dom H0) H1 D l := by
  obtain ⟨ds, h1, h2⟩ := b.lst
  exact ⟨none_dom hD, ds, h1, Paired.imp (fun _ _ z => M.anti (fun _ y => .inl y) z) h2⟩
end
def PairAt (X : Addr → Prop) (H : Hp) (a : Addr) (p : Nat × Nat) : Prop := H a = some (.tup [.int (p.1 : Nat), .int (p.2 : Nat)])
theorem pairM : Mono PairAt := ⟨fun r h => r.tup h, fun _ h => h⟩
abbrev FlatAt := LstAt PairAt
theorem flatM : Mono FlatAt := LstAt.mono pairM
def nints (l : List Nat) : List V := l.map fun (n : Nat) => V.int ((n : Nat) : Int)
def WayAt (X : Addr → Prop) (H : Hp) (a : Addr) (w : Way) : Prop := ∃ b, H a = some (.tup [.int w.1, .ref b]) ∧ H b = some (.tup (nints w.2))
theorem wayM : Mono WayAt := ⟨fun r ⟨b, h1, h2⟩ => ⟨b, r.tup h1, r.tup h2⟩, fun _ h => h⟩
abbrev EntAt := LstAt WayAt
theorem entM : Mono EntAt := LstAt.mono wayM
abbrev ForAt := LstAt EntAt
theorem forM : Mono ForAt := LstAt.mono entM
def TreeAt (X : Addr → Prop) (H : Hp) (a : Addr) (t : T) : Prop := ∃ b, H a = some (.tup [.int t.1, .ref b]) ∧ FlatAt X H b t.2
theorem treeM : Mono TreeAt := ⟨fun r ⟨b, h1, h2⟩ => ⟨b, r.tup h1, flatM.ret r h2⟩, fun k ⟨b, h1, h2⟩ => ⟨b, h1, flatM.anti k h2⟩⟩
abbrev TreesAt := LstAt (LstAt TreeAt)
theorem treesM : Mono TreesAt := LstAt.mono (LstAt.mono treeM)
def CoordAt (X : Addr → Prop) (H : Hp) (a : Addr) (x : Coord) : Prop := H a = some (.tup [.int (x.1 : Nat), .int x.2.1, .int (x.2.2 : Nat)])
theorem coordM : Mono CoordAt := ⟨fun r h => r.tup h, fun _ h => h⟩
def TwoAt (X : Addr → Prop) (H : Hp) (a : Addr) (p : Int × Nat) : Prop := H a = some (.tup [.int p.1, .int (p.2 : Nat)])
theorem twoM : Mono TwoAt := ⟨fun r h => r.tup h, fun _ h => h⟩
def PickAt (X : Addr → Prop) (H : Hp) (a : Addr) (ps : List Nat) : Prop := H a = some (.tup (nints ps))
theorem pickM : Mono PickAt := ⟨fun r h => r.tup h, fun _ h => h⟩

/-! ### tables in the heap -/
def dk (kv : Kv) : List (Key × V) := kv.map fun p => (Sum.inl p.1, V.int (p.2 : Nat))
theorem dk_length (kv : Kv) : (dk kv).length = kv.length := List.length_map ..
theorem valV_dk {kv : Kv} (hn : (kv.map (·.1)).Nodup) (s : Int) : valV (dk kv) (Sum.inl s : Key) = if s ∈ kv.map (·.1) then some (V.int (sumAt kv s : Nat)) else none := by
  induction kv with
  | nil => rfl
  | cons p kv ih =>
    rw [List.map_cons, List.nodup_cons] at hn
    show valV ((Sum.inl p.1, V.int (p.2 : Nat)) :: dk kv) (Sum.inl s : Key) = _
    by_cases h : p.1 = s
    · subst h
      rw [valV_pos rfl, if_pos (by simp), sumAt_cons, if_pos rfl, sumAt_notin hn.1]
      rfl
    · rw [valV_neg (fun z => h (Sum.inl.inj z)), ih hn.2, sumAt_cons, if_neg h, Nat.zero_add]
      by_cases h2 : s ∈ kv.map (·.1)
      · rw [if_pos h2, if_pos (by rw [List.map_cons]; exact List.mem_cons_of_mem _ h2)]
      · rw [if_neg h2, if_neg (by
          rw [List.map_cons, List.mem_cons, not_or]
          exact ⟨fun z => h z.symm, h2⟩)]
theorem valV_dk_getD {kv : Kv} (hn : (kv.map (·.1)).Nodup) (s : Int) : (valV (dk kv) (Sum.inl s : Key)).getD (.int 0) = V.int (sumAt kv s : Nat) := by
  rw [valV_dk hn]
  by_cases h : s ∈ kv.map (·.1)
  · rw [if_pos h]; rfl
  · rw [if_neg h, sumAt_notin h]; rfl
theorem valV_dk_mem {kv : Kv} (hn : (kv.map (·.1)).Nodup) {s : Int} (h : s ∈ kv.map (·.1)) : valV (dk kv) (Sum.inl s : Key) = some (V.int (sumAt kv s : Nat)) := by rw [valV_dk hn, if_pos h]
theorem dk_put (kv : Kv) (s : Int) (n : Nat) : putK (dk kv) (Sum.inl s : Key) (V.int (n : Nat)) = dk (put kv s n) := by
  have e1 : ((dk kv).any fun q => decide (q.1 = (Sum.inl s : Key))) = (kv.any fun p => decide (p.1 = s)) := by
    unfold dk
    rw [List.any_map]
    congr 1
    funext p
    simp [Function.comp]
  unfold putK put
  rw [e1]
  split
  · unfold dk
    rw [List.map_map, List.map_map]
    refine List.map_congr_left fun p _ => ?_
    simp only [Function.comp]
    by_cases h : p.1 = s
    · simp [h]
    · simp [h]
  · simp [dk]
/-- a table of the counts of l -/
def CntAt (X : Addr → Prop) (H : Hp) (d : Addr) (l : List Int) : Prop := ¬ X d ∧ ∃ kv, H d = some (.dK (dk kv)) ∧ IsCnt kv l
theorem cntM : Mono CntAt := ⟨fun r ⟨n, kv, h1, h2⟩ => ⟨n, kv, r _ _ h1 (.inl n), h2⟩, fun k ⟨n, kv, h1, h2⟩ => ⟨fun z => n (k _ z), kv, h1, h2⟩⟩
def tails : List Nat → List (List Nat)
  | [] => [[]]
  | c :: cs => (c :: cs) :: tails cs
theorem tails_length : ∀ cs : List Nat, (tails cs).length = cs.length + 1
  | [] => rfl
  | c :: cs => by rw [tails, List.length_cons, tails_length cs]; rfl
theorem tails_get : ∀ (cs : List Nat) (k : Nat), k ≤ cs.length → (tails cs)[k]? = some (cs.drop k)
  | [], 0, _ => rfl
  | [], k + 1, h => by simp at h
  | c :: cs, 0, _ => rfl
  | c :: cs, k + 1, h => by
    rw [tails, List.getElem?_cons_succ, List.drop_succ_cons]
    exact tails_get cs k (by simpa using h)
/-- the table of the rows of the children t -/
def RowAt (L : Nat → List T) (X : Addr → Prop) (H : Hp) (d : Addr) (t : List Nat) : Prop := CntAt X H d (costs (rows L t))
theorem rowM (L : Nat → List T) : Mono (RowAt L) := ⟨fun r h => cntM.ret r h, fun k h => cntM.anti k h⟩
def RestAt (L : Nat → List T) (X : Addr → Prop) (H : Hp) (a : Addr) (cs : List Nat) : Prop := LstAt (RowAt L) X H a (tails cs)
theorem restM (L : Nat → List T) : Mono (RestAt L) := ⟨fun r h => (LstAt.mono (rowM L)).ret r h, fun k h => (LstAt.mono (rowM L)).anti k h⟩
theorem RestAt.get {L : Nat → List T} {X : Addr → Prop} {H : Hp} {a : Addr} {cs : List Nat} (h : RestAt L X H a cs) {k : Nat} (hk : k ≤ cs.length) : ∃ (xs : List V) (d : Addr), H a = some (.lst xs) ∧ xs[k]? = some (.ref d) ∧ CntAt X H d (costs (rows L (cs.drop k))) := by
  obtain ⟨xs, b, h1, h2, _, h3⟩ := LstAt.ix h (tails_get cs k hk)
  exact ⟨xs, b, h1, h2, h3⟩
def WRestAt (L : Nat → List T) (X : Addr → Prop) (H : Hp) (a : Addr) (w : Way) : Prop := RestAt L X H a w.2
theorem wrestM (L : Nat → List T) : Mono (WRestAt L) := ⟨fun r h => (restM L).ret r h, fun k h => (restM L).anti k h⟩
abbrev RestsAt (L : Nat → List T) := LstAt (WRestAt L)
theorem restsM (L : Nat → List T) : Mono (RestsAt L) := LstAt.mono (wrestM L)
/-- the table of an entry -/
def TabAt (X : Addr → Prop) (H : Hp) (d : Addr) (l : List T) : Prop := CntAt X H d (costs l)
theorem tabM : Mono TabAt := ⟨fun r h => cntM.ret r h, fun k h => cntM.anti k h⟩

/-! ### the forest -/
theorem fec : ¬ (("_entries" : Str) = "_counts") := by decide +kernel
theorem fer : ¬ (("_entries" : Str) = "_rests") := by decide +kernel
theorem fcr : ¬ (("_counts" : Str) = "_rests") := by decide +kernel
def fF (ae ac ar : Addr) : List (Str × V) := putF "_rests" (.ref ar) (putF "_counts" (.ref ac) (putF "_entries" (.ref ae) []))
theorem fF_eq (ae ac ar : Addr) : fF ae ac ar = ([("_entries", V.ref ae), ("_counts", V.ref ac), ("_rests", V.ref ar)] : List (Str × V)) := by
  have h1 : putF ("_entries" : Str) (V.ref ae) [] = ([("_entries", V.ref ae)] : List (Str × V)) := rfl
  have h2 : putF ("_counts" : Str) (V.ref ac) ([("_entries", V.ref ae)] : List (Str × V)) = ([("_entries", V.ref ae), ("_counts", V.ref ac)] : List (Str × V)) := by
    show (if ("_entries" : Str) = "_counts" then _ else (("_entries" : Str), V.ref ae) :: putF "_counts" (V.ref ac) []) = _
    rw [if_neg fec]; rfl
  have h3 : putF ("_rests" : Str) (V.ref ar) ([("_entries", V.ref ae), ("_counts", V.ref ac)] : List (Str × V)) = ([("_entries", V.ref ae), ("_counts", V.ref ac), ("_rests", V.ref ar)] : List (Str × V)) := by
    show (if ("_entries" : Str) = "_rests" then _ else (("_entries" : Str), V.ref ae) :: (if ("_counts" : Str) = "_rests" then _ else (("_counts" : Str), V.ref ac) :: putF "_rests" (V.ref ar) [])) = _
    rw [if_neg fer, if_neg fcr]; rfl
  rw [fF, h1, h2, h3]
theorem fF_entries (ae ac ar : Addr) : (fF ae ac ar).lookup ("_entries" : Str) = some (.ref ae) := by
  unfold fF
  rw [lookup_putF, if_neg fer, lookup_putF, if_neg fec, lookup_putF, if_pos rfl]
theorem fF_counts (ae ac ar : Addr) : (fF ae ac ar).lookup ("_counts" : Str) = some (.ref ac) := by
  unfold fF
  rw [lookup_putF, if_neg fcr, lookup_putF, if_pos rfl]
theorem fF_rests (ae ac ar : Addr) : (fF ae ac ar).lookup ("_rests" : Str) = some (.ref ar) := by
  unfold fF
  rw [lookup_putF, if_pos rfl]
theorem fF_no (ae ac ar : Addr) {m : Str} (h1 : ¬ m = "_rests") (h2 : ¬ m = "_counts") (h3 : ¬ m = "_entries") : (fF ae ac ar).lookup m = none := by
  unfold fF
  rw [lookup_putF, if_neg h1, lookup_putF, if_neg h2, lookup_putF, if_neg h3]
  rfl
/-- the forest F stands at p -/
def ForestAt (C : Addr) (X : Addr → Prop) (H : Hp) (p : Addr) (F : Fo) : Prop := ¬ X p ∧ ∃ dx ae ac ar, H p = some (.ins C dx (fF ae ac ar)) ∧ ForAt X H ae F ∧ LstAt TabAt X H ac (TL F) ∧ LstAt (RestsAt (lk (TL F))) X H ar F
theorem forestM (C : Addr) : Mono (ForestAt C) := ⟨fun r ⟨n, dx, ae, ac, ar, h1, h2, h3, h4⟩ => ⟨n, dx, ae, ac, ar, r _ _ h1 (.inl n), forM.ret r h2, (LstAt.mono tabM).ret r h3, (LstAt.mono (restsM _)).ret r h4⟩,
  fun k ⟨n, dx, ae, ac, ar, h1, h2, h3, h4⟩ => ⟨fun z => n (k _ z), dx, ae, ac, ar, h1, forM.anti k h2, (LstAt.mono tabM).anti k h3, (LstAt.mono (restsM _)).anti k h4⟩⟩
/-- a tape of the draws -/
def TapeAt (H : Hp) (t : Addr) : Prop := ∃ (c : Int) (b : Bool) (n d : Int), H t = some (.lst [.int c, .bl b, .int n, .int d])
/-- all but the tape is as it was -/
def Keep (t : Addr) (H H' : Hp) : Prop := ∀ b o, H b = some o → b ≠ t → H' b = some o
theorem Keep.refl (t : Addr) (H : Hp) : Keep t H H := fun _ _ h _ => h
theorem Keep.trans {t : Addr} {H H1 H2 : Hp} (a : Keep t H H1) (b : Keep t H1 H2) : Keep t H H2 := fun c o h n => b c o (a c o h n) n
theorem Same.keep {t : Addr} {H H1 : Hp} (a : Same H H1) : Keep t H H1 := fun c o h _ => a c o h
theorem keep_upd {H : Hp} {t : Addr} {o : HO} : Keep t H (upd H t o) := fun b u e n => by rw [upd_ne n]; exact e
end K24
namespace K24
open PySem L2 K24R
/-! ### what the walk asks of the top -/
structure Txt (K : PySem.W.Frag) (mg : Str → Option Value) (C : Addr) : Prop where
  cl : Cls K C
  nE : NoAttr K C "_entries"
  nC : NoAttr K C "_counts"
  nR : NoAttr K C "_rests"
  mgC : mg "Forest" = some (.ref C)
  len : mg "len" = none
  range : mg "range" = none
  sorted : mg "sorted" = none
  list : mg "list" = none
  tuple : mg "tuple" = none
  reversed : mg "reversed" = none
  enumerate : mg "enumerate" = none
  zip : mg "zip" = none
  sum : mg "sum" = none
  max : mg "max" = none
  abs : mg "abs" = none
  int : mg "int" = none
  isinst : mg "isinstance" = none
  bool : mg "bool" = none
section
variable {P : Program} {w : World} {K : PySem.W.Frag} {mg : Str → Option Value} {base : Heap} {C : Addr}
/-! ### the draws -/
def spTake : Sp := fun vs H Q _ => ∃ (t : Addr) (m : Int), vs = [.ref t, .int m] ∧ TapeAt H t ∧ 0 < m ∧ m < 1073741824 ∧ ∀ (r : Int) (H' : Hp), 0 ≤ r → r < m → Keep t H H' → TapeAt H' t → Q (.int r) H'
theorem scTake : FnScope ["_law_tape_here", "_law_many", "_law_got", "_law_mixed"] ["_law_tape_here", "_law_many"] (defScope sTake) := ⟨rfl, rfl, rfl, by decide +kernel, rfl, by decide +kernel, by decide +kernel⟩
theorem ok_take {f : Addr} {fd : FuncData} (F : Fun K "_law_take" "_law_take" sTake f fd) (T : Txt K mg C) : FnOk P w K mg base CX0 1 f fd ["_law_tape_here", "_law_many"] spTake := by
  refine F.ok scTake (fun vs H Q E h => ?_) (fun cdv A outer s H vs Q E hr h => ?_)
  · obtain ⟨t, m, rfl, _⟩ := h
    rfl
  · obtain ⟨t, m, rfl, ⟨c, b, n, d, hT⟩, m0, m1, k⟩ := h
    refine ⟨_, pss_cons (ps_if (PW.pt (pw_and (pt_val (pe_ix ix_list (pv 0) pe_int (fun _ _ => rfl))) (pw_and1 (pt_cmpR op_gt (pe_ix ix_list (pv 0) pe_int (fun _ _ => rfl)) pe_int (nomark _)))))
        (pss_cons (ps_set (i := 2) scTake.nd rfl (Or.inl rfl) (pe_op op_mod (pe_callTy call_int1 (by rfl) T.int (by decide +kernel) (pa_cons (pe_ix ix_list (pv 0) pe_int (fun _ _ => rfl)) pa_nil)) (pv 1)))
        (pss_cons (ps_asg (pe_op op_fdivN (pe_ix ix_list (pv 0) pe_int (fun _ _ => rfl)) (pv 1)) (pg_sub (pv 0) pe_int set_list))
        (pss_one (ps_ret (pv 2))))) pss_nil)
      (pss_cons (ps_asg (pe_op op_add (pe_ix ix_list (pv 0) pe_int (fun _ _ => rfl)) pe_int) (pg_sub (pv 0) pe_int set_list))
      (pss_cons (ps_set (i := 3) scTake.nd rfl (Or.inl rfl) (pe_op op_mod (pe_callTy call_int1 (by rfl) T.int (by decide +kernel) (pa_cons (pe_op op_add (pe_op op_add (pe_op op_mul (pe_ix ix_list (pv 0) pe_int (fun _ _ => rfl)) pe_int) (pe_op op_mul (pe_ix ix_list (pv 0) pe_int (fun _ _ => rfl)) pe_int)) pe_int) pa_nil)) pe_int))
      (pss_cons (ps_set (i := 3) scTake.nd rfl (Or.inl rfl) (pe_op op_mod (pe_callTy call_int1 (by rfl) T.int (by decide +kernel) (pa_cons (pe_op op_add (pe_op op_add (pe_op op_mul (pv 3) pe_int) (pe_op op_mul (pe_op op_fdiv (pv 3) pe_int) pe_int)) (pe_ix ix_list (pv 0) pe_int (fun _ _ => rfl))) pa_nil)) pe_int))
      (pss_one (ps_ret (pe_op op_mod (pe_callTy call_int1 (by rfl) T.int (by decide +kernel) (pa_cons (pe_op op_fdiv (pv 3) pe_int) pa_nil)) (pv 1))))))), ?_⟩
    refine ⟨_, rfl, t, _, _, .bl b, rfl, rfl, SqL.of hT, rfl, b, rfl, ?_⟩
    have hmod : ∀ x : Int, 0 ≤ x % m ∧ x % m < m := fun x => ⟨Int.emod_nonneg x (by omega), Int.emod_lt_of_pos x m0⟩
    cases b
    case' false => refine iteF (iteF ?_)
    case' true =>
      refine iteT ⟨_, rfl, t, _, _, .int c, rfl, rfl, SqL.of hT, rfl, _, _, rfl, rfl, _, rfl, ?_⟩
      refine ite2 (fun hc => ?take) (fun hc => ?_)
    case take =>
      refine ⟨_, rfl, t, _, _, .int c, rfl, rfl, SqL.of hT, rfl, .inl ⟨_, rfl, _, rfl, _, _, rfl, rfl, m0, ?_⟩⟩
      refine ⟨_, rfl, t, _, _, .int c, rfl, rfl, SqL.of hT, rfl, _, rfl, _, _, rfl, rfl, ⟨by omega, by omega⟩, ?_⟩
      refine ⟨_, rfl, t, _, _, 0, rfl, rfl, hT, rfl, ?_⟩
      refine ⟨_, rfl, ?_⟩
      exact k _ _ (hmod c).1 (hmod c).2 keep_upd ⟨_, _, _, _, upd_same⟩
    all_goals
      refine ⟨_, rfl, t, _, _, .int n, rfl, rfl, SqL.of hT, rfl, _, _, rfl, rfl, _, rfl, t, _, _, 2, rfl, rfl, hT, rfl, ?_⟩
      refine ⟨_, rfl, t, _, _, .int d, rfl, rfl, SqL.of upd_same, rfl, _, _, rfl, rfl, .inr ⟨by decide, by decide⟩, _, rfl, t, _, _, .int (n + 1), rfl, rfl, SqL.of upd_same, rfl, _, _, rfl, rfl, .inr ⟨by decide, by decide⟩, _, _, rfl, rfl, _, _, rfl, rfl, .inl ⟨_, rfl, _, _, rfl, rfl, (by show (0 : Int) < _; decide), ?_⟩⟩
      refine ⟨_, rfl, _, _, rfl, rfl, .inr ⟨by decide, by decide⟩, _, rfl, _, _, rfl, rfl, ⟨by decide, by decide⟩, _, _, rfl, rfl, .inr ⟨by decide, by decide⟩, _, _, rfl, rfl, _, rfl, t, _, _, .int (n + 1), rfl, rfl, SqL.of upd_same, rfl, _, _, rfl, rfl, .inl ⟨_, rfl, _, _, rfl, rfl, (by show (0 : Int) < _; decide), ?_⟩⟩
      refine ⟨_, rfl, _, _, rfl, rfl, ⟨by decide, by decide⟩, .inl ⟨_, rfl, _, rfl, _, _, rfl, rfl, m0, ?_⟩⟩
      exact k _ _ (hmod _).1 (hmod _).2 keep_upd ⟨_, _, _, _, upd_same⟩
/-! ### the tape -/
def spTape (K : PySem.W.Frag) : Sp := fun vs H Q _ => ∃ (a : Addr) (k : Int) (ns : List Int), vs = [.ref a, .int k] ∧ SqL K H a (ns.map V.int) ∧ 0 ≤ k ∧ ∀ (H' : Hp) (t : Addr), Same H H' → H t = none → TapeAt H' t → Q (.ref t) H'
theorem scTape : FnScope ["_law_script", "_law_k", "_law_cell"] ["_law_script", "_law_k"] (defScope sTape) := ⟨rfl, rfl, rfl, by decide +kernel, rfl, by decide +kernel, by decide +kernel⟩
theorem ok_tape {f : Addr} {fd : FuncData} (F : Fun K "_law_tape" "_law_tape" sTape f fd) (T : Txt K mg C) : FnOk P w K mg base CX0 1 f fd ["_law_script", "_law_k"] (spTape K) := by
  refine F.ok scTape (fun vs H Q E h => ?_) (fun cdv A outer s H vs Q E hr h => ?_)
  · obtain ⟨a, k, ns, rfl, _⟩ := h
    rfl
  · obtain ⟨a, j, ns, rfl, hS, hj, k⟩ := h
    refine ⟨_, pss_cons (ps_set (i := 2) scTape.nd rfl (Or.inl rfl) pe_int)
      (pss_cons (ps_if (pt_cmpR op_lt (pv 1) (pe_callB call_len_seq (by rfl) T.len PySem.boot_len (pa_cons (pv 0) pa_nil)) (nomark _))
        (pss_one (ps_set (i := 2) scTape.nd rfl (Or.inl rfl) (pe_callB call_abs (by rfl) T.abs (by decide +kernel) (pa_cons (pe_ix ix_list (pv 0) (pv 1) (fun _ _ => rfl)) pa_nil)))) pss_nil)
      (pss_one (ps_ret (pe_lst (pa_cons (pv 2) (pa_cons (pe_cmpR op_ge (pv 2) (pe_op op_pow pe_int pe_int) (nomark _)) (pa_cons pe_int (pa_cons
        (pe_op op_mod (pe_callTy call_int1 (by rfl) T.int (by decide +kernel) (pa_cons (pe_op op_add (pe_op op_mul (pv 2) pe_int) (pv 1)) pa_nil)) pe_int) pa_nil)))))))), ?_⟩
    have fin : ∀ c : Int, ∀ D : Addr, H D = none → Q (.ref D) (upd H D (.lst [.int c, .bl (decide ((10 : Int) ^ (18 : Int).toNat ≤ c)), .int 0, .int ((c * 64 + j) % 2147483647)])) := fun c D hD => k _ D (same_upd hD) hD ⟨_, _, _, _, upd_same⟩
    refine ⟨_, rfl, _, rfl, a, _, rfl, .inl hS, _, _, rfl, rfl, _, rfl, ?_⟩
    refine ite2 (fun hc => ?_) (fun hc => ?_)
    · have hlt : j < ((ns.map V.int).length : Nat) := of_decide_eq_true hc
      rw [List.length_map] at hlt
      have hjn : j.toNat < ns.length := by omega
      refine ⟨_, rfl, _, rfl, a, _, _, .int ns[j.toNat], rfl, rfl, hS, at_of (j := j.toNat) (by omega) (by rw [List.getElem?_map, List.getElem?_eq_getElem hjn]; rfl), _, rfl, ?_⟩
      refine ⟨_, rfl, _, rfl, _, _, rfl, rfl, ⟨by decide, by decide, by decide⟩, _, _, rfl, rfl, _, rfl, _, _, rfl, rfl, .inr ⟨by decide, by decide⟩, _, rfl, _, _, rfl, rfl, .inl ⟨_, rfl, _, _, rfl, rfl, (by show (0 : Int) < _; decide), ?_⟩⟩
      exact ⟨(by show 4 ≤ sizeLine; decide), fun D hD => fin _ D hD⟩
    · refine ⟨_, rfl, _, rfl, _, _, rfl, rfl, ⟨by decide, by decide, by decide⟩, _, _, rfl, rfl, _, rfl, _, _, rfl, rfl, .inr ⟨by decide, by decide⟩, _, rfl, _, _, rfl, rfl, .inl ⟨_, rfl, _, _, rfl, rfl, (by show (0 : Int) < _; decide), ?_⟩⟩
      exact ⟨(by show 4 ≤ sizeLine; decide), fun D hD => fin _ D hD⟩
end
end K24
namespace K24
open PySem L2 K24R
/-! ### the rules with K said (for comprehensions' blocks) -/
section
variable {X : Cx} (K : PySem.W.Frag) (h : X.K = K := by rfl)
theorem ixl (h : X.K = K := by rfl) : IxR X (rIxL K) := h ▸ ix_list
theorem ixt (h : X.K = K := by rfl) : IxR X (rIxT K) := h ▸ ix_tup
def rListOf (K : PySem.W.Frag) : List V → Hp → VK → Prop := fun xs H Q => ∃ p ys, xs = [.ref p] ∧ (SqL K H p ys ∨ SqT K H p ys) ∧ ∀ l, H l = none → Q (.ref l) (upd H l (.lst ys))
def rTupOf (K : PySem.W.Frag) : List V → Hp → VK → Prop := fun xs H Q => ∃ p ys, xs = [.ref p] ∧ ((SqL K H p ys ∧ ∀ l, H l = none → Q (.ref l) (upd H l (.tup ys))) ∨ (SqT K H p ys ∧ Q (.ref p) H))
def rLenOf (K : PySem.W.Frag) : List V → Hp → VK → Prop := fun xs H Q => ∃ p ys, xs = [.ref p] ∧ (SqL K H p ys ∨ SqT K H p ys) ∧ Q (.int ys.length) H
theorem clist (h : X.K = K := by rfl) : CallR X (.type "list") (rListOf K) := by subst h; exact call_list_of
theorem ctup (h : X.K = K := by rfl) : CallR X (.type "tuple") (rTupOf K) := by subst h; exact call_tuple_of
theorem clen (h : X.K = K := by rfl) : CallR X (.builtin "len") (rLenOf K) := by subst h; exact call_len_seq
theorem csum (hc : X.calm = true := by rfl) (h : X.K = K := by rfl) : CallR X (.builtin "sum") (rSum K) := by subst h; exact cr_sum hc
theorem cmax (hc : X.calm = true := by rfl) (h : X.K = K := by rfl) : CallR X (.builtin "max") (rMax K) := by subst h; exact cr_max hc
theorem pil {tg l : Expr} {tl : TE} (hl : PE X l tl) (h : X.K = K := by rfl) : PI X tg l (iList K tl) := by subst h; exact pi_list hl
theorem pit {tg l : Expr} {tl : TE} (hl : PE X l tl) (h : X.K = K := by rfl) : PI X tg l (iTup K tl) := by subst h; exact pi_tup hl
theorem pgt {es : List Expr} {k : Nat} {t : TGs} {n : Nat} {pos : Pos} (hc : X.calm = true) (hh : PGs X es t) (h : X.K = K := by rfl)
    (hn : (assignEach es X.env).length = n := by rfl) (hst : (assignEach es X.env).findIdx? (·.1) = none := by rfl) : PG X (.Tuple es k pos) (gTup K n t) := by subst h; exact pg_tup hc hh hn hst
end
end K24
namespace K24
open PySem L2 K24R
section
variable {P : Program} {w : World} {K : PySem.W.Frag} {mg : Str → Option Value} {base : Heap} {C : Addr}
theorem TapeAt.mut {H : Hp} {t p : Addr} {o : HO} (h : TapeAt H t) (hp : H p = none) : TapeAt (upd H p o) t := by
  obtain ⟨c, b, n, d, e⟩ := h
  exact ⟨c, b, n, d, same_upd hp _ _ e⟩
def spCost : Sp := fun vs H Q _ => ∃ (t : Addr), vs = [.ref t] ∧ TapeAt H t ∧ ∀ (x : Int) (H' : Hp), 0 ≤ x → Keep t H H' → TapeAt H' t → Q (.int x) H'
theorem scCost : FnScope ["_law_tape_here"] ["_law_tape_here"] (defScope sCost) := ⟨rfl, rfl, rfl, by decide +kernel, rfl, by decide +kernel, by decide +kernel⟩
theorem ok_cost {f fT : Addr} {fd fdT : FuncData} (F : Fun K "_law_cost" "_law_cost" sCost f fd) (T : Txt K mg C) (FT : Fun K "_law_take" "_law_take" sTake fT fdT) (bT : Binds K fdT ["_law_tape_here", "_law_many"] []) (gT : mg "_law_take" = some (.ref fT)) :
    FnOk P w K mg base CX0 2 f fd ["_law_tape_here"] spCost := by
  have G : FnOk P w K mg base CX0 1 fT fdT ["_law_tape_here", "_law_many"] spTake := ok_take FT T
  refine F.ok scCost (fun vs H Q E h => ?_) (fun cdv A outer s H vs Q E hr h => ?_)
  · obtain ⟨t, rfl, _⟩ := h
    rfl
  · obtain ⟨t, rfl, hT, k⟩ := h
    refine ⟨_, pss_one (ps_ret (pe_ix ix_list (pe_lst (pa_cons pe_int (pa_cons pe_int (pa_cons pe_int (pa_cons pe_int
      (pa_cons (pe_call G hr rfl gT FT.kp bT .nil pass0 (pa_cons (pv 0) (pa_cons pe_int pa_nil)))
      (pa_cons (pe_call G hr rfl gT FT.kp bT .nil pass0 (pa_cons (pv 0) (pa_cons pe_int pa_nil)))
      (pa_cons (pe_op op_add (pe_op op_pow pe_int pe_int) (pe_call G hr rfl gT FT.kp bT .nil pass0 (pa_cons (pv 0) (pa_cons pe_int pa_nil)))) pa_nil))))))))
      (pe_call G hr rfl gT FT.kp bT .nil pass0 (pa_cons (pv 0) (pa_cons pe_int pa_nil))) (fun _ _ => rfl))), ?_⟩
    refine ⟨_, rfl, t, 9, rfl, hT, by decide, by decide, fun r1 H1 a1 b1 k1 h1 => ?_⟩
    refine ⟨_, rfl, t, 1000, rfl, h1, by decide, by decide, fun r2 H2 a2 b2 k2 h2 => ?_⟩
    refine ⟨_, _, rfl, rfl, ⟨by decide, by decide, by decide⟩, _, rfl, t, 3, rfl, h2, by decide, by decide, fun r3 H3 a3 b3 k3 h3 => ?_⟩
    refine ⟨_, _, rfl, rfl, (by show 7 ≤ sizeLine; decide), fun p hp => ?_⟩
    refine ⟨_, rfl, t, 7, rfl, h3.mut hp, by decide, by decide, fun r4 H4 a4 b4 k4 h4 => ?_⟩
    have kk : Keep t H H4 := ((k1.trans k2).trans k3).trans (Keep.trans (Same.keep (same_upd hp)) k4)
    have npt : p ≠ t := fun z => by
      obtain ⟨_, _, _, _, e⟩ := h3
      rw [← z, hp] at e
      cases e
    have hL := k4 p _ upd_same npt
    have e20 : (0 : Int) ≤ (10 : Int) ^ (20 : Int).toNat := by decide
    obtain ⟨j, ej⟩ : ∃ j : Nat, r4 = (j : Int) := ⟨r4.toNat, by omega⟩
    have hj : j < 7 := by omega
    have fin : ∀ x : Int, 0 ≤ x → ([V.int 0, V.int 0, V.int 1, V.int 2, V.int r1, V.int r2, V.int ((10 : Int) ^ (20 : Int).toNat + r3)] : List V)[j]? = some (V.int x) → ∃ p_1 xs i v, V.ref p = V.ref p_1 ∧ V.int r4 = V.int i ∧ SqL K H4 p_1 xs ∧ atI xs i = some v ∧ Q v H4 :=
      fun x hx e => ⟨p, _, r4, .int x, rfl, rfl, SqL.of hL, at_of ej e, k x H4 hx kk h4⟩
    match j, hj, fin with
    | 0, _, fin => exact fin 0 (by decide) rfl
    | 1, _, fin => exact fin 0 (by decide) rfl
    | 2, _, fin => exact fin 1 (by decide) rfl
    | 3, _, fin => exact fin 2 (by decide) rfl
    | 4, _, fin => exact fin r1 a1 rfl
    | 5, _, fin => exact fin r2 a2 rfl
    | 6, _, fin => exact fin _ (by omega) rfl
    | j + 7, h, _ => exact absurd h (by omega)
/-! ### an integer -/
def spIsInt : Sp := fun vs H Q _ => ∃ i : Int, vs = [.int i] ∧ Q (.bl true) H
theorem scIsInt : FnScope ["_law_told"] ["_law_told"] (defScope sIsInt) := ⟨rfl, rfl, rfl, by decide +kernel, rfl, by decide +kernel, by decide +kernel⟩
theorem ok_isInt {f : Addr} {fd : FuncData} (F : Fun K "_law_is_integer" "_law_is_integer" sIsInt f fd) (T : Txt K mg C) : FnOk P w K mg base CX0 1 f fd ["_law_told"] spIsInt := by
  refine F.ok scIsInt (fun vs H Q E h => ?_) (fun cdv A outer s H vs Q E hr h => ?_)
  · obtain ⟨i, rfl, _⟩ := h
    rfl
  · obtain ⟨i, rfl, k⟩ := h
    refine ⟨_, pss_one (ps_ret (pe_and (pe_callB call_isi (by rfl) T.isinst (by decide +kernel) (pa_cons (pv 0) (pa_cons (pe_bltn (v := .ty "int") (by rfl) T.int (by decide +kernel) rfl) pa_nil)))
      (pe_one (pe_not (pe_callB call_isi (by rfl) T.isinst (by decide +kernel) (pa_cons (pv 0) (pa_cons (pe_bltn (v := .ty "bool") (by rfl) T.bool (by decide +kernel) rfl) pa_nil))))))), ?_⟩
    refine ⟨_, rfl, _, _, _, _, true, rfl, .ty _, .base (.int i), kit_ty (by decide +kernel), true, rfl, iteT ?_⟩
    refine ⟨_, rfl, _, _, _, _, false, rfl, .ty _, .base (.int i), kit_ty (by decide +kernel), false, rfl, ?_⟩
    exact k
end
end K24
namespace K24
open PySem L2 K24R
section
variable {P : Program} {w : World} {K : PySem.W.Frag} {mg : Str → Option Value} {base : Heap} {C : Addr}
/-! ### the entries passed on as new lists -/
def spPassed : Sp := fun vs H Q _ => ∃ (a : Addr) (F : Fo), vs = [.ref a] ∧ ForAt No H a F ∧ F.length ≤ 9 ∧ ∀ (H' : Hp) (p : Addr), Same H H' → ForAt (Dom H) H' p F → Q (.ref p) H'
theorem scPassed : FnScope ["_law_entries_here", "_law_entry"] ["_law_entries_here"] (defScope sPassed) := ⟨rfl, rfl, rfl, by decide +kernel, rfl, by decide +kernel, by decide +kernel⟩
theorem ok_passed {f : Addr} {fd : FuncData} (Fn : Fun K "_law_passed" "_law_passed" sPassed f fd) (T : Txt K mg C) : FnOk P w K mg base CX0 1 f fd ["_law_entries_here"] spPassed := by
  refine Fn.ok scPassed (fun vs H Q E h => ?_) (fun cdv A outer s H vs Q E hr h => ?_)
  · obtain ⟨a, F, rfl, _⟩ := h
    rfl
  · obtain ⟨a, F, rfl, hF, hlen, k⟩ := h
    refine ⟨_, pss_one (ps_ret (pe_lc (own := [("_law_entry", 1)]) (g := gName 1) (tt := tYes) rfl scPassed.nd (pi_list (pv 0)) (blkOk_by (N := ["_law_entries_here", "_law_entry"]) (sc := defScope sPassed) (by decide +kernel))
      (fun _ _ _ _ _ => pg_name (i := 1) scPassed.nd rfl (Or.inl rfl)) (fun _ _ _ _ _ => pts_nil) (fun _ _ _ _ _ => pe_callTy (clist K) (by rfl) T.list (by decide +kernel) (pa_cons (pv 1) pa_nil)))), ?_⟩
    obtain ⟨xs, hxs, hxl⟩ := hF.len
    refine ⟨_, rfl, a, rfl, ⟨_, SqL.of hxs⟩, fun D hD => lc_list (K := K) (a := a) (xs := xs) (fun i H' => Bld EntAt H D (F.take i) H') (Bld.start hD) (fun i H' _ b => SqL.of (b.same _ _ hxs)) ?_ ?_⟩
    · intro i x H1 hx b
      have hi : i < F.length := by rw [← hxl]; exact (List.getElem?_eq_some_iff.mp hx).1
      obtain ⟨ys, c, e1, e2, _, e3⟩ := hF.ix (i := i) (List.getElem?_eq_getElem hi)
      rw [hxs] at e1
      cases e1
      rw [hx] at e2
      cases e2
      obtain ⟨_, cs, f1, f2⟩ := e3
      refine ⟨rfl, _, rfl, c, _, rfl, .inl (SqL.of (b.same _ _ f1)), fun l hl => ?_⟩
      have b2 := b.grow entM (same_upd (o := .lst (cs.map V.ref)) hl)
      obtain ⟨acc, ha, hal⟩ := b2.at
      refine ⟨acc, ha, ?_, ?_⟩
      · rw [hal, List.length_take]
        have : (9 : Nat) < sizeLine := by decide
        omega
      · have := b2.push entM hD (d := l) (x := F[i]) ⟨fun z => ?_, cs, upd_same, Paired.imp (fun _ _ z => wayM.same (same_upd hl) (wayM.same b.same (wayM.anti (fun _ _ => trivial) z))) f2⟩ ha
        · rw [List.take_succ, List.getElem?_eq_getElem hi]
          exact this
        · exact absurd hl (b.domX l z)
    · intro H' b
      rw [hxl, List.take_length] at b
      exact k H' D b.same (b.done entM hD)
end
section
variable {P : Program} {w : World} {K : PySem.W.Frag} {mg : Str → Option Value} {base : Heap} {C : Addr}
/-! ### the same pairs -/
def spSame : Sp := fun vs H Q _ => ∃ (a b : Addr) (fl : Flat), vs = [.ref a, .ref b] ∧ FlatAt No H a fl ∧ FlatAt No H b fl ∧ fl.length ≤ 2015539 ∧ Q (.bl true) H
theorem scSame : FnScope ["_law_told", "_law_due", "_law_k"] ["_law_told", "_law_due"] (defScope sSame) := ⟨rfl, rfl, rfl, by decide +kernel, rfl, by decide +kernel, by decide +kernel⟩
theorem ok_same {f fI : Addr} {fd fdI : FuncData} (Fn : Fun K "_law_same_pairs" "_law_same_pairs" sSame f fd) (T : Txt K mg C) (FI : Fun K "_law_is_integer" "_law_is_integer" sIsInt fI fdI) (bI : Binds K fdI ["_law_told"] []) (gI : mg "_law_is_integer" = some (.ref fI)) :
    FnOk P w K mg base CX0 2 f fd ["_law_told", "_law_due"] spSame := by
  have G : FnOk P w K mg base CX0 1 fI fdI ["_law_told"] spIsInt := ok_isInt FI T
  refine Fn.ok scSame (fun vs H Q E h => ?_) (fun cdv A outer s H vs Q E hr h => ?_)
  · obtain ⟨a, b, fl, rfl, _⟩ := h
    rfl
  · obtain ⟨a, b, fl, rfl, hA, hB, hlen, k⟩ := h
    have hu : (A.deeper (PyProof.Rows.envOfC "_law_same_pairs" (defScope sSame) s.heap.objs.size f cdv)).units + 64 < cLine := hr.units
    refine ⟨_, pss_cons (ps_if (PW.pt (pw_or (pt_not (pt_val (pe_callB call_isi (by rfl) T.isinst (by decide +kernel) (pa_cons (pv 0) (pa_cons (pe_bltn (v := .ty "list") (by rfl) T.list (by decide +kernel) rfl) pa_nil)))))
          (pw_or1 (pt_cmpR op_ne (pe_callB call_len_seq (by rfl) T.len PySem.boot_len (pa_cons (pv 0) pa_nil)) (pe_callB call_len_seq (by rfl) T.len PySem.boot_len (pa_cons (pv 1) pa_nil)) (nomark _)))))
          (pss_one (ps_ret pe_bl)) pss_nil)
      (pss_cons (ps_for PassesOwn.never rfl (pi_range1 rfl T.range (pa_cons (pe_callB call_len_seq (by rfl) T.len PySem.boot_len (pa_cons (pv 1) pa_nil)) pa_nil)) (pg_name (i := 2) scSame.nd rfl (Or.inl rfl))
        (pss_cons (ps_if (PW.pt (pw_or (pt_not (pt_val (pe_callB call_isi (by rfl) T.isinst (by decide +kernel) (pa_cons (pe_ix ix_list (pv 0) (pv 2) (fun _ _ => rfl)) (pa_cons (pe_bltn (v := .ty "tuple") (by rfl) T.tuple (by decide +kernel) rfl) pa_nil)))))
            (pw_or1 (pt_cmpR op_ne (pe_callB call_len_seq (by rfl) T.len PySem.boot_len (pa_cons (pe_ix ix_list (pv 0) (pv 2) (fun _ _ => rfl)) pa_nil)) pe_int (nomark _)))))
            (pss_one (ps_ret pe_bl)) pss_nil)
        (pss_one (ps_if (PW.pt (pw_or (pt_not (pt_val (pe_call G hr rfl gI FI.kp bI .nil pass0 (pa_cons (pe_ix ix_tup (pe_ix ix_list (pv 0) (pv 2) (fun _ _ => rfl)) pe_int (fun _ _ => rfl)) pa_nil))))
            (pw_or (pt_not (pt_val (pe_call G hr rfl gI FI.kp bI .nil pass0 (pa_cons (pe_ix ix_tup (pe_ix ix_list (pv 0) (pv 2) (fun _ _ => rfl)) pe_int (fun _ _ => rfl)) pa_nil))))
            (pw_or1 (pt_cmpR (op_neD hu) (pe_ix ix_list (pv 0) (pv 2) (fun _ _ => rfl)) (pe_ix ix_list (pv 1) (pv 2) (fun _ _ => rfl)) (nomark _))))))
            (pss_one (ps_ret pe_bl)) pss_nil))))
      (pss_one (ps_ret pe_bl))), ?_⟩
    obtain ⟨xs, hxs, hxl⟩ := hA.len
    obtain ⟨ys, hys, hyl⟩ := hB.len
    refine ⟨_, rfl, _, _, _, _, true, rfl, .ty _, .base (.lst hxs), kit_ty (by decide +kernel), true, rfl, ?_⟩
    refine iteF ⟨_, rfl, a, _, rfl, .inl (SqL.of hxs), _, rfl, b, _, rfl, .inl (SqL.of hys), rfl, _, rfl, ?_⟩
    refine iteNS (by rw [hxl, hyl]) ?_
    refine ⟨_, rfl, b, _, rfl, .inl (SqL.of hys), _, rfl, (by omega), ?_, for_range (lo := 0) (n := ys.length) (fun i σ H' => H' = H ∧ ∃ v, σ = [some (.ref a), some (.ref b), v]) ⟨rfl, _, rfl⟩ ?_ ?_⟩
    · rw [hyl]
      have : (2015539 : Int) < 2 ^ 62 := by decide
      omega
    · rintro i σ H' hi ⟨rfl, v, rfl⟩
      rw [Int.zero_add]
      have hif : i < fl.length := by omega
      obtain ⟨_, p, e1, e2, _, e3⟩ := hA.ix (List.getElem?_eq_getElem hif)
      obtain ⟨_, q, g1, g2, _, g3⟩ := hB.ix (List.getElem?_eq_getElem hif)
      rw [hxs] at e1
      rw [hys] at g1
      cases e1
      cases g1
      have e3 : H' p = some (.tup [.int (fl[i].1 : Nat), .int (fl[i].2 : Nat)]) := e3
      have g3 : H' q = some (.tup [.int (fl[i].1 : Nat), .int (fl[i].2 : Nat)]) := g3
      refine ⟨_, rfl, _, rfl, a, _, _, .ref p, rfl, rfl, SqL.of hxs, atI_nat e2, _, _, _, _, true, rfl, .ty _, .base (.tup e3), kit_ty (by decide +kernel), true, rfl, ?_⟩
      refine iteF ⟨_, rfl, _, rfl, a, _, _, .ref p, rfl, rfl, SqL.of hxs, atI_nat e2, p, _, rfl, .inr (SqT.of e3), rfl, _, rfl, ?_⟩
      refine iteNS rfl ?_
      refine ⟨_, rfl, _, rfl, a, _, _, .ref p, rfl, rfl, SqL.of hxs, atI_nat e2, p, _, 0, .int (fl[i].1 : Nat), rfl, rfl, SqT.of e3, rfl, _, rfl, true, rfl, ?_⟩
      refine iteF ⟨_, rfl, _, rfl, a, _, _, .ref p, rfl, rfl, SqL.of hxs, atI_nat e2, p, _, 1, .int (fl[i].2 : Nat), rfl, rfl, SqT.of e3, rfl, _, rfl, true, rfl, ?_⟩
      refine iteF ⟨_, rfl, _, rfl, a, _, _, .ref p, rfl, rfl, SqL.of hxs, atI_nat e2, _, rfl, _, rfl, b, _, _, .ref q, rfl, rfl, SqL.of hys, atI_nat g2, _, _, .tup (SqT.of e3) (.cons (.int _) (.cons (.int _) .nil)), .tup (SqT.of g3) (.cons (.int _) (.cons (.int _) .nil)), rfl, rfl, _, rfl, ?_⟩
      rw [SeqAt.eqv_refl _ rfl]
      exact iteF ⟨rfl, _, rfl⟩
    · rintro σ H' ⟨rfl, v, rfl⟩
      exact k
end
end K24
namespace K24
open PySem L2 K24R
section
variable {P : Program} {w : World} {K : PySem.W.Frag} {mg : Str → Option Value} {base : Heap} {C : Addr}
/-! ### picks -/
theorem nints_snoc (l : List Nat) (k : Nat) : nints (l ++ [k]) = nints l ++ [V.int (k : Nat)] := by simp [nints]
theorem nints_get {l : List Nat} {i n : Nat} (h : l[i]? = some n) : (nints l)[i]? = some (V.int (n : Nat)) := by simp [nints, h]
theorem nints_length (l : List Nat) : (nints l).length = l.length := by simp [nints]
def spPicks : Sp := fun vs H Q _ => ∃ (a : Addr) (ns : List Nat), vs = [.ref a] ∧ H a = some (.lst (nints ns)) ∧ ns.length ≤ 6 ∧ (∀ n ∈ ns, n ≤ 120) ∧ (∀ i, (picks (ns.take i)).length ≤ 120) ∧ ∀ (H' : Hp) (p : Addr), Same H H' → LstAt PickAt (Dom H) H' p (picks ns) → Q (.ref p) H'
theorem scPicks : FnScope ["_law_sizes_here", "_law_rows", "_law_size", "_law_longer", "_law_row", "_law_k"] ["_law_sizes_here"] (defScope sPicks) := ⟨rfl, rfl, rfl, by decide +kernel, rfl, by decide +kernel, by decide +kernel⟩
theorem ok_picks {f : Addr} {fd : FuncData} (Fn : Fun K "_law_picks" "_law_picks" sPicks f fd) (T : Txt K mg C) : FnOk P w K mg base CX0 1 f fd ["_law_sizes_here"] spPicks := by
  refine Fn.ok scPicks (fun vs H Q E h => ?_) (fun cdv A outer s H vs Q E hr h => ?_)
  · obtain ⟨a, ns, rfl, _⟩ := h
    rfl
  · obtain ⟨a, ns, rfl, hA, hlen, hns, hb, k⟩ := h
    refine ⟨_, pss_cons (ps_set (i := 1) scPicks.nd rfl (Or.inl rfl) (pe_lst (pa_cons (pe_tup pa_nil) pa_nil)))
      (pss_cons (ps_for PassesOwn.never rfl (pi_list (pv 0)) (pg_name (i := 2) scPicks.nd rfl (Or.inl rfl))
        (pss_cons (ps_set (i := 3) scPicks.nd rfl (Or.inl rfl) (pe_lst pa_nil))
        (pss_cons (ps_for PassesOwn.never rfl (pi_list (pv 1)) (pg_name (i := 4) scPicks.nd rfl (Or.inl rfl))
          (pss_one (ps_for PassesOwn.never rfl (pi_range1 rfl T.range (pa_cons (pv 2) pa_nil)) (pg_name (i := 5) scPicks.nd rfl (Or.inl rfl))
            (pss_one (ps_expr (pe_bm PySem.F.plainAttrs_list PySem.F.slot_list_append PySem.F.type_list_append mt_append (pv 3) (pa_cons (pe_op op_catA (pv 4) (pe_tup (pa_cons (pv 5) pa_nil))) pa_nil)))))))
        (pss_one (ps_set (i := 1) scPicks.nd rfl (Or.inl rfl) (pv 3))))))
      (pss_one (ps_ret (pv 1)))), ?_⟩
    refine ⟨Nat.zero_le _, fun p0 hp0 => ⟨(by show 1 ≤ sizeLine; decide), fun r0 hr0 => ?_⟩⟩
    have s0 : Same H (upd (upd H p0 (.tup [])) r0 (.lst [.ref p0])) := (same_upd hp0).trans (same_upd hr0)
    have npr : p0 ≠ r0 := fun z => by
      rw [z, upd_same] at hr0
      cases hr0
    refine ⟨_, rfl, a, rfl, ⟨_, SqL.of (s0 _ _ hA)⟩, for_list (K := K) (a := a) (xs := nints ns) (fun i σ H' => ∃ (r : Addr) (v2 v3 v4 v5 : Option V), σ = [some (.ref a), some (.ref r), v2, v3, v4, v5] ∧ Same H H' ∧ LstAt PickAt (Dom H) H' r (picks (ns.take i))) ?_ ?_ ?_ ?_⟩
    · refine ⟨r0, none, none, none, none, rfl, s0, ⟨none_dom ((same_upd hp0).free hr0), [p0], upd_same, ?_⟩⟩
      have e : PickAt (Dom H) (upd (upd H p0 (.tup [])) r0 (.lst [.ref p0])) p0 [] := by
        show (upd (upd H p0 (.tup [])) r0 (.lst [.ref p0])) p0 = _
        rw [upd_ne npr, upd_same]
        rfl
      exact .cons e .nil
    · rintro i σ H' _ ⟨_, _, _, _, _, _, s, _⟩
      exact SqL.of (s _ _ hA)
    · rintro i y σ H' hi ⟨r, v2, v3, v4, v5, rfl, s1, hR⟩
      have hil : i < ns.length := by
        have := (List.getElem?_eq_some_iff.mp hi).1
        rwa [nints_length] at this
      rw [nints_get (List.getElem?_eq_getElem hil)] at hi
      obtain rfl : V.int (ns[i] : Nat) = y := Option.some.inj hi
      have hn120 := hns ns[i] (List.getElem_mem hil)
      have e1 : ns.take (i + 1) = ns.take i ++ [ns[i]] := by rw [List.take_succ, List.getElem?_eq_getElem hil]; rfl
      have e2 : picks (ns.take (i + 1)) = (picks (ns.take i)).flatMap fun r => (List.range ns[i]).map fun k => r ++ [k] := by rw [e1, picks_snoc]
      have hb1 := hb (i + 1)
      rw [e2] at hb1
      refine ⟨Nat.zero_le _, fun g hg => ?_⟩
      obtain ⟨xs, hxs, hxl⟩ := hR.len
      -- the loop over the rows
      refine ⟨_, rfl, r, rfl, ⟨_, SqL.of (same_upd hg _ _ hxs)⟩, for_list (K := K) (a := r) (xs := xs) (fun j σ H2 => ∃ (v4 v5 : Option V), σ = [some (.ref a), some (.ref r), some (.int (ns[i] : Nat)), some (.ref g), v4, v5] ∧
        Bld PickAt H' g (((picks (ns.take i)).take j).flatMap fun r => (List.range ns[i]).map fun k => r ++ [k]) H2) ⟨v4, v5, rfl, Bld.start hg⟩ (fun j σ H2 _ ⟨_, _, _, b⟩ => SqL.of (b.same _ _ hxs)) ?_ ?_⟩
      · rintro j y σ H2 hj ⟨v4, v5, rfl, b2⟩
        have hjl : j < (picks (ns.take i)).length := by rw [← hxl]; exact (List.getElem?_eq_some_iff.mp hj).1
        obtain ⟨_, q, f1, f2, _, f3⟩ := hR.ix (List.getElem?_eq_getElem hjl)
        rw [hxs] at f1
        cases f1
        rw [hj] at f2
        obtain rfl := Option.some.inj f2
        have f3 : H' q = some (.tup (nints (picks (ns.take i))[j])) := f3
        have ej : ((picks (ns.take i)).take (j + 1)).flatMap (fun r => (List.range ns[i]).map fun k => r ++ [k]) = ((picks (ns.take i)).take j).flatMap (fun r => (List.range ns[i]).map fun k => r ++ [k]) ++ (List.range ns[i]).map fun k => (picks (ns.take i))[j] ++ [k] := by
          rw [List.take_succ, List.getElem?_eq_getElem hjl, List.flatMap_append]
          simp
        refine ⟨_, rfl, _, rfl, (by omega), ?_, for_range (lo := 0) (n := ns[i]) (fun m σ H3 => ∃ v5 : Option V, σ = [some (.ref a), some (.ref r), some (.int (ns[i] : Nat)), some (.ref g), some (.ref q), v5] ∧
          Bld PickAt H' g (((picks (ns.take i)).take j).flatMap (fun r => (List.range ns[i]).map fun k => r ++ [k]) ++ (List.range m).map fun k => (picks (ns.take i))[j] ++ [k]) H3) ⟨v5, rfl, by simpa using b2⟩ ?_ ?_⟩
        · have : (120 : Int) < 2 ^ 62 := by decide
          omega
        · rintro m σ H3 hm ⟨v5, rfl, b3⟩
          rw [Int.zero_add]
          obtain ⟨acc, hacc, hal⟩ := b3.at
          have hH3q : H3 q = some (.tup (nints (picks (ns.take i))[j])) := b3.same _ _ f3
          have hplen : (picks (ns.take i))[j].length ≤ 6 := by
            rw [picks_len (List.getElem_mem hjl), List.length_take]
            omega
          have hsz : acc.length < sizeLine := by
            rw [hal]
            have q1 : (((picks (ns.take i)).take j).flatMap (fun r => (List.range ns[i]).map fun k => r ++ [k]) ++ (List.range m).map fun k => (picks (ns.take i))[j] ++ [k]).length ≤ 120 * 120 + 120 := by
              rw [List.length_append, List.length_map, List.length_range, length_flatMap_sum, sum_const _ ns[i] _ fun x _ => by simp]
              have q2 : ((picks (ns.take i)).take j).length ≤ 120 := by rw [List.length_take]; have := hb i; omega
              have q3 := Nat.mul_le_mul q2 hn120
              omega
            have : (120 * 120 + 120 : Nat) < sizeLine := by decide
            omega
          have em : (List.range (m + 1)).map (fun k => (picks (ns.take i))[j] ++ [k]) = (List.range m).map (fun k => (picks (ns.take i))[j] ++ [k]) ++ [(picks (ns.take i))[j] ++ [m]] := by
            rw [List.range_succ, List.map_append]; rfl
          rw [em, ← List.append_assoc]
          refine ⟨_, rfl, .inl ⟨rfl, _, SqL.of hacc⟩, _, rfl, _, rfl, (by show 1 ≤ sizeLine; decide), fun t ht => ?_⟩
          have s3 := same_upd (o := .tup [.int (m : Nat)]) ht
          refine ⟨q, t, _, _, rfl, rfl, SqT.of (s3 _ _ hH3q), SqT.of upd_same, ?_, fun hz => ?_, (fun _ hz => by cases hz), fun _ _ u hu => ?_⟩
          · rw [nints_length]
            have : (7 : Nat) ≤ sizeLine := by decide
            show _ + 1 ≤ _
            omega
          · -- the empty row: the new tuple itself
            refine ⟨g, acc, _, rfl, rfl, s3 _ _ hacc, hsz, _, rfl, ?_⟩
            have hz2 : (picks (ns.take i))[j] = [] := by
              have := congrArg List.length hz
              rw [nints_length] at this
              exact List.eq_nil_of_length_eq_zero this
            refine Bld.push pickM hg (b3.grow pickM s3) ?_ (s3 _ _ hacc)
            show (upd H3 t (.tup [.int (m : Nat)])) t = _
            rw [upd_same, hz2]
            rfl
          · have s4 := same_upd (o := .tup (nints (picks (ns.take i))[j] ++ [V.int (m : Nat)])) hu
            refine ⟨g, acc, _, rfl, rfl, s4 _ _ (s3 _ _ hacc), hsz, _, rfl, ?_⟩
            refine Bld.push pickM hg ((b3.grow pickM s3).grow pickM s4) ?_ (s4 _ _ (s3 _ _ hacc))
            show (upd (upd H3 t _) u _) u = _
            rw [upd_same, nints_snoc]
        · rintro σ H3 ⟨v5, rfl, b3⟩
          refine ⟨_, _, rfl, ?_⟩
          rw [ej]
          exact b3
      · rintro σ H2 ⟨v4, v5, rfl, b2⟩
        rw [hxl, List.take_length, ← e2] at b2
        refine ⟨_, rfl, g, _, _, _, _, rfl, s1.trans b2.same, ?_⟩
        have := b2.done pickM hg
        exact (LstAt.mono pickM).anti (fun b hb => Same.dom s1 hb) this
    · rintro σ H' ⟨r, v2, v3, v4, v5, rfl, s1, hR⟩
      rw [nints_length, List.take_length] at hR
      exact ⟨_, rfl, k H' r s1 hR⟩
end
end K24
namespace K24
open PySem L2 K24R
section
variable {P : Program} {w : World} {K : PySem.W.Frag} {mg : Str → Option Value} {base : Heap} {C : Addr}
/-- a list of ints at D that grows -/
structure IBld (H0 : Hp) (D : Addr) (ns : List Int) (H' : Hp) : Prop where
  same : Same H0 H'
  lst : H' D = some (.lst (ns.map V.int))
theorem IBld.start {H0 : Hp} {D : Addr} (h : H0 D = none) : IBld H0 D [] (upd H0 D (.lst [])) := ⟨same_upd h, upd_same⟩
theorem IBld.grow {H0 H1 H2 : Hp} {D : Addr} {ns : List Int} (b : IBld H0 D ns H1) (e : Same H1 H2) : IBld H0 D ns H2 := ⟨b.same.trans e, e _ _ b.lst⟩
theorem IBld.push {H0 H1 : Hp} {D : Addr} {ns : List Int} {n : Int} (hD : H0 D = none) (b : IBld H0 D ns H1) : IBld H0 D (ns ++ [n]) (upd H1 D (.lst (ns.map V.int ++ [.int n]))) :=
  ⟨fun c o e => by rw [upd_ne (ne_of_none e hD)]; exact b.same c o e, by rw [upd_same, List.map_append]; rfl⟩
theorem big20 : (20 : Nat) < sizeLine := by decide
/-! ### sizes -/
def spSizes : Sp := fun vs H Q _ => ∃ (a : Addr) (F : Fo), vs = [.ref a] ∧ ForAt No H a F ∧ (∀ (e : Nat) (en : List Way), F[e]? = some en → ∀ w ∈ en, ∀ c ∈ w.2, c < e) ∧ F.length ≤ 10 ∧ (∀ en ∈ F, en.length ≤ 6) ∧ (∀ en ∈ F, ∀ w ∈ en, w.2.length ≤ 6) ∧
  ∀ (H' : Hp) (p : Addr) (ns : List Int), Same H H' → H' p = some (.lst (ns.map V.int)) → ns.length = F.length → Q (.ref p) H'
abbrev nSizes : List Str := ["_law_entries_here", "_law_sizes_here", "_law_entry", "_law_way", "_law_child"]
theorem scSizes : FnScope nSizes ["_law_entries_here"] (defScope sSizes) := ⟨rfl, rfl, rfl, by decide +kernel, rfl, by decide +kernel, by decide +kernel⟩
theorem ok_sizes {f : Addr} {fd : FuncData} (Fn : Fun K "_law_sizes" "_law_sizes" sSizes f fd) (T : Txt K mg C) : FnOk P w K mg base CX0 1 f fd ["_law_entries_here"] spSizes := by
  refine Fn.ok scSizes (fun vs H Q E h => ?_) (fun cdv A outer s H vs Q E hr h => ?_)
  · obtain ⟨a, F, rfl, _⟩ := h
    rfl
  · obtain ⟨a, F, rfl, hF, hchi, hlen, hways, hkids, k⟩ := h
    refine ⟨_, pss_cons (ps_set (i := 1) scSizes.nd rfl (Or.inr rfl) (pe_lst pa_nil))
      (pss_cons (ps_for PassesOwn.never rfl (pi_list (pv 0)) (pg_name (i := 2) scSizes.nd rfl (Or.inl rfl))
        (pss_one (ps_expr (pe_bm PySem.F.plainAttrs_list PySem.F.slot_list_append PySem.F.type_list_append mt_append (pv 1)
          (pa_cons (pe_callB (cmax K) (by rfl) T.max (by decide +kernel) (pa_cons (pe_op op_cat (pe_lst (pa_cons pe_int pa_nil))
            (pe_lc (own := [("_law_way", 3)]) (g := gName 3) (tt := tYes) rfl scSizes.nd (pi_list (pv 2)) (blkOk_by (N := nSizes) (sc := defScope sSizes) (by decide +kernel))
              (fun _ _ _ _ _ => pg_name (i := 3) scSizes.nd rfl (Or.inl rfl)) (fun _ _ _ _ _ => pts_nil)
              (fun _ _ _ _ _ => pe_op op_add pe_int (pe_callB (csum K) (by rfl) T.sum (by decide +kernel) (pa_cons
                (pe_lc (own := [("_law_child", 4)]) (g := gName 4) (tt := tYes) rfl scSizes.nd (pit K (pe_ix (ixt K) (pv 3) pe_int (fun _ _ => rfl))) (blkOk_by (by kernel_rfl))
                  (fun _ _ _ _ _ => pg_name (i := 4) scSizes.nd rfl (Or.inl rfl)) (fun _ _ _ _ _ => pts_nil)
                  (fun _ _ _ _ _ => pe_ix (ixl K) (pv 1) (pv 4) (fun _ _ => rfl))) pa_nil))))) pa_nil)) pa_nil)))))
      (pss_one (ps_ret (pv 1)))), ?_⟩
    obtain ⟨xs, hxs, hxl⟩ := hF.len
    refine ⟨Nat.zero_le _, fun z hz => ?_⟩
    refine ⟨_, rfl, a, rfl, ⟨_, SqL.of (same_upd hz _ _ hxs)⟩, for_list (K := K) (a := a) (xs := xs) (fun i σ H' => ∃ (v2 : Option V) (ns : List Int), σ = [some (.ref a), some (.ref z), v2, none, none] ∧ IBld H z ns H' ∧ ns.length = i) ⟨none, [], rfl, IBld.start hz, rfl⟩
      (fun i σ H' _ ⟨_, _, _, b, _⟩ => SqL.of (b.same _ _ hxs)) ?_ ?_⟩
    · rintro i y σ H' hi ⟨v2, ns, rfl, b, hnl⟩
      have hil : i < F.length := by rw [← hxl]; exact (List.getElem?_eq_some_iff.mp hi).1
      obtain ⟨_, c, f1, f2, _, f3⟩ := hF.ix (List.getElem?_eq_getElem hil)
      rw [hxs] at f1
      cases f1
      rw [hi] at f2
      obtain rfl := Option.some.inj f2
      obtain ⟨_, cs, g1, g2⟩ := id f3
      have hcl : cs.length = F[i].length := Paired.length g2
      have hw6 := hways F[i] (List.getElem_mem hil)
      refine ⟨_, rfl, .inl ⟨rfl, _, SqL.of b.lst⟩, ?_⟩
      -- [1]
      refine ⟨(by show 1 ≤ sizeLine; decide), fun o ho => ?_⟩
      have b1 := b.grow (same_upd (o := .lst [V.int 1]) ho)
      refine ⟨_, rfl, c, rfl, ⟨_, SqL.of (b1.same _ _ g1)⟩, fun D hD => lc_list (K := K) (a := c) (xs := cs.map V.ref) (fun j H2 => ∃ ms : List Int, IBld (upd H' o (.lst [V.int 1])) D ms H2 ∧ ms.length = j) ⟨[], IBld.start hD, rfl⟩
        (fun j H2 _ ⟨_, b2, _⟩ => SqL.of (b2.same _ _ (b1.same _ _ g1))) ?_ ?_⟩
      · rintro j x H2 hj ⟨ms, b2, hml⟩
        have hjl : j < F[i].length := by
          have := (List.getElem?_eq_some_iff.mp hj).1
          rwa [List.length_map, hcl] at this
        obtain ⟨_, wa, q1, q2, _, q3⟩ := f3.ix (List.getElem?_eq_getElem hjl)
        rw [g1] at q1
        cases q1
        rw [hj] at q2
        obtain rfl := Option.some.inj q2
        obtain ⟨ca, w1, w2⟩ := q3
        have s2 : Same H H2 := b1.same.trans b2.same
        have hk6 := hkids F[i] (List.getElem_mem hil) F[i][j] (List.getElem_mem hjl)
        refine ⟨rfl, ?_⟩
        refine ⟨_, rfl, wa, _, 1, .ref ca, rfl, rfl, SqT.of (s2 _ _ w1), rfl, ca, rfl, ⟨_, SqT.of (s2 _ _ w2)⟩, fun G hG => lc_tup (K := K) (a := ca) (xs := nints F[i][j].2) (fun m H3 => ∃ ls : List Int, IBld H2 G ls H3 ∧ ls.length = m) ⟨[], IBld.start hG, rfl⟩
          (fun m H3 _ ⟨_, b3, _⟩ => SqT.of (b3.same _ _ (s2 _ _ w2))) ?_ ?_⟩
        · rintro m x H3 hm ⟨ls, b3, hll⟩
          have hml2 : m < F[i][j].2.length := by
            have := (List.getElem?_eq_some_iff.mp hm).1
            rwa [nints_length] at this
          rw [nints_get (List.getElem?_eq_getElem hml2)] at hm
          obtain rfl := Option.some.inj hm
          have hch : F[i][j].2[m] < ns.length := by
            rw [hnl]
            exact hchi i F[i] (List.getElem?_eq_getElem hil) F[i][j] (List.getElem_mem hjl) _ (List.getElem_mem hml2)
          have hz3 : H3 z = some (.lst (ns.map V.int)) := b3.same _ _ (b2.same _ _ b1.lst)
          refine ⟨rfl, ?_⟩
          refine ⟨_, rfl, _, rfl, z, _, _, .int ns[F[i][j].2[m]], rfl, rfl, SqL.of hz3, atI_nat (by rw [List.getElem?_map, List.getElem?_eq_getElem hch]; rfl), _, b3.lst, ?_, _, IBld.push hG b3, by rw [List.length_append, hll]; rfl⟩
          have := big20
          rw [List.length_map]
          omega
        · rintro H3 ⟨ls, b3, hll⟩
          refine ⟨G, ls, rfl, SqL.of b3.lst, _, _, rfl, rfl, ?_⟩
          have b4 := b2.grow b3.same
          refine ⟨_, b4.lst, ?_, _, IBld.push hD b4, by rw [List.length_append, hml]; rfl⟩
          have := big20
          rw [List.length_map]
          omega
      · rintro H2 ⟨ms, b2, hml⟩
        have ho2 : H2 o = some (.lst [V.int 1]) := b2.same _ _ upd_same
        rw [List.length_map] at hml
        refine ⟨o, D, _, _, rfl, rfl, ho2, b2.lst, ?_, fun u hu => ?_⟩
        · have := big20
          rw [List.length_map]
          show 1 + _ ≤ _
          omega
        · have b3 := (b1.grow b2.same).grow (same_upd (o := .lst ([V.int 1] ++ ms.map V.int)) hu)
          refine ⟨u, 1 :: ms, rfl, SqL.of upd_same, Nat.succ_pos _, fun m _ _ => ?_⟩
          refine ⟨z, _, _, rfl, rfl, b3.lst, ?_, _, _, rfl, IBld.push hz b3, by rw [List.length_append, hnl]; rfl⟩
          have := big20
          rw [List.length_map]
          omega
    · rintro σ H' ⟨v2, ns, rfl, b, hnl⟩
      exact ⟨_, rfl, k H' z ns b.same b.lst (by rw [hnl, hxl])⟩
/-! ### caps -/
def spCaps : Sp := fun vs H Q _ => ∃ (a : Addr) (F : Fo), vs = [.ref a] ∧ ForAt No H a F ∧ (∀ (e : Nat) (en : List Way), F[e]? = some en → ∀ w ∈ en, ∀ c ∈ w.2, c < e) ∧ F.length ≤ 10 ∧ (∀ en ∈ F, en.length ≤ 6) ∧ (∀ en ∈ F, ∀ w ∈ en, w.2.length ≤ 6) ∧
  (∀ e, e + 1 < F.length → (capsL F).getD e 0 ≤ 120) ∧ ∀ (H' : Hp) (p : Addr), Same H H' → H' p = some (.lst (nints (capsL F))) → Q (.ref p) H'
abbrev nCaps : List Str := ["_law_entries_here", "_law_caps_here", "_law_entry", "_law_total", "_law_way", "_law_product", "_law_child"]
theorem scCaps : FnScope nCaps ["_law_entries_here"] (defScope sCaps) := ⟨rfl, rfl, rfl, by decide +kernel, rfl, by decide +kernel, by decide +kernel⟩
theorem ok_caps {f : Addr} {fd : FuncData} (Fn : Fun K "_law_caps" "_law_caps" sCaps f fd) (T : Txt K mg C) : FnOk P w K mg base CX0 1 f fd ["_law_entries_here"] spCaps := by
  refine Fn.ok scCaps (fun vs H Q E h => ?_) (fun cdv A outer s H vs Q E hr h => ?_)
  · obtain ⟨a, F, rfl, _⟩ := h
    rfl
  · obtain ⟨a, F, rfl, hF, hchi, hlen, hways, hkids, hcap, k⟩ := h
    refine ⟨_, pss_cons (ps_set (i := 1) scCaps.nd rfl (Or.inl rfl) (pe_lst pa_nil))
      (pss_cons (ps_for PassesOwn.never rfl (pi_list (pv 0)) (pg_name (i := 2) scCaps.nd rfl (Or.inl rfl))
        (pss_cons (ps_set (i := 3) scCaps.nd rfl (Or.inl rfl) pe_int)
        (pss_cons (ps_for PassesOwn.never rfl (pi_list (pv 2)) (pg_name (i := 4) scCaps.nd rfl (Or.inl rfl))
          (pss_cons (ps_set (i := 5) scCaps.nd rfl (Or.inl rfl) pe_int)
          (pss_cons (ps_for PassesOwn.never rfl (pi_tup (pe_ix ix_tup (pv 4) pe_int (fun _ _ => rfl))) (pg_name (i := 6) scCaps.nd rfl (Or.inl rfl))
            (pss_one (ps_set (i := 5) scCaps.nd rfl (Or.inl rfl) (pe_op op_mul (pv 5) (pe_callB (call_max2 rfl) (by rfl) T.max (by decide +kernel) (pa_cons pe_int (pa_cons (pe_ix ix_list (pv 1) (pv 6) (fun _ _ => rfl)) pa_nil)))))))
          (pss_one (ps_set (i := 3) scCaps.nd rfl (Or.inl rfl) (pe_op op_add (pv 3) (pv 5)))))))
        (pss_one (ps_expr (pe_bm PySem.F.plainAttrs_list PySem.F.slot_list_append PySem.F.type_list_append mt_append (pv 1) (pa_cons (pv 3) pa_nil)))))))
      (pss_one (ps_ret (pv 1)))), ?_⟩
    obtain ⟨xs, hxs, hxl⟩ := hF.len
    refine ⟨Nat.zero_le _, fun z hz => ?_⟩
    refine ⟨_, rfl, a, rfl, ⟨_, SqL.of (same_upd hz _ _ hxs)⟩, for_list (K := K) (a := a) (xs := xs) (fun i σ H' => ∃ (v2 v3 v4 v5 v6 : Option V), σ = [some (.ref a), some (.ref z), v2, v3, v4, v5, v6] ∧ Same H H' ∧ H' z = some (.lst (nints (capsL (F.take i)))))
      ⟨none, none, none, none, none, rfl, same_upd hz, upd_same⟩ (fun i σ H' _ ⟨_, _, _, _, _, _, b, _⟩ => SqL.of (b _ _ hxs)) ?_ ?_⟩
    · rintro i y σ H' hi ⟨v2, v3, v4, v5, v6, rfl, s1, hZ⟩
      have hil : i < F.length := by rw [← hxl]; exact (List.getElem?_eq_some_iff.mp hi).1
      obtain ⟨_, c, f1, f2, _, f3⟩ := hF.ix (List.getElem?_eq_getElem hil)
      rw [hxs] at f1
      cases f1
      rw [hi] at f2
      obtain rfl := Option.some.inj f2
      obtain ⟨ys, g1, gl⟩ := f3.len
      have hAl : (capsL (F.take i)).length = i := by rw [capsL_length, List.length_take]; omega
      refine ⟨_, rfl, c, rfl, ⟨_, SqL.of (s1 _ _ g1)⟩, for_list (K := K) (a := c) (xs := ys) (fun j σ H2 => H2 = H' ∧ ∃ (v4 v5 v6 : Option V), σ = [some (.ref a), some (.ref z), some (.ref c), some (.int ((((F[i].take j).map fun w => prodM (capsL (F.take i)) w.2).sum : Nat) : Int)), v4, v5, v6])
        ⟨rfl, v4, v5, v6, rfl⟩ (fun j σ H2 _ ⟨e, _⟩ => by rw [e]; exact SqL.of (s1 _ _ g1)) ?_ ?_⟩
      · rintro j x σ H2 hj ⟨rfl, v4, v5, v6, rfl⟩
        have hjl : j < F[i].length := by rw [← gl]; exact (List.getElem?_eq_some_iff.mp hj).1
        obtain ⟨_, wa, q1, q2, _, q3⟩ := f3.ix (List.getElem?_eq_getElem hjl)
        rw [g1] at q1
        cases q1
        rw [hj] at q2
        obtain rfl := Option.some.inj q2
        obtain ⟨ca, w1, w2⟩ := q3
        refine ⟨_, rfl, wa, _, 1, .ref ca, rfl, rfl, SqT.of (s1 _ _ w1), rfl, ca, rfl, ⟨_, SqT.of (s1 _ _ w2)⟩, for_tup (K := K) (a := ca) (xs := nints F[i][j].2) (fun m σ H3 => H3 = H2 ∧ ∃ (pr : Nat) (v6 : Option V),
          σ = [some (.ref a), some (.ref z), some (.ref c), some (.int ((((F[i].take j).map fun w => prodM (capsL (F.take i)) w.2).sum : Nat) : Int)), some (.ref wa), some (.int (pr : Nat)), v6] ∧ pr * prodM (capsL (F.take i)) (F[i][j].2.drop m) = prodM (capsL (F.take i)) F[i][j].2)
          ⟨rfl, 1, v6, rfl, Nat.one_mul _⟩ (fun m σ H3 _ ⟨e, _⟩ => by rw [e]; exact SqT.of (s1 _ _ w2)) ?_ ?_⟩
        · rintro m x σ H3 hm ⟨rfl, pr, v6, rfl, hpr⟩
          have hml : m < F[i][j].2.length := by
            have := (List.getElem?_eq_some_iff.mp hm).1
            rwa [nints_length] at this
          have hcm : F[i][j].2[m]? = some F[i][j].2[m] := List.getElem?_eq_getElem hml
          rw [nints_get hcm] at hm
          obtain rfl := Option.some.inj hm
          have hch : F[i][j].2[m] < i := hchi i F[i] (List.getElem?_eq_getElem hil) F[i][j] (List.getElem_mem hjl) _ (List.getElem_mem hml)
          have hA : (capsL (F.take i))[F[i][j].2[m]]? = some ((capsL (F.take i)).getD F[i][j].2[m] 0) := by
            rw [List.getD_eq_getElem?_getD, List.getElem?_eq_getElem (by omega)]; rfl
          have hle : (capsL (F.take i)).getD F[i][j].2[m] 0 ≤ 120 := by
            rw [capsL_take hch (by omega)]
            exact hcap _ (by omega)
          have hd := prodM_drop (A := capsL (F.take i)) hcm
          generalize hx : (capsL (F.take i)).getD F[i][j].2[m] 0 = x at hA hle hd
          have emax : (if ((x : Nat) : Int) > 1 then ((x : Nat) : Int) else 1) = ((Nat.max 1 x : Nat) : Int) := by
            by_cases h1 : (x : Int) > 1
            · rw [if_pos h1, show Nat.max 1 x = x from Nat.max_eq_right (by omega)]
            · rw [if_neg h1, show Nat.max 1 x = 1 from Nat.max_eq_left (by omega)]; rfl
          refine ⟨_, rfl, _, rfl, _, rfl, z, _, _, .int (x : Nat), rfl, rfl, SqL.of hZ, atI_nat (nints_get hA), _, _, rfl, ?_⟩
          rw [emax]
          have hm120 : Nat.max 1 x ≤ 120 := Nat.max_le.mpr ⟨by omega, hle⟩
          refine ⟨_, _, rfl, rfl, .inr ⟨?_, ?_⟩, ?_⟩
          · have : (-(2 ^ 64) : Int) < 0 := by decide
            omega
          · have : (120 : Int) < 2 ^ 64 := by decide
            omega
          · refine ⟨rfl, pr * Nat.max 1 x, some (.int ((F[i][j].2[m] : Nat) : Int)), ?_, ?_⟩
            · rw [Int.natCast_mul]; rfl
            · rw [← hpr, hd, Nat.mul_assoc]
        · rintro σ H3 ⟨rfl, pr, v6, rfl, hpr⟩
          rw [nints_length, List.drop_length, prodM, Nat.mul_one] at hpr
          subst hpr
          refine ⟨_, rfl, _, rfl, _, _, rfl, rfl, rfl, some (.ref wa), some (.int ((prodM (capsL (F.take i)) F[i][j].2 : Nat) : Int)), v6, ?_⟩
          rw [sum_take_succ _ (List.getElem?_eq_getElem hjl), Int.natCast_add]; rfl
      · rintro σ H2 ⟨rfl, v4, v5, v6, rfl⟩
        rw [gl, List.take_length]
        refine ⟨_, rfl, .inl ⟨rfl, _, SqL.of hZ⟩, _, rfl, z, _, _, rfl, rfl, hZ, ?_, _, _, _, _, _, rfl, ?_, ?_⟩
        · rw [nints_length, hAl]
          have := big20
          omega
        · exact fun b o e => by rw [upd_ne (ne_of_none e hz)]; exact s1 b o e
        · rw [upd_same, take_snoc (List.getElem?_eq_getElem hil), capsL_snoc, nints_snoc]
          rfl
    · rintro σ H' ⟨v2, v3, v4, v5, v6, rfl, s1, hZ⟩
      rw [hxl, List.take_length] at hZ
      exact ⟨_, rfl, k H' z s1 hZ⟩
end
end K24
namespace K24
open PySem L2 K24R
section
variable {P : Program} {w : World} {K : PySem.W.Frag} {mg : Str → Option Value} {base : Heap} {C : Addr}
theorem nth_small {ns : List Nat} {b : Nat} (h : ∀ n ∈ ns, n ≤ b) {r : Int} (h0 : 0 ≤ r) (h1 : r < (ns.length : Nat)) : ∃ n : Nat, n ≤ b ∧ atI (nints ns) r = some (.int (n : Nat)) := by
  have hl : r.toNat < ns.length := by omega
  exact ⟨ns[r.toNat], h _ (List.getElem_mem hl), at_of (j := r.toNat) (by omega) (nints_get (List.getElem?_eq_getElem hl))⟩
theorem Keep.ret {X : Addr → Prop} {t : Addr} {H1 H2 : Hp} (hX : X t) (ht : TapeAt H1 t) (k : Keep t H1 H2) : Ret X H1 H2 := fun b o e c => by
  refine k b o e fun z => ?_
  subst z
  rcases c with c | ⟨xs, rfl⟩
  · exact c hX
  · obtain ⟨_, _, _, _, h⟩ := ht
    rw [h] at e
    cases e
theorem TapeAt.same {H H' : Hp} {t : Addr} (h : TapeAt H t) (e : Same H H') : TapeAt H' t := let ⟨c, b, n, d, q⟩ := h; ⟨c, b, n, d, e _ _ q⟩
theorem TapeAt.dom {H : Hp} {t : Addr} (h : TapeAt H t) : Dom H t := let ⟨_, _, _, _, q⟩ := h; dom_some q
/-- the entries so far, at z; they do not lean on Y -/
structure EInv (H : Hp) (t z : Addr) (Y : Addr → Prop) (F : Fo) (H' : Hp) : Prop where
  keep : Keep t H H'
  tape : TapeAt H' t
  lst : ∃ ds : List Addr, H' z = some (.lst (ds.map V.ref)) ∧ Paired (EntAt (fun b => Dom H b ∨ b = z ∨ Y b) H') ds F
theorem EInv.grow {H H1 H2 : Hp} {t z : Addr} {Y : Addr → Prop} {F : Fo} (hz : z ≠ t) (ht : Dom H t) (b : EInv H t z Y F H1) (k : Keep t H1 H2) (t2 : TapeAt H2 t) : EInv H t z Y F H2 := by
  obtain ⟨ds, h1, h2⟩ := b.lst
  exact ⟨b.keep.trans k, t2, ds, k _ _ h1 hz, Paired.imp (fun _ _ y => entM.ret (Keep.ret (.inl ht) b.tape k) y) h2⟩
theorem EInv.same {H H1 H2 : Hp} {t z : Addr} {Y : Addr → Prop} {F : Fo} (hz : z ≠ t) (ht : Dom H t) (b : EInv H t z Y F H1) (k : Same H1 H2) : EInv H t z Y F H2 := b.grow hz ht (Same.keep k) (b.tape.same k)
theorem EInv.plus {H H1 : Hp} {t z D : Addr} {Y : Addr → Prop} {F : Fo} (b : EInv H t z Y F H1) (hD : H1 D = none) : EInv H t z (fun c => Y c ∨ c = D) F H1 := by
  obtain ⟨ds, h1, h2⟩ := b.lst
  refine ⟨b.keep, b.tape, ds, h1, Paired.imp (fun d en y => ?_) h2⟩
  obtain ⟨n, as, y1, y2⟩ := y
  refine ⟨fun q => ?_, as, y1, y2⟩
  rcases q with q | q | q | q
  · exact n (.inl q)
  · exact n (.inr (.inl q))
  · exact n (.inr (.inr q))
  · rw [q, hD] at y1
    cases y1
theorem EInv.less {H H1 : Hp} {t z : Addr} {Y Y' : Addr → Prop} {F : Fo} (b : EInv H t z Y F H1) (h : ∀ c, Y' c → Y c) : EInv H t z Y' F H1 := by
  obtain ⟨ds, h1, h2⟩ := b.lst
  refine ⟨b.keep, b.tape, ds, h1, Paired.imp (fun d en y => entM.anti (fun c q => ?_) y) h2⟩
  rcases q with q | q | q
  · exact .inl q
  · exact .inr (.inl q)
  · exact .inr (.inr (h c q))
/-- a list outside the entries is changed -/
theorem EInv.put {H H1 : Hp} {t z D : Addr} {Y : Addr → Prop} {F : Fo} {l l' : List V} (b : EInv H t z Y F H1) (hY : Y D) (hD : H1 D = some (.lst l)) (h1 : ¬ Dom H D) (h2 : D ≠ z) (h3 : D ≠ t) : EInv H t z Y F (upd H1 D (.lst l')) := by
  obtain ⟨ds, u1, u2⟩ := b.lst
  refine ⟨fun c o q n => ?_, ?_, ds, by rw [upd_ne h2.symm]; exact u1, Paired.imp (fun _ _ y => entM.ret (Ret.upd (.inr (.inr hY)) hD fun _ z => by cases z) y) u2⟩
  · rw [upd_ne (fun q1 => h1 (by rw [← q1]; exact dom_some q))]
    exact b.keep c o q n
  · obtain ⟨c, d, n, m, q⟩ := b.tape
    exact ⟨c, d, n, m, by rw [upd_ne h3.symm]; exact q⟩
/-- the ways so far, at e -/
structure WInv (H : Hp) (t z e : Addr) (en : List Way) (H' : Hp) : Prop where
  fresh : ¬ Dom H e ∧ e ≠ z ∧ e ≠ t
  lst : ∃ ds : List Addr, H' e = some (.lst (ds.map V.ref)) ∧ Paired (WayAt No H') ds en
theorem WInv.grow {H H1 H2 : Hp} {t z e : Addr} {en : List Way} (ht : TapeAt H1 t) (b : WInv H t z e en H1) (k : Keep t H1 H2) : WInv H t z e en H2 := by
  obtain ⟨ds, h1, h2⟩ := b.lst
  refine ⟨b.fresh, ds, k _ _ h1 b.fresh.2.2, Paired.imp (fun _ _ y => ?_) h2⟩
  obtain ⟨c, y1, y2⟩ := y
  have r : Ret (fun b => b = t) H1 H2 := Keep.ret rfl ht k
  exact ⟨c, r.tup y1, r.tup y2⟩
theorem WInv.same {H H1 H2 : Hp} {t z e : Addr} {en : List Way} (b : WInv H t z e en H1) (k : Same H1 H2) : WInv H t z e en H2 := by
  obtain ⟨ds, h1, h2⟩ := b.lst
  exact ⟨b.fresh, ds, k _ _ h1, Paired.imp (fun _ _ y => wayM.same k y) h2⟩
structure WaysOk (F : Fo) (en : List Way) : Prop where
  nn : ∀ w ∈ en, 0 ≤ w.1
  chi : ∀ w ∈ en, ∀ c ∈ w.2, c < F.length
  kids : ∀ w ∈ en, w.2.length ≤ 6
theorem WaysOk.snoc {F : Fo} {en : List Way} {w : Way} (h : WaysOk F en) (h1 : 0 ≤ w.1) (h2 : ∀ c ∈ w.2, c < F.length) (h3 : w.2.length ≤ 6) : WaysOk F (en ++ [w]) := by
  refine ⟨fun v hv => ?_, fun v hv => ?_, fun v hv => ?_⟩ <;> rcases List.mem_append.mp hv with hv | hv
  · exact h.nn v hv
  · rw [List.mem_singleton.mp hv]; exact h1
  · exact h.chi v hv
  · rw [List.mem_singleton.mp hv]; exact h2
  · exact h.kids v hv
  · rw [List.mem_singleton.mp hv]; exact h3
theorem chi_snoc {F : Fo} {en : List Way} (h : WF F) (h2 : ∀ w ∈ en, ∀ c ∈ w.2, c < F.length) : ∀ (e : Nat) (en' : List Way), (F ++ [en])[e]? = some en' → ∀ w ∈ en', ∀ c ∈ w.2, c < e := by
  intro e en' he
  rcases Nat.lt_trichotomy e F.length with q | q | q
  · rw [List.getElem?_append_left q] at he; exact h.chi e en' he
  · subst q
    have : en = en' := by simpa using he
    subst this
    exact h2
  · rw [List.getElem?_eq_none (by simp; omega)] at he; cases he
theorem mem_snoc {α : Type} {P : α → Prop} {l : List α} {x : α} (h : ∀ y ∈ l, P y) (hx : P x) : ∀ y ∈ l ++ [x], P y := fun y hy => by
  rcases List.mem_append.mp hy with hy | hy
  · exact h y hy
  · rw [List.mem_singleton.mp hy]; exact hx
theorem okF_snoc {F : Fo} {en : List Way} (h : OkF F) (hw : WaysOk F en) (h1 : F.length + 1 ≤ 9) (h2 : en.length ≤ 5) (h3 : capOf (capsL F) en ≤ 120) : OkF (F ++ [en]) :=
  ⟨h.wf.snoc hw.nn hw.chi, by simpa using h1, mem_snoc h.ways h2, mem_snoc h.kids hw.kids, by rw [capsL_snoc]; exact mem_snoc h.caps h3⟩
theorem okF_nil : OkF [] := ⟨WF.nil, by simp, by simp, by simp, by simp [capsL]⟩
def spEntries : Sp := fun vs H Q _ => ∃ t : Addr, vs = [.ref t, .int 120] ∧ TapeAt H t ∧ ∀ (H' : Hp) (p : Addr) (F : Fo), Keep t H H' → TapeAt H' t → OkF F → ForAt (Dom H) H' p F → Q (.ref p) H'
abbrev nEntries : List Str := ["_law_tape_here", "_law_most", "_law_entries_here", "_law_k", "_law_entry", "_law_j", "_law_children", "_law_way", "_law_wider", "_law_i"]
theorem scEntries : FnScope nEntries ["_law_tape_here", "_law_most"] (defScope sEntries) := ⟨rfl, rfl, rfl, by decide +kernel, rfl, by decide +kernel, by decide +kernel⟩
theorem ok_entries {f fT fC fA fZ : Addr} {fd fdT fdC fdA fdZ : FuncData} (Fn : Fun K "_law_entries" "_law_entries" sEntries f fd) (T : Txt K mg C)
    (FT : Fun K "_law_take" "_law_take" sTake fT fdT) (bT : Binds K fdT ["_law_tape_here", "_law_many"] []) (gT : mg "_law_take" = some (.ref fT))
    (FC : Fun K "_law_cost" "_law_cost" sCost fC fdC) (bC : Binds K fdC ["_law_tape_here"] []) (gC : mg "_law_cost" = some (.ref fC))
    (FA : Fun K "_law_caps" "_law_caps" sCaps fA fdA) (bA : Binds K fdA ["_law_entries_here"] []) (gA : mg "_law_caps" = some (.ref fA))
    (FZ : Fun K "_law_sizes" "_law_sizes" sSizes fZ fdZ) (bZ : Binds K fdZ ["_law_entries_here"] []) (gZ : mg "_law_sizes" = some (.ref fZ)) :
    FnOk P w K mg base CX0 3 f fd ["_law_tape_here", "_law_most"] spEntries := by
  have GT : FnOk P w K mg base CX0 1 fT fdT ["_law_tape_here", "_law_many"] spTake := ok_take FT T
  have GC : FnOk P w K mg base CX0 2 fC fdC ["_law_tape_here"] spCost := ok_cost FC T FT bT gT
  have GA : FnOk P w K mg base CX0 1 fA fdA ["_law_entries_here"] spCaps := ok_caps FA T
  have GZ : FnOk P w K mg base CX0 1 fZ fdZ ["_law_entries_here"] spSizes := ok_sizes FZ T
  refine Fn.ok scEntries (fun vs H Q E h => ?_) (fun cdv A outer s H vs Q E hr h => ?_)
  · obtain ⟨t, rfl, _⟩ := h
    rfl
  · obtain ⟨t, rfl, hT, k⟩ := h
    have hr1 : Room 1 _ := hr.mono (by decide)
    have nd := scEntries.nd
    refine ⟨_, pss_cons (ps_set (i := 2) nd rfl (Or.inl rfl) (pe_lst pa_nil))
      (pss_cons (ps_for PassesOwn.never rfl (pi_range1 rfl T.range (pa_cons (pe_ix ix_list (pe_lst (pa_cons pe_int (pa_cons pe_int (pa_cons pe_int (pa_cons pe_int (pa_cons pe_int pa_nil)))))) (pe_call GT hr1 rfl gT FT.kp bT .nil pass0 (pa_cons (pv 0) (pa_cons pe_int pa_nil))) (fun _ _ => rfl)) pa_nil)) (pg_name (i := 3) nd rfl (Or.inr rfl))
        (pss_cons (ps_set (i := 4) nd rfl (Or.inl rfl) (pe_lst pa_nil))
        (pss_cons (ps_for PassesOwn.never rfl (pi_range1 rfl T.range (pa_cons (pe_ix ix_list (pe_lst (pa_cons pe_int (pa_cons pe_int (pa_cons pe_int (pa_cons pe_int (pa_cons pe_int (pa_cons pe_int pa_nil))))))) (pe_call GT hr1 rfl gT FT.kp bT .nil pass0 (pa_cons (pv 0) (pa_cons pe_int pa_nil))) (fun _ _ => rfl)) pa_nil)) (pg_name (i := 5) nd rfl (Or.inl rfl))
          (pss_cons (ps_set (i := 6) nd rfl (Or.inl rfl) (pe_lst pa_nil))
          (C8.pss_cut (ps_if (pt_cmpR op_gt (pv 3) pe_int (nomark _))
            (pss_one (ps_setLc (i := 6) (own := [("_law_i", 9)]) (g := gName 9) (tt := tYes) rfl nd rfl rfl (sw_true rfl rfl rfl (by decide +kernel))
              (pi_range1 rfl T.range (pa_cons (pe_ix ix_list (pe_lst (pa_cons pe_int (pa_cons pe_int (pa_cons pe_int (pa_cons pe_int (pa_cons pe_int (pa_cons pe_int pa_nil))))))) (pe_call GT hr1 rfl gT FT.kp bT .nil pass0 (pa_cons (pv 0) (pa_cons pe_int pa_nil))) (fun _ _ => rfl)) pa_nil))
              (blkOk_by (N := nEntries) (sc := defScope sEntries) (by decide +kernel)) (fun _ _ _ _ _ => pg_name (i := 9) nd rfl (Or.inl rfl)) (fun _ _ _ _ _ => pts_nil)
              (fun _ _ _ _ _ => pe_call GT hr1 rfl gT FT.kp bT .nil pass0 (pa_cons (pv 0) (pa_cons (pv 3) pa_nil))))) pss_nil)
          (pss_cons (ps_set (i := 7) nd rfl (Or.inl rfl) (pe_tup (pa_cons (pe_call GC hr rfl gC FC.kp bC .nil pass0 (pa_cons (pv 0) pa_nil)) (pa_cons (pe_callTy call_tuple_of (by rfl) T.tuple (by decide +kernel) (pa_cons (pv 6) pa_nil)) pa_nil))))
          (pss_cons (ps_set (i := 8) nd rfl (Or.inl rfl) (pe_op op_cat (pv 2) (pe_lst (pa_cons (pe_op op_cat (pv 4) (pe_lst (pa_cons (pv 7) pa_nil))) pa_nil))))
          (pss_one (ps_if (PW.pt (pw_and (pt_cmpR op_le (pe_ix ix_list (pe_call GA hr1 rfl gA FA.kp bA .nil pass0 (pa_cons (pv 8) pa_nil)) (pe_un un_neg pe_int) (fun _ _ => rfl)) (pv 1) (nomark _))
              (pw_and1 (pt_cmpR op_le (pe_ix ix_list (pe_call GZ hr1 rfl gZ FZ.kp bZ .nil pass0 (pa_cons (pv 8) pa_nil)) (pe_un un_neg pe_int) (fun _ _ => rfl)) pe_int (nomark _)))))
            (pss_one (ps_expr (pe_bm PySem.F.plainAttrs_list PySem.F.slot_list_append PySem.F.type_list_append mt_append (pv 4) (pa_cons (pv 7) pa_nil)))) pss_nil)))))))
        (pss_one (ps_expr (pe_bm PySem.F.plainAttrs_list PySem.F.slot_list_append PySem.F.type_list_append mt_append (pv 2) (pa_cons (pv 4) pa_nil)))))))
      (pss_one (ps_ret (pv 2)))), ?_⟩
    have htD : Dom H t := hT.dom
    refine ⟨Nat.zero_le _, fun z hz => ?_⟩
    have nzt : z ≠ t := fun e => by subst e; exact htD hz
    have nzk : ¬ Dom H z := none_dom hz
    refine ⟨(by show 5 ≤ sizeLine; decide), fun p hp => ⟨_, rfl, t, 5, rfl, (hT.same (same_upd hz)).same (same_upd hp), by decide, by decide, fun r1 H1 r10 r15 k1 t1 => ?_⟩⟩
    have np1 : p ≠ t := fun e => by
      subst e
      exact (hT.same (same_upd hz)).dom hp
    obtain ⟨n1, hn19, hn1⟩ := nth_small (ns := [1, 2, 4, 6, 9]) (b := 9) (by decide) r10 r15
    have e1 : EInv H t z No [] H1 := ⟨((Same.keep (same_upd hz)).trans (Same.keep (same_upd hp))).trans k1, t1, [], k1 _ _ (same_upd hp _ _ upd_same) nzt, .nil⟩
    refine ⟨p, nints [1, 2, 4, 6, 9], r1, .int (n1 : Nat), rfl, rfl, SqL.of (k1 p _ upd_same np1), hn1, _, rfl, ?_, ?_, for_range (lo := 0) (n := n1) (fun i σ H' => ∃ (F : Fo) (v3 v4 v5 v6 v7 v8 : Option V), σ = [some (.ref t), some (.int 120), some (.ref z), v3, v4, v5, v6, v7, v8, none] ∧ EInv H t z No F H' ∧ OkF F ∧ F.length = i)
      ⟨[], none, none, none, none, none, none, rfl, e1, okF_nil, rfl⟩ ?_ ?_⟩
    · have : (-(2 ^ 62) : Int) < 0 := by decide
      omega
    · have : (9 : Int) < 2 ^ 62 := by decide
      omega
    · rintro i σ H1 hi ⟨F, v3, v4, v5, v6, v7, v8, rfl, I1, okF, hFl⟩
      rw [Int.zero_add]
      have hD1 : Dom H1 t := I1.tape.dom
      -- entry = []
      refine ⟨Nat.zero_le _, fun e he => ?_⟩
      have net : e ≠ t := fun q => by subst q; exact hD1 he
      have nez : e ≠ z := fun q => by
        subst q
        obtain ⟨ds, q1, _⟩ := I1.lst
        rw [q1] at he
        cases he
      have neH : ¬ Dom H e := fun q => by
        cases q1 : H e with
        | none => exact q q1
        | some o =>
          have := I1.keep e o q1 net
          rw [this] at he
          cases he
      have I2 := (I1.plus he).same nzt htD (same_upd (o := .lst []) he)
      have W2 : WInv H t z e [] (upd H1 e (.lst [])) := ⟨⟨neH, nez, net⟩, [], upd_same, .nil⟩
      refine ⟨(by show 6 ≤ sizeLine; decide), fun q hq => ⟨_, rfl, t, 6, rfl, I2.tape.same (same_upd hq), by decide, by decide, fun r3 H3 r30 r36 k3 t3 => ?_⟩⟩
      have nqt : q ≠ t := fun z => by subst z; exact I2.tape.dom hq
      obtain ⟨n3, hn35, hn3⟩ := nth_small (ns := [0, 1, 1, 2, 3, 5]) (b := 5) (by decide) r30 r36
      have I3 := (I2.same nzt htD (same_upd (o := .lst (nints [0, 1, 1, 2, 3, 5])) hq)).grow nzt htD k3 t3
      have W3 := (W2.same (same_upd (o := .lst (nints [0, 1, 1, 2, 3, 5])) hq)).grow (I2.tape.same (same_upd hq)) k3
      refine ⟨q, nints [0, 1, 1, 2, 3, 5], r3, .int (n3 : Nat), rfl, rfl, SqL.of (k3 q _ upd_same nqt), hn3, _, rfl, ?_, ?_, for_range (lo := 0) (n := n3) (fun j σ H' => ∃ (en : List Way) (v5 v6 v7 v8 : Option V), σ = [some (.ref t), some (.int 120), some (.ref z), some (.int (i : Nat)), some (.ref e), v5, v6, v7, v8, none] ∧ EInv H t z (fun c => No c ∨ c = e) F H' ∧ WInv H t z e en H' ∧ WaysOk F en ∧ en.length ≤ j ∧ capOf (capsL F) en ≤ 120)
        ⟨[], v5, v6, v7, v8, rfl, I3, W3, ⟨by simp, by simp, by simp⟩, Nat.le_refl _, by simp [capOf]⟩ ?_ ?_⟩
      · have : (-(2 ^ 62) : Int) < 0 := by decide
        omega
      · have : (9 : Int) < 2 ^ 62 := by decide
        omega
      · rintro j σ H3 hj ⟨en, v5, v6, v7, v8, rfl, I3, W3, wok, hel, hcap⟩
        rw [Int.zero_add]
        -- children = []
        refine ⟨Nat.zero_le _, fun c0 hc0 => ?_⟩
        have I4 := I3.same nzt htD (same_upd (o := .lst []) hc0)
        have W4 := W3.same (same_upd (o := .lst []) hc0)
        refine ⟨fun σ H' => ∃ (ch : Addr) (ls : List Nat), σ = [some (.ref t), some (.int 120), some (.ref z), some (.int (i : Nat)), some (.ref e), some (.int (j : Nat)), some (.ref ch), v7, v8, none] ∧ ch ≠ t ∧ EInv H t z (fun c => No c ∨ c = e) F H' ∧ WInv H t z e en H' ∧ H' ch = some (.lst (nints ls)) ∧ ls.length ≤ 6 ∧ ∀ c ∈ ls, c < i, ?_, ?_⟩
        · -- if k > 0
          refine ⟨_, rfl, _, _, rfl, rfl, _, rfl, ?_⟩
          refine ite2 (fun hc => ?_) (fun hc => ?_)
          · have hi0 : 0 < i := by
              have : (0 : Int) < (i : Nat) := of_decide_eq_true hc
              omega
            refine ⟨(by show 6 ≤ sizeLine; decide), fun q4 hq4 => ⟨_, rfl, t, 6, rfl, I4.tape.same (same_upd hq4), by decide, by decide, fun r5 H5 r50 r56 k5 t5 => ?_⟩⟩
            have nq4 : q4 ≠ t := fun z => by subst z; exact I4.tape.dom hq4
            obtain ⟨n5, hn56, hn5⟩ := nth_small (ns := [0, 1, 2, 2, 3, 6]) (b := 6) (by decide) r50 r56
            have I5 := (I4.same nzt htD (same_upd (o := .lst (nints [0, 1, 2, 2, 3, 6])) hq4)).grow nzt htD k5 t5
            have W5 := (W4.same (same_upd (o := .lst (nints [0, 1, 2, 2, 3, 6])) hq4)).grow (I4.tape.same (same_upd hq4)) k5
            refine ⟨q4, nints [0, 1, 2, 2, 3, 6], r5, .int (n5 : Nat), rfl, rfl, SqL.of (k5 q4 _ upd_same nq4), hn5, _, rfl, ?_, ?_, fun D hD => lc_range (lo := 0) (n := n5) (fun m H' => EInv H t z (fun c => (No c ∨ c = e) ∨ c = D) F H' ∧ WInv H t z e en H' ∧ ∃ ls : List Nat, H' D = some (.lst (nints ls)) ∧ ls.length = m ∧ ∀ c ∈ ls, c < i)
              ⟨(I5.plus hD).same nzt htD (same_upd hD), W5.same (same_upd hD), [], upd_same, rfl, by simp⟩ ?_ ?_⟩
            · have : (-(2 ^ 62) : Int) < 0 := by decide
              omega
            · have : (9 : Int) < 2 ^ 62 := by decide
              omega
            · rintro m H6 hm ⟨I6, W6, ls, hls, hll, hlt⟩
              have nDt : D ≠ t := fun z => by
                subst z
                exact I5.tape.dom hD
              have nDz : D ≠ z := fun q => by
                subst q
                obtain ⟨ds, q1, _⟩ := I5.lst
                rw [q1] at hD
                cases hD
              have nDe : D ≠ e := fun q => by
                subst q
                obtain ⟨ds, q1, _⟩ := W5.lst
                rw [q1] at hD
                cases hD
              have nDH : ¬ Dom H D := fun q => by
                cases q1 : H D with
                | none => exact q q1
                | some o =>
                  have := I5.keep D o q1 nDt
                  rw [this] at hD
                  cases hD
              refine ⟨rfl, ?_⟩
              refine ⟨_, rfl, _, rfl, t, (i : Nat), rfl, I6.tape, by omega, by omega, fun r7 H7 r70 r7i k7 t7 => ?_⟩
              have I7 := I6.grow nzt htD k7 t7
              have W7 := W6.grow I6.tape k7
              have hD7 := k7 D _ hls nDt
              refine ⟨nints ls, hD7, ?_, ?_, ?_, ls ++ [r7.toNat], ?_, by rw [List.length_append, hll]; rfl, mem_snoc hlt (by omega)⟩
              · rw [nints_length]
                have := big20
                omega
              · exact I7.put (.inr rfl) hD7 nDH nDz nDt
              · obtain ⟨ds7, u1, u2⟩ := W7.lst
                refine ⟨W7.fresh, ds7, by rw [upd_ne nDe.symm]; exact u1, Paired.imp (fun _ _ y => ?_) u2⟩
                obtain ⟨c, y1, y2⟩ := y
                have r : Ret (fun b => b = D) H7 (upd H7 D (.lst (nints ls ++ [V.int r7]))) := Ret.upd rfl hD7 (fun _ z => by cases z)
                exact ⟨c, r.tup y1, r.tup y2⟩
              · rw [upd_same, nints_snoc, Int.toNat_of_nonneg r70]
            · rintro H6 ⟨I6, W6, ls, hls, hll, hlt⟩
              exact ⟨D, ls, rfl, fun z => by subst z; exact I5.tape.dom hD, I6.less (fun _ => .inl), W6, hls, by omega, hlt⟩
          · exact ⟨c0, [], rfl, fun z => by subst z; exact I3.tape.dom hc0, I4, W4, upd_same, by simp, by simp⟩
        · rintro σ H5 ⟨ch, ls, rfl, nct, I5, W5, hch, hl6, hlt⟩
          -- way = (cost, tuple(children))
          refine ⟨_, rfl, t, rfl, I5.tape, fun x H6 hx k6 t6 => ?_⟩
          have I6 := I5.grow nzt htD k6 t6
          have W6 := W5.grow I5.tape k6
          have hch6 : H6 ch = some (.lst (nints ls)) := k6 ch _ hch nct
          refine ⟨_, rfl, ch, _, rfl, .inl ⟨SqL.of hch6, fun u hu => ?_⟩⟩
          refine ⟨(by show 2 ≤ sizeLine; decide), fun wa hwa => ?_⟩
          have su : Same H6 (upd (upd H6 u (.tup (nints ls))) wa (.tup [.int x, .ref u])) := (same_upd hu).trans (same_upd hwa)
          have nuw : u ≠ wa := fun z => by
            rw [z, upd_same] at hwa
            cases hwa
          have hWay : WayAt No (upd (upd H6 u (.tup (nints ls))) wa (.tup [.int x, .ref u])) wa (x, ls) := ⟨u, upd_same, by rw [upd_ne nuw, upd_same]⟩
          have I7 := I6.same nzt htD su
          have W7 := W6.same su
          generalize upd (upd H6 u (.tup (nints ls))) wa (.tup [.int x, .ref u]) = H7 at hWay I7 W7
          obtain ⟨dz, z1, z2⟩ := I7.lst
          obtain ⟨de, d1, d2⟩ := W7.lst
          have hdzl : dz.length = F.length := Paired.length z2
          have hdel : de.length = en.length := Paired.length d2
          -- wider
          refine ⟨_, rfl, _, rfl, _, rfl, (by show 1 ≤ sizeLine; decide), fun m1 hm1 => ⟨e, m1, _, _, rfl, rfl, same_upd hm1 _ _ d1, upd_same, ?_, fun m2 hm2 => ⟨(by show 1 ≤ sizeLine; decide), fun m3 hm3 => ?_⟩⟩⟩
          · have := big20
            rw [List.length_map]
            show _ + 1 ≤ _
            omega
          have sm : Same H7 (upd (upd (upd H7 m1 (.lst [.ref wa])) m2 (.lst (de.map V.ref ++ [.ref wa]))) m3 (.lst [.ref m2])) := ((same_upd hm1).trans (same_upd hm2)).trans (same_upd hm3)
          refine ⟨z, m3, _, _, rfl, rfl, sm _ _ z1, upd_same, ?_, fun m4 hm4 => ?_⟩
          · have := big20
            rw [List.length_map]
            show _ + 1 ≤ _
            omega
          have sm4 := sm.trans (same_upd (o := .lst (dz.map V.ref ++ [V.ref m2])) hm4)
          have n23 : m2 ≠ m3 := fun z => by
            rw [z, upd_same] at hm3
            cases hm3
          have n24 : m2 ≠ m4 := fun z => by
            rw [← z, upd_ne n23, upd_same] at hm4
            cases hm4
          have hWide : ForAt No (upd (upd (upd (upd H7 m1 (.lst [.ref wa])) m2 (.lst (de.map V.ref ++ [.ref wa]))) m3 (.lst [.ref m2])) m4 (.lst (dz.map V.ref ++ [V.ref m2]))) m4 (F ++ [en ++ [(x, ls)]]) := by
            refine ⟨fun q => q, dz ++ [m2], by rw [upd_same, List.map_append]; rfl, Paired.snoc (Paired.imp (fun _ _ y => entM.same sm4 (entM.no y)) z2) ⟨fun q => q, de ++ [wa], ?_, Paired.snoc (Paired.imp (fun _ _ y => wayM.same sm4 y) d2) (wayM.same sm4 hWay)⟩⟩
            rw [upd_ne n24, upd_ne n23, upd_same, List.map_append]; rfl
          have I8 := I7.same nzt htD sm4
          have W8 := W7.same sm4
          have hWay8 := wayM.same sm4 hWay
          generalize upd (upd (upd (upd H7 m1 (.lst [.ref wa])) m2 (.lst (de.map V.ref ++ [.ref wa]))) m3 (.lst [.ref m2])) m4 (.lst (dz.map V.ref ++ [V.ref m2])) = H8 at hWide I8 W8 hWay8
          have wok2 : WaysOk F (en ++ [(x, ls)]) := wok.snoc hx (by rw [hFl]; exact hlt) hl6
          have hchi := chi_snoc okF.wf wok2.chi
          have hlen10 : (F ++ [en ++ [(x, ls)]]).length ≤ 10 := by
            rw [List.length_append, hFl]
            show i + 1 ≤ 10
            omega
          have hways6 : ∀ v ∈ F ++ [en ++ [(x, ls)]], v.length ≤ 6 := mem_snoc (fun v hv => Nat.le_succ_of_le (okF.ways v hv)) (by
            rw [List.length_append]
            show _ + 1 ≤ 6
            omega)
          have hkids6 : ∀ v ∈ F ++ [en ++ [(x, ls)]], ∀ w ∈ v, w.2.length ≤ 6 := mem_snoc okF.kids wok2.kids
          refine ⟨_, rfl, m4, _, rfl, hWide, hchi, hlen10, hways6, hkids6, fun e he => ?_, fun H9 p9 s9 hp9 => ?_⟩
          · rw [capsL_lt (by rw [List.length_append] at he; simpa using he)]
            exact okF.cap_le e
          rw [capsL_snoc, nints_snoc] at hp9
          have I9 := I8.same nzt htD s9
          have W9 := W8.same s9
          have hWay9 := wayM.same s9 hWay8
          have hWide9 := forM.same s9 hWide
          refine ⟨_, rfl, p9, _, _, _, rfl, rfl, SqL.of hp9, atI_last _ _, _, rfl, _, _, rfl, rfl, _, rfl, ?_⟩
          refine ite2 (fun hc9 => ?_) (fun hc9 => ?_)
          · have hcap9 : capOf (capsL F) (en ++ [(x, ls)]) ≤ 120 := by
              have : ((capOf (capsL F) (en ++ [(x, ls)]) : Nat) : Int) ≤ 120 := of_decide_eq_true hc9
              omega
            refine ⟨_, rfl, m4, _, rfl, hWide9, hchi, hlen10, hways6, hkids6, fun Ha pa na sa hpa hna => ?_⟩
            have Ia := I9.same nzt htD sa
            have Wa := W9.same sa
            have hWaya := wayM.same sa hWay9
            obtain ⟨na', x', rfl⟩ : ∃ na' x', na = na' ++ [x'] := by
              rcases List.eq_nil_or_concat na with q | ⟨l, y, q⟩
              · rw [q, List.length_append] at hna
                cases hna
              · exact ⟨l, y, by rw [q]; simp⟩
            rw [List.map_append] at hpa
            refine ⟨_, rfl, pa, _, _, _, rfl, rfl, SqL.of hpa, atI_last _ _, _, _, rfl, rfl, _, rfl, ?_⟩
            refine ite2 (fun hca => ?_) (fun hca => ?_)
            · obtain ⟨dea, a1, a2⟩ := Wa.lst
              refine ⟨_, rfl, .inl ⟨rfl, _, SqL.of a1⟩, _, rfl, e, _, _, rfl, rfl, a1, ?_, en ++ [(x, ls)], _, _, _, _, rfl, ?_, ?_, wok2, ?_, hcap9⟩
              · have := big20
                rw [List.length_map, Paired.length a2]
                omega
              · exact Ia.put (.inr rfl) a1 Wa.fresh.1 Wa.fresh.2.1 Wa.fresh.2.2
              · refine ⟨Wa.fresh, dea ++ [wa], by rw [upd_same, List.map_append]; rfl, ?_⟩
                have r : Ret (fun b => b = e) Ha (upd Ha e (.lst (dea.map V.ref ++ [V.ref wa]))) := Ret.upd rfl a1 (fun _ z => by cases z)
                have rw1 : ∀ d (v : Way), WayAt No Ha d v → WayAt No (upd Ha e (.lst (dea.map V.ref ++ [V.ref wa]))) d v := fun d v ⟨c, y1, y2⟩ => ⟨c, r.tup y1, r.tup y2⟩
                exact Paired.snoc (Paired.imp rw1 a2) (rw1 _ _ hWaya)
              · rw [List.length_append]
                show _ + 1 ≤ _
                omega
            · exact ⟨en, _, _, _, _, rfl, Ia, Wa, wok, by omega, hcap⟩
          · refine iteF ?_
            exact ⟨en, _, _, _, _, rfl, I9, W9, wok, by omega, hcap⟩
      · rintro σ H4 ⟨en, v5, v6, v7, v8, rfl, I4, W4, wok, hel, hcap⟩
        have I5 := I4.less (Y' := No) fun _ => .inl
        obtain ⟨dz, z1, z2⟩ := I4.lst
        obtain ⟨de, d1, d2⟩ := W4.lst
        refine ⟨_, rfl, .inl ⟨rfl, _, SqL.of z1⟩, _, rfl, z, _, _, rfl, rfl, z1, ?_, F ++ [en], _, _, _, _, _, _, rfl, ?_, okF_snoc okF wok (by omega) (by omega) hcap, by rw [List.length_append, hFl]; rfl⟩
        · have := big20
          have h9 := okF.len
          rw [List.length_map, Paired.length z2]
          omega
        · have hX : Ret (fun b => Dom H b ∨ b = z ∨ No b) H4 (upd H4 z (.lst (dz.map V.ref ++ [V.ref e]))) := Ret.upd (.inr (.inl rfl)) z1 fun _ q => by cases q
          refine ⟨fun c o q n => by rw [upd_ne (fun q1 => nzk (by rw [← q1]; exact dom_some q))]; exact I4.keep c o q n, ?_, dz ++ [e], by rw [upd_same, List.map_append]; rfl, Paired.snoc (Paired.imp (fun _ _ y => ?_) z2) ?_⟩
          · obtain ⟨c, d, n, m, q⟩ := I4.tape
            exact ⟨c, d, n, m, by rw [upd_ne nzt.symm]; exact q⟩
          · exact entM.ret hX (entM.anti (fun c q => by
              rcases q with q | q | q
              · exact .inl q
              · exact .inr (.inl q)
              · exact q.elim) y)
          · refine ⟨fun q => ?_, de, by rw [upd_ne W4.fresh.2.1]; exact d1, Paired.imp (fun _ _ y => ?_) d2⟩
            · rcases q with q | q | q
              · exact W4.fresh.1 q
              · exact W4.fresh.2.1 q
              · exact q
            · obtain ⟨c, y1, y2⟩ := y
              exact ⟨c, hX.tup y1, hX.tup y2⟩
    · rintro σ H' ⟨F, v3, v4, v5, v6, v7, v8, rfl, I1, okF, hFl⟩
      obtain ⟨dz, z1, z2⟩ := I1.lst
      exact ⟨_, rfl, k H' z F I1.keep I1.tape okF ⟨nzk, dz, z1, Paired.imp (fun _ _ y => entM.anti (fun _ => .inl) y) z2⟩⟩
end
end K24
namespace K24
open PySem L2 K24R
section
variable {P : Program} {w : World} {K : PySem.W.Frag} {mg : Str → Option Value} {base : Heap} {C : Addr}
/-! ### check_entries -/
def spCheck : Sp := fun vs H Q _ => ∃ (a : Addr) (F : Fo), vs = [.ref a] ∧ ForAt No H a F ∧ WF F ∧ ∀ H' : Hp, Same H H' → Q .non H'
theorem scCheck : FnScope ["entries", "index", "entry", "cost", "children", "child"] ["entries"] (defScope sCheck) := ⟨rfl, rfl, rfl, by decide +kernel, rfl, by decide +kernel, by decide +kernel⟩
theorem ok_check {f : Addr} {fd : FuncData} (Fn : Fun K "check_entries" "check_entries" sCheck f fd) (T : Txt K mg C) : FnOk P w K mg base CX0 1 f fd ["entries"] spCheck := by
  refine Fn.ok scCheck (fun vs H Q E h => ?_) (fun cdv A outer s H vs Q E hr h => ?_)
  · obtain ⟨a, F, rfl, _⟩ := h
    rfl
  · obtain ⟨a, F, rfl, hF, wf, k⟩ := h
    have nd := scCheck.nd
    refine ⟨_, pss_one (ps_for PassesOwn.never rfl (pi_enum rfl T.enumerate (pa_cons (pv 0) pa_nil)) (pg_tup rfl (pgs_cons (pg_name (i := 1) nd rfl (Or.inl rfl)) (pgs_cons (pg_name (i := 2) nd rfl (Or.inl rfl)) pgs_nil)))
      (pss_one (ps_for PassesOwn.never rfl (pi_list (pv 2)) (pg_tup rfl (pgs_cons (pg_name (i := 3) nd rfl (Or.inl rfl)) (pgs_cons (pg_name (i := 4) nd rfl (Or.inl rfl)) pgs_nil)))
        (pss_cons (ps_if (pt_cmpR op_lt (pv 3) pe_int (nomark _)) (pss_one ps_never) pss_nil)
        (pss_one (ps_for PassesOwn.never rfl (pi_tup (pv 4)) (pg_name (i := 5) nd rfl (Or.inl rfl))
          (pss_one (ps_if (pt_not (pt_chain op_le op_lt pe_int (pv 5) (pv 1))) (pss_one ps_never) pss_nil)))))))), ?_⟩
    obtain ⟨xs, hxs, hxl⟩ := hF.len
    refine ⟨_, rfl, a, xs, rfl, SqL.of hxs, for_it walk_enum (fun i σ H' => ∃ v1 v2 v3 v4 v5 : Option V, σ = [some (.ref a), v1, v2, v3, v4, v5] ∧ Same H H') ⟨_, _, _, _, _, rfl, Same.refl H⟩ (fun i σ H' _ ⟨_, _, _, _, _, _, e⟩ => SqL.of (e _ _ hxs)) ?_ ?_⟩
    · rintro i x σ H1 H2 hi ⟨v1, v2, v3, v4, v5, rfl, s1⟩ ⟨t, y, z, rfl, ht, rfl, hy, hz⟩
      obtain rfl := (Option.some.inj hy)
      have hz : xs[i]? = some z := hz
      have hil : i < F.length := by omega
      obtain ⟨_, c, f1, f2, _, f3⟩ := hF.ix (List.getElem?_eq_getElem hil)
      rw [hxs] at f1
      cases f1
      rw [hz] at f2
      obtain rfl := Option.some.inj f2
      have s2 := s1.trans (same_upd (o := .tup [.int (i : Nat), .ref c]) ht)
      obtain ⟨ys, g1, gl⟩ := f3.len
      refine ⟨t, _, rfl, SqT.of upd_same, rfl, _, _, rfl, _, _, rfl, rfl, ?_⟩
      refine ⟨_, rfl, c, rfl, ⟨_, SqL.of (s2 _ _ g1)⟩, for_list (K := K) (a := c) (xs := ys) (fun j σ H' => ∃ v3 v4 v5 : Option V, σ = [some (.ref a), some (.int (i : Nat)), some (.ref c), v3, v4, v5] ∧ Same H H') ⟨_, _, _, rfl, s2⟩ (fun j σ H' _ ⟨_, _, _, _, e⟩ => SqL.of (e _ _ g1)) ?_ ?_⟩
      · rintro j x σ H3 hj ⟨v3, v4, v5, rfl, s3⟩
        have hjl : j < F[i].length := by rw [← gl]; exact (List.getElem?_eq_some_iff.mp hj).1
        obtain ⟨_, wa, q1, q2, _, q3⟩ := f3.ix (List.getElem?_eq_getElem hjl)
        rw [g1] at q1
        cases q1
        rw [hj] at q2
        obtain rfl := Option.some.inj q2
        obtain ⟨ca, w1, w2⟩ := q3
        have hnn := wf.nn i F[i] (List.getElem?_eq_getElem hil) F[i][j] (List.getElem_mem hjl)
        refine ⟨wa, _, rfl, SqT.of (s3 _ _ w1), rfl, _, _, rfl, _, _, rfl, rfl, ?_⟩
        refine ⟨_, rfl, _, _, rfl, rfl, _, rfl, ?_⟩
        refine ite2 (fun hc => ?_) (fun _ => ?_)
        · have : F[i][j].1 < 0 := of_decide_eq_true hc
          exact absurd this (by omega)
        refine ⟨_, rfl, ca, rfl, ⟨_, SqT.of (s3 _ _ w2)⟩, for_tup (K := K) (a := ca) (xs := nints F[i][j].2) (fun m σ H' => ∃ v5 : Option V, σ = [some (.ref a), some (.int (i : Nat)), some (.ref c), some (.int F[i][j].1), some (.ref ca), v5] ∧ H' = H3) ⟨_, rfl, rfl⟩ (fun m σ H' _ ⟨_, _, e⟩ => by rw [e]; exact SqT.of (s3 _ _ w2)) ?_ ?_⟩
        · rintro m x σ H4 hm ⟨v5, rfl, rfl⟩
          have hml : m < F[i][j].2.length := by
            have := (List.getElem?_eq_some_iff.mp hm).1
            rwa [nints_length] at this
          rw [nints_get (List.getElem?_eq_getElem hml)] at hm
          obtain rfl := Option.some.inj hm
          have hch : F[i][j].2[m] < i := wf.chi i F[i] (List.getElem?_eq_getElem hil) F[i][j] (List.getElem_mem hjl) _ (List.getElem_mem hml)
          refine ⟨_, rfl, _, _, rfl, rfl, _, rfl, ?_⟩
          rw [decide_eq_true (show (0 : Int) ≤ (F[i][j].2[m] : Nat) by omega)]
          refine iteT ⟨_, rfl, _, _, rfl, rfl, _, rfl, ?_⟩
          rw [decide_eq_true (show ((F[i][j].2[m] : Nat) : Int) < (i : Nat) by omega)]
          exact iteF ⟨_, rfl, rfl⟩
        · rintro σ H4 ⟨v5, rfl, rfl⟩
          exact ⟨_, _, _, rfl, s3⟩
      · rintro σ H3 ⟨v3, v4, v5, rfl, s3⟩
        exact ⟨_, _, _, _, _, rfl, s3⟩
    · rintro σ H' ⟨_, _, _, _, _, rfl, s1⟩
      exact k H' s1
/-! ### combined -/
theorem dput_dk {H : Hp} {a : Addr} {kv : Kv} {s v : Int} {n : Nat} (h : H a = some (.dK (dk kv))) (hl : kv.length < sizeLine) (e : v = (n : Nat)) : DPut H a (.int s) (.int v) (upd H a (.dK (dk (put kv s n)))) := by
  have := DPut.k (k := Sum.inl s) (v := V.int v) h (by rw [dk_length]; exact hl)
  rw [e, dk_put] at this
  rw [e]
  exact this
theorem dget_dk {H : Hp} {a : Addr} {kv : Kv} {s : Int} (h : Rd H a (.dK (dk kv))) : DGet H a (.int s) (valV (dk kv) (Sum.inl s : Key)) := .inl ⟨dk kv, Sum.inl s, h, rfl, rfl⟩
theorem dget_mem {H : Hp} {a : Addr} {kv : Kv} {s : Int} {n : Nat} (h : Rd H a (.dK (dk kv))) (hn : (kv.map (·.1)).Nodup) (hm : (s, n) ∈ kv) : DGet H a (.int s) (some (.int (n : Nat))) := by
  have := dget_dk (s := s) h
  rw [valV_dk_mem hn (List.mem_map.mpr ⟨_, hm, rfl⟩), sumAt_mem hn hm] at this
  exact this
def spComb : Sp := fun vs H Q _ => ∃ (d1 d2 : Addr) (kv1 kv2 : Kv), vs = [.ref d1, .ref d2] ∧ d1 ≠ d2 ∧ H d1 = some (.dK (dk kv1)) ∧ H d2 = some (.dK (dk kv2)) ∧ (kv1.map (·.1)).Nodup ∧ (kv2.map (·.1)).Nodup ∧ (∀ p ∈ kv1, 0 < p.2 ∧ p.2 ≤ 120) ∧ (∀ p ∈ kv2, 0 < p.2) ∧ kv1.length ≤ 120 ∧ kv2.length ≤ 120 ∧
  ∀ (H' : Hp) (r : Addr) (kv : Kv), Same H H' → H r = none → H' r = some (.dK (dk kv)) → Acc kv (prods kv1 kv2) → Q (.ref r) H'
theorem scComb : FnScope ["counts", "others", "result", "cost", "other"] ["counts", "others"] (defScope sComb) := ⟨rfl, rfl, rfl, by decide +kernel, rfl, by decide +kernel, by decide +kernel⟩
theorem ok_comb {f : Addr} {fd : FuncData} (Fn : Fun K "combined" "combined" sComb f fd) (T : Txt K mg C) : FnOk P w K mg base CX0 1 f fd ["counts", "others"] spComb := by
  refine Fn.ok scComb (fun vs H Q E h => ?_) (fun cdv A outer s H vs Q E hr h => ?_)
  · obtain ⟨_, _, _, _, rfl, _⟩ := h
    rfl
  · obtain ⟨d1, d2, kv1, kv2, rfl, n12, h1, h2, nd1, nd2, b1, b2, l1, l2, k⟩ := h
    have nd := scComb.nd
    have hu := hu_of hr
    refine ⟨_, pss_cons (ps_set (i := 2) nd rfl (Or.inl rfl) pe_dnewK)
      (pss_cons (ps_lock (ps_for PassesOwn.never rfl (pi_keys (pv 0)) (pg_name (i := 3) nd rfl (Or.inl rfl))
        (pss_one (ps_lock (ps_for PassesOwn.never rfl (pi_keys (pv 1)) (pg_name (i := 4) nd rfl (Or.inl rfl))
          (pss_one (ps_dput hu (pv 2) (pe_op op_add (pv 3) (pv 4)) (pe_op op_add (pe_dget2 hu (pv 2) (pe_op op_add (pv 3) (pv 4)) pe_int ⟨rfl, rfl, rfl, rfl⟩) (pe_op op_mul (pe_dget hu (pv 0) (pv 3) (fun _ _ => rfl)) (pe_dget hu (pv 1) (pv 4) (fun _ _ => rfl)))) rfl)))))))
      (pss_one (ps_ret (pv 2)))), ?_⟩
    intro r hrn
    have nr1 : d1 ≠ r := ne_of_none h1 hrn
    have nr2 : d2 ≠ r := ne_of_none h2 hrn
    have p1 : (upd H r (.dK [])) d1 = some (.dK (dk kv1)) := by rw [upd_ne nr1]; exact h1
    refine ⟨d1, _, p1, trivial, fun od1 => ⟨_, rfl, d1, od1, rfl, .inl ⟨dk kv1, upd_same, for_it walk_keys (fun i σ H' => ∃ (kv : Kv) (v3 v4 : Option V), σ = [some (.ref d1), some (.ref d2), some (.ref r), v3, v4] ∧ H' r = some (.dK (dk kv)) ∧ Acc kv (prods (kv1.take i) kv2) ∧
      H' d1 = some (.frz od1 (.dK (dk kv1))) ∧ (∀ b o, H b = some o → b ≠ d1 → H' b = some o) ∧ kv.length ≤ i * kv2.length) ?_ (fun i σ H' _ ⟨_, _, _, _, _, _, e, _⟩ => e) ?_ ?_⟩⟩⟩
    · refine ⟨[], none, none, rfl, ?_, Acc.nil, upd_same, fun b o e n => ?_, Nat.zero_le _⟩
      · rw [upd_ne nr1.symm, upd_same]; rfl
      · rw [upd_ne n]; exact same_upd hrn _ _ e
    · rintro i x σ H1 H2 hi ⟨kv, v3, v4, rfl, hR, hA, hf1, hk, hl⟩ ⟨rfl, key, v, hkv, rfl⟩
      rw [dk_length] at hi
      have e1 : (dk kv1)[i]? = some (Sum.inl kv1[i].1, V.int (kv1[i].2 : Nat)) := by rw [dk, List.getElem?_map, List.getElem?_eq_getElem hi]; rfl
      rw [e1] at hkv
      cases hkv
      have m1 : kv1[i] ∈ kv1 := List.getElem_mem hi
      have hf2 : H2 d2 = some (.dK (dk kv2)) := hk d2 _ h2 n12.symm
      refine ⟨d2, _, hf2, trivial, fun od2 => ⟨_, rfl, d2, od2, rfl, .inl ⟨dk kv2, upd_same, for_it walk_keys (fun j σ H' => ∃ (kv : Kv) (v4 : Option V), σ = [some (.ref d1), some (.ref d2), some (.ref r), some (.int kv1[i].1), v4] ∧ H' r = some (.dK (dk kv)) ∧
        Acc kv (prods (kv1.take i) kv2 ++ (kv2.take j).map fun q => (kv1[i].1 + q.1, kv1[i].2 * q.2)) ∧ H' d1 = some (.frz od1 (.dK (dk kv1))) ∧ H' d2 = some (.frz od2 (.dK (dk kv2))) ∧ (∀ b o, H b = some o → b ≠ d1 → b ≠ d2 → H' b = some o) ∧ kv.length ≤ i * kv2.length + j) ?_ (fun j σ H' _ ⟨_, _, _, _, _, _, e, _⟩ => e) ?_ ?_⟩⟩⟩
      · refine ⟨kv, v4, rfl, by rw [upd_ne nr2.symm]; exact hR, by simpa using hA, by rw [upd_ne n12]; exact hf1, upd_same, fun b o e n1 n2 => by rw [upd_ne n2]; exact hk b o e n1, hl⟩
      · rintro j x σ H3 H4 hj ⟨kv, v4, rfl, hR, hA, hf1, hf2, hk, hl⟩ ⟨rfl, key, v, hkv, rfl⟩
        rw [dk_length] at hj
        have e2 : (dk kv2)[j]? = some (Sum.inl kv2[j].1, V.int (kv2[j].2 : Nat)) := by rw [dk, List.getElem?_map, List.getElem?_eq_getElem hj]; rfl
        rw [e2] at hkv
        cases hkv
        have m2 : kv2[j] ∈ kv2 := List.getElem_mem hj
        have hle : kv.length ≤ 120 * 120 + 120 := by
          have q := Nat.mul_le_mul (show i ≤ 120 by omega) l2
          omega
        have hbig : (120 * 120 + 120 : Nat) < sizeLine := by decide
        refine ⟨_, rfl, r, rfl, .inl ⟨_, .inl hR⟩, _, rfl, _, rfl, _, _, rfl, rfl, _, dget_dk (.inl hR), _, rfl, _, rfl, d1, _, rfl, dget_mem (s := kv1[i].1) (n := kv1[i].2) (.inr ⟨od1, hf1⟩) nd1 m1, _, rfl, _, rfl, d2, _, rfl, dget_mem (s := kv2[j].1) (n := kv2[j].2) (.inr ⟨od2, hf2⟩) nd2 m2, _, _, rfl, rfl, .inl ⟨?_, ?_⟩, _, _, valV_dk_getD hA.nd _, rfl, ?_⟩
        · have : (-(2 ^ 64) : Int) < 0 := by decide
          omega
        · have q := (b1 _ m1).2
          have : (120 : Int) < 2 ^ 64 := by decide
          omega
        · refine ⟨_, rfl, _, rfl, _, rfl, _, _, rfl, rfl, r, _, rfl, dput_dk (n := sumAt kv (kv1[i].1 + kv2[j].1) + kv1[i].2 * kv2[j].2) hR (by omega) (by rw [Int.natCast_add, Int.natCast_mul]), ?_⟩
          refine ⟨put kv (kv1[i].1 + kv2[j].1) (sumAt kv (kv1[i].1 + kv2[j].1) + kv1[i].2 * kv2[j].2), _, rfl, upd_same, ?_, by rw [upd_ne nr1]; exact hf1, by rw [upd_ne nr2]; exact hf2, fun b o e n1 n2 => ?_, ?_⟩
          · rw [take_snoc (List.getElem?_eq_getElem hj), List.map_append, ← List.append_assoc]
            exact hA.add (Nat.mul_pos (b1 _ m1).1 (b2 _ m2))
          · rw [upd_ne (ne_of_none e hrn)]
            exact hk b o e n1 n2
          · have := put_length kv (kv1[i].1 + kv2[j].1) (sumAt kv (kv1[i].1 + kv2[j].1) + kv1[i].2 * kv2[j].2)
            omega
      · rintro σ H3 ⟨kv, v4, rfl, hR, hA, hf1, hf2, hk, hl⟩
        rw [dk_length] at hA hl
        refine ⟨hf2, kv, _, _, rfl, by rw [upd_ne nr2.symm]; exact hR, ?_, by rw [upd_ne n12]; exact hf1, fun b o e n => ?_, by rw [Nat.add_mul]; omega⟩
        · rw [List.take_length] at hA
          have e3 : prods (kv1.take (i + 1)) kv2 = prods (kv1.take i) kv2 ++ kv2.map fun q => (kv1[i].1 + q.1, kv1[i].2 * q.2) := by
            rw [take_snoc (List.getElem?_eq_getElem hi), prods, prods, List.flatMap_append]
            simp
          rw [e3]
          exact hA
        · by_cases hb : b = d2
          · subst hb
            rw [h2] at e
            rw [upd_same]
            exact e
          · rw [upd_ne hb]
            exact hk b o e n hb
    · rintro σ H1 ⟨kv, v3, v4, rfl, hR, hA, hf1, hk, hl⟩
      rw [dk_length, List.take_length] at hA
      refine ⟨hf1, _, rfl, k _ r kv (fun b o e => ?_) hrn (by rw [upd_ne nr1.symm]; exact hR) hA⟩
      by_cases hb : b = d1
      · subst hb
        rw [h1] at e
        rw [upd_same]
        exact e
      · rw [upd_ne hb]
        exact hk b o e hb
end
end K24
namespace K24
open PySem L2 K24R
section
variable {P : Program} {w : World} {K : PySem.W.Frag} {mg : Str → Option Value} {base : Heap} {C : Addr}
/-! ### _rests_of -/
theorem walk_revT {K : PySem.W.Frag} {a : Addr} {xs : List V} : Walk (RT.ItvT K a xs.length) xs.length (fun H => SqT K H a xs) (fun i H x H' => H' = H ∧ xs[xs.length - 1 - i]? = some x) :=
  ⟨fun i _ hi q => ⟨hi, xs, xs[xs.length - 1 - i]'(by omega), q, List.getElem?_eq_getElem _⟩, fun _ _ => Nat.le_refl _, fun _ _ _ _ _ q y => ⟨y.1, y.2 xs q⟩⟩
theorem tails_rev (t : List Nat) : ∃ l0, (tails t).reverse = l0 ++ [t] := by
  cases t with
  | nil => exact ⟨[], rfl⟩
  | cons c t => exact ⟨(tails t).reverse, by rw [tails, List.reverse_cons]⟩
theorem Paired.snoc_inv {α β : Type} {F : α → β → Prop} : ∀ {l : List α} {m : List β} {y : β}, Paired F l (m ++ [y]) → ∃ l' x, l = l' ++ [x] ∧ Paired F l' m ∧ F x y
  | _, [], y, h => by
    cases h with
    | cons r t => cases t; exact ⟨[], _, rfl, .nil, r⟩
  | _, z :: m, y, h => by
    cases h with
    | cons r t =>
      obtain ⟨l', x, e, h1, h2⟩ := Paired.snoc_inv t
      exact ⟨_ :: l', x, by rw [e]; rfl, .cons r h1, h2⟩
/-- an object whose field "_counts" leads to the tables of the lists D -/
def Tabs (C : Addr) (H : Hp) (p : Addr) (D : List (List T)) : Prop := ∃ dx fs ac, H p = some (.ins C dx fs) ∧ fs.lookup ("_counts" : Str) = some (.ref ac) ∧ LstAt TabAt No H ac D
theorem Tabs.same {C : Addr} {H H' : Hp} {p : Addr} {D : List (List T)} (h : Tabs C H p D) (e : Same H H') : Tabs C H' p D := let ⟨dx, fs, ac, h1, h2, h3⟩ := h; ⟨dx, fs, ac, e _ _ h1, h2, (LstAt.mono tabM).same e h3⟩
theorem ForestAt.tabs {C : Addr} {X : Addr → Prop} {H : Hp} {p : Addr} {F : Fo} (h : ForestAt C X H p F) : Tabs C H p (TL F) := let ⟨_, dx, ae, ac, ar, h1, _, h3, _⟩ := h; ⟨dx, _, ac, h1, fF_counts _ _ _, (LstAt.mono tabM).no h3⟩
def spRests (C : Addr) : Sp := fun vs H Q _ => ∃ (p c : Addr) (D : List (List T)) (cs : List Nat), vs = [.ref p, .ref c] ∧ Tabs C H p D ∧ H c = some (.tup (nints cs)) ∧ (∀ x ∈ cs, x < D.length ∧ (lk D x).length ≤ 120) ∧ (∀ k, (rows (lk D) (cs.drop k)).length ≤ 120) ∧ cs.length ≤ 6 ∧
  ∀ (H' : Hp) (r : Addr), Same H H' → RestAt (lk D) (Dom H) H' r cs → Q (.ref r) H'
theorem scRests : FnScope ["self", "children", "rests", "child"] ["self", "children"] (defScope sRests) := ⟨rfl, rfl, rfl, by decide +kernel, rfl, by decide +kernel, by decide +kernel⟩
theorem ok_rests {f fB : Addr} {fd fdB : FuncData} (Fn : Fun K "_rests_of" "Forest._rests_of" sRests f fd) (T : Txt K mg C) (FB : Fun K "combined" "combined" sComb fB fdB) (bB : Binds K fdB ["counts", "others"] []) (gB : mg "combined" = some (.ref fB)) :
    FnOk P w K mg base CX0 2 f fd ["self", "children"] (spRests C) := by
  have G : FnOk P w K mg base CX0 1 fB fdB ["counts", "others"] spComb := ok_comb FB T
  refine Fn.ok scRests (fun vs H Q E h => ?_) (fun cdv A outer s H vs Q E hr h => ?_)
  · obtain ⟨_, _, _, _, rfl, _⟩ := h
    rfl
  · obtain ⟨p, c, D, cs, rfl, hTab, hc, hcs, hrows, hlen, k⟩ := h
    have nd := scRests.nd
    refine ⟨_, pss_cons (ps_set (i := 2) nd rfl (Or.inl rfl) (pe_lst (pa_cons (pe_disp (pps_cons pe_int pe_int pps_nil) (by rfl) (by rfl) (fun z => by cases z) (by decide)) pa_nil)))
      (pss_cons (ps_for PassesOwn.never rfl (RT.pi_revA rfl T.reversed (pv 1)) (pg_name (i := 3) nd rfl (Or.inl rfl))
        (pss_one (ps_expr (pe_bm PySem.F.plainAttrs_list PySem.F.slot_list_append PySem.F.type_list_append mt_append (pv 2)
          (pa_cons (pe_call G hr rfl gB FB.kp bB .nil pass0 (pa_cons (pe_ix ix_list (pe_fld (pv 0) rfl) (pv 3) (fun _ _ => rfl)) (pa_cons (pe_ix ix_list (pv 2) (pe_un un_neg pe_int) (fun _ _ => rfl)) pa_nil))) pa_nil)))))
      (pss_cons (ps_expr (pe_bm0 PySem.F.plainAttrs_list PySem.F.slot_list_reverse PySem.F.type_list_reverse mt_reverse (pv 2)))
      (pss_one (ps_ret (pv 2))))), ?_⟩
    obtain ⟨dx, fs, ac, hp, hac, hD⟩ := id hTab
    refine fun d0 hd0 => ⟨upd_same, [(Sum.inl 0, V.int 1)], rfl, (by decide), (by show 1 ≤ sizeLine; decide), fun r hrr => ?_⟩
    have ed0 : upd (upd H d0 (.dK [])) d0 (.dK (mergeK [] [(Sum.inl 0, V.int 1)])) = upd H d0 (.dK (dk [(0, 1)])) := by rw [upd_upd]; rfl
    rw [ed0] at hrr ⊢
    have nd0 : d0 ≠ r := fun z => by rw [z, upd_same] at hrr; cases hrr
    have hrH : H r = none := (same_upd hd0).free hrr
    have b0 : Bld (RowAt (lk D)) H r (tails (cs.drop cs.length)).reverse (upd (upd H d0 (.dK (dk [(0, 1)]))) r (.lst [.ref d0])) := by
      rw [List.drop_length]
      refine ⟨(same_upd hd0).trans (same_upd hrr), [d0], upd_same, .cons ⟨fun q => ?_, [(0, 1)], by rw [upd_ne nd0, upd_same], IsCnt.one⟩ .nil⟩
      rcases q with q | q
      · exact q hd0
      · exact nd0 q
    refine ⟨_, rfl, c, _, rfl, .inr ⟨SqT.of (b0.same _ _ hc), for_it walk_revT (fun i σ H' => ∃ v3 : Option V, σ = [some (.ref p), some (.ref c), some (.ref r), v3] ∧ Bld (RowAt (lk D)) H r (tails (cs.drop (cs.length - i))).reverse H') ⟨none, rfl, b0⟩ (fun i σ H' _ ⟨_, _, b⟩ => SqT.of (b.same _ _ hc)) ?_ ?_⟩⟩
    · rintro i x σ H1 H2 hi ⟨v3, rfl, b⟩ ⟨rfl, hx⟩
      rw [nints_length] at hi hx
      have hci : cs[cs.length - 1 - i]? = some (cs[cs.length - 1 - i]'(by omega)) := List.getElem?_eq_getElem _
      generalize hch : cs[cs.length - 1 - i]'(by omega) = ch at hci
      rw [nints_get hci] at hx
      obtain rfl := Option.some.inj hx
      have hmem : ch ∈ cs := List.mem_of_getElem? hci
      obtain ⟨hcl, hc120⟩ := hcs ch hmem
      have edrop : cs.drop (cs.length - (i + 1)) = ch :: cs.drop (cs.length - i) := by
        have := List.drop_eq_getElem_cons (l := cs) (i := cs.length - 1 - i) (by omega)
        rw [show cs.length - (i + 1) = cs.length - 1 - i by omega, this, hch, show cs.length - 1 - i + 1 = cs.length - i by omega]
      obtain ⟨l0, el0⟩ := tails_rev (cs.drop (cs.length - i))
      obtain ⟨ds, g1, g2⟩ := id b.lst
      rw [el0] at g2
      obtain ⟨ds0, d, rfl, g3, g4⟩ := Paired.snoc_inv g2
      obtain ⟨g5, kv2, g6, g7⟩ := g4
      obtain ⟨ys, d1, q1, q2, _, q3⟩ := hD.ix (i := ch) (y := lk D ch) (by
        unfold lk
        rw [List.getD_eq_getElem?_getD, List.getElem?_eq_getElem hcl]; rfl)
      obtain ⟨_, kv1, q4, q5⟩ := q3
      have nd12 : d1 ≠ d := fun z => g5 (.inl (by rw [← z]; exact dom_some q4))
      have hr120 := hrows (cs.length - i)
      rw [List.map_append] at g1
      refine ⟨_, rfl, .inl ⟨rfl, _, SqL.of g1⟩, ?_⟩
      refine ⟨_, rfl, p, C, dx, fs, _, rfl, b.same _ _ hp, T.cl, T.nC, hac, _, rfl, ac, _, _, .ref d1, rfl, rfl, SqL.of (b.same _ _ q1), atI_nat q2, _, rfl, _, rfl, r, _, _, .ref d, rfl, rfl, SqL.of g1, atI_last _ _, ?_⟩
      refine ⟨d1, d, kv1, kv2, rfl, nd12, b.same _ _ q4, g6, q5.nd, g7.nd, fun z hz => ⟨q5.pos z hz, ?_⟩, g7.pos, ?_, ?_, fun H3 r3 kv s3 hr3 hk3 hA => ?_⟩
      · rw [q5.mem (s := z.1) (n := z.2) hz]
        exact Nat.le_trans List.count_le_length (by rw [costs_length]; exact hc120)
      · exact Nat.le_trans q5.length_le (by rw [costs_length]; exact hc120)
      · exact Nat.le_trans g7.length_le (by rw [costs_length]; exact hr120)
      · have b3 := b.grow (rowM _) s3
        refine ⟨r, _, _, rfl, rfl, s3 _ _ g1, ?_, _, rfl, ?_⟩
        · obtain ⟨acc, ha, hal⟩ := b.at
          rw [g1] at ha
          cases ha
          rw [hal, List.length_reverse, tails_length, List.length_drop]
          have := big20
          omega
        · rw [edrop, tails, List.reverse_cons]
          refine Bld.push (rowM _) hrH b3 ⟨fun q => ?_, kv, hk3, hA.cnt fun z => ?_⟩ (s3 _ _ g1)
          · exact absurd hr3 (b.domX r3 q)
          · exact prods_cnt q5 g7 z
    · rintro σ H1 ⟨v3, rfl, b⟩
      rw [nints_length, Nat.sub_self, List.drop_zero] at b
      obtain ⟨ds, g1, g2⟩ := b.lst
      refine ⟨_, rfl, .inl ⟨rfl, _, SqL.of g1⟩, r, _, rfl, rfl, g1, _, rfl, k _ r (fun z o e => by rw [upd_ne (ne_of_none e hrH)]; exact b.same z o e) ⟨none_dom hrH, ds.reverse, by rw [upd_same, List.map_reverse], ?_⟩⟩
      have := Paired.rev g2
      rw [List.reverse_reverse] at this
      have rt : Ret (fun z => Dom H z ∨ z = r) H1 (upd H1 r (.lst (ds.map V.ref).reverse)) := Ret.upd (.inr rfl) g1 fun _ z => by cases z
      exact Paired.imp (fun _ _ z => (rowM _).anti (fun _ y => .inl y) ((rowM _).ret rt z)) this
end
end K24
namespace K24
open PySem L2 K24R
section
variable {P : Program} {w : World} {K : PySem.W.Frag} {mg : Str → Option Value} {base : Heap} {C : Addr}
/-! ### counts, total, _count_by -/
def upN (p : Int × Nat) : Int × Int := (p.1, (p.2 : Int))
def dnN (p : Int × Int) : Int × Nat := (p.1, p.2.toNat)
theorem dn_up (p : Int × Nat) : dnN (upN p) = p := by simp [dnN, upN]
theorem scnt_of {kv : Kv} {S : List (Int × Int)} {l : List Int} (h : IsCnt kv l) (hp : S.Perm (kv.map upN)) (hs : S.Pairwise fun p q => SrtO.lexB q p = false) : SCnt (S.map dnN) l ∧ S = (S.map dnN).map upN := by
  have hperm : (S.map dnN).Perm kv := by
    have := hp.map dnN
    rwa [List.map_map, show dnN ∘ upN = id from funext dn_up, List.map_id] at this
  have hS : S = (S.map dnN).map upN := by
    rw [List.map_map]
    conv => lhs; rw [← List.map_id S]
    refine List.map_congr_left fun q hq => ?_
    obtain ⟨p, _, e⟩ := List.mem_map.mp (hp.mem_iff.mp hq)
    subst e
    simp [dn_up]
  have hc := h.perm hperm
  refine ⟨⟨hc, ?_⟩, hS⟩
  have nd := hc.nd
  have h1 : (S.map dnN).Pairwise fun a b => a.1 ≤ b.1 := by
    refine List.pairwise_map.mpr (hs.imp fun {a b} q => ?_)
    have := SrtO.lexB_no.mp q
    show a.1 ≤ b.1
    omega
  have h2 : (S.map dnN).Pairwise fun a b => a.1 ≠ b.1 := List.pairwise_map.mp nd
  exact (h1.and h2).imp fun {a b} q => by
    have := q.1
    have := q.2
    omega
theorem paired_of_map {α β γ : Type} {F : α → β → Prop} {f : γ → β} : ∀ {l : List α} {m : List γ}, Paired F l (m.map f) → Paired (fun x y => F x (f y)) l m
  | _, [], h => by cases h; exact .nil
  | _, y :: m, h => by
    cases h with
    | cons r t => exact .cons r (paired_of_map t)
def spCounts (C : Addr) : Sp := fun vs H Q _ => ∃ (p : Addr) (e : Nat) (D : List (List T)) (l : List T), vs = [.ref p, .int (e : Nat)] ∧ Tabs C H p D ∧ D[e]? = some l ∧
  ∀ (H' : Hp) (r : Addr) (S : Kv), Same H H' → LstAt TwoAt (Dom H) H' r S → SCnt S (costs l) → Q (.ref r) H'
theorem scCounts : FnScope ["self", "entry"] ["self", "entry"] (defScope sCounts) := ⟨rfl, rfl, rfl, by decide +kernel, rfl, by decide +kernel, by decide +kernel⟩
theorem ok_counts {f : Addr} {fd : FuncData} (Fn : Fun K "counts" "Forest.counts" sCounts f fd) (T : Txt K mg C) : FnOk P w K mg base CX0 1 f fd ["self", "entry"] (spCounts C) := by
  refine Fn.ok scCounts (fun vs H Q E h => ?_) (fun cdv A outer s H vs Q E hr h => ?_)
  · obtain ⟨_, _, _, _, rfl, _⟩ := h
    rfl
  · obtain ⟨p, e, D, l, rfl, hTab, he, k⟩ := h
    refine ⟨_, pss_one (ps_ret (pe_sortedItems rfl (pe_ix ix_list (pe_fld (pv 0) rfl) (pv 1) (fun _ _ => rfl)) rfl T.sorted)), ?_⟩
    obtain ⟨dx, fs, ac, hp, hac, hD⟩ := id hTab
    obtain ⟨ys, d, q1, q2, _, _, kv, q4, q5⟩ := hD.ix he
    refine ⟨_, rfl, p, C, dx, fs, _, rfl, hp, T.cl, T.nC, hac, _, rfl, ac, _, _, .ref d, rfl, rfl, SqL.of q1, atI_nat q2, d, kv.map upN, rfl, by rw [q4, dk, List.map_map]; rfl, fun H' r ts S same hr0 hts hr1 hpair hperm hsrt => ?_⟩
    obtain ⟨h1, h2⟩ := scnt_of q5 hperm hsrt
    rw [h2] at hpair
    have hp2 : Paired (TwoAt (Dom H) H') ts (S.map dnN) := paired_of_map (f := upN) hpair
    exact k H' r _ same ⟨none_dom hr0, ts, hr1, hp2⟩ h1
def spTotal (C : Addr) : Sp := fun vs H Q _ => ∃ (p : Addr) (e : Nat) (D : List (List T)) (l : List T), vs = [.ref p, .int (e : Nat)] ∧ Tabs C H p D ∧ D[e]? = some l ∧ ∀ H' : Hp, Same H H' → Q (.int (l.length : Nat)) H'
theorem scTotal : FnScope ["self", "entry"] ["self", "entry"] (defScope sTotal) := ⟨rfl, rfl, rfl, by decide +kernel, rfl, by decide +kernel, by decide +kernel⟩
theorem sum_cast : ∀ (l : List Nat), (l.map fun (n : Nat) => ((n : Nat) : Int)).sum = ((l.sum : Nat) : Int)
  | [] => rfl
  | n :: l => by rw [List.map_cons, List.sum_cons, List.sum_cons, sum_cast l, Int.natCast_add]
theorem ok_total {f : Addr} {fd : FuncData} (Fn : Fun K "total" "Forest.total" sTotal f fd) (T : Txt K mg C) : FnOk P w K mg base CX0 1 f fd ["self", "entry"] (spTotal C) := by
  refine Fn.ok scTotal (fun vs H Q E h => ?_) (fun cdv A outer s H vs Q E hr h => ?_)
  · obtain ⟨_, _, _, _, rfl, _⟩ := h
    rfl
  · obtain ⟨p, e, D, l, rfl, hTab, he, k⟩ := h
    refine ⟨_, pss_one (ps_ret (pe_callB (cr_sum rfl) (by rfl) T.sum (by decide +kernel) (pa_cons (pe_listVals rfl (pe_ix ix_list (pe_fld (pv 0) rfl) (pv 1) (fun _ _ => rfl)) rfl T.list) pa_nil))), ?_⟩
    obtain ⟨dx, fs, ac, hp, hac, hD⟩ := id hTab
    obtain ⟨ys, d, q1, q2, _, _, kv, q4, q5⟩ := hD.ix he
    refine ⟨_, rfl, p, C, dx, fs, _, rfl, hp, T.cl, T.nC, hac, _, rfl, ac, _, _, .ref d, rfl, rfl, SqL.of q1, atI_nat q2, d, dk kv, rfl, q4, fun r hr0 => ?_⟩
    have e1 : (dk kv).map (·.2) = ((kv.map (·.2)).map fun (n : Nat) => ((n : Nat) : Int)).map V.int := by
      rw [dk, List.map_map, List.map_map, List.map_map]; rfl
    refine ⟨r, (kv.map (·.2)).map fun (n : Nat) => ((n : Nat) : Int), rfl, SqL.of (by rw [upd_same, e1]), ?_⟩
    rw [sum_cast, q5.total, costs_length]
    exact k _ (same_upd hr0)
def spCountBy (C : Addr) : Sp := fun vs H Q _ => ∃ (p : Addr) (e j : Nat) (c : Int) (F : Fo) (en : List Way) (w : Way), vs = [.ref p, .int (e : Nat), .int (j : Nat), .int c] ∧ ForestAt C No H p F ∧ F[e]? = some en ∧ en[j]? = some w ∧ Q (.int (cntR (lk (TL F)) w.2 (c - w.1) : Nat)) H
theorem scCountBy : FnScope ["self", "entry", "way", "cost"] ["self", "entry", "way", "cost"] (defScope sCountBy) := ⟨rfl, rfl, rfl, by decide +kernel, rfl, by decide +kernel, by decide +kernel⟩
theorem ok_countBy {f : Addr} {fd : FuncData} (Fn : Fun K "_count_by" "Forest._count_by" sCountBy f fd) (T : Txt K mg C) : FnOk P w K mg base CX0 1 f fd ["self", "entry", "way", "cost"] (spCountBy C) := by
  refine Fn.ok scCountBy (fun vs H Q E h => ?_) (fun cdv A outer s H vs Q E hr h => ?_)
  · obtain ⟨_, _, _, _, _, _, _, rfl, _⟩ := h
    rfl
  · obtain ⟨p, e, j, c, F, en, w, rfl, hF, he, hj, k⟩ := h
    have hu := hu_of hr
    refine ⟨_, pss_one (ps_ret (pe_dget2 hu (pe_ix ix_list (pe_ix ix_list (pe_ix ix_list (pe_fld (pv 0) rfl) (pv 1) (fun _ _ => rfl)) (pv 2) (fun _ _ => rfl)) pe_int (fun _ _ => rfl))
      (pe_op op_sub (pv 3) (pe_ix ix_tup (pe_ix ix_list (pe_ix ix_list (pe_fld (pv 0) rfl) (pv 1) (fun _ _ => rfl)) (pv 2) (fun _ _ => rfl)) pe_int (fun _ _ => rfl))) pe_int ⟨rfl, rfl, rfl, rfl⟩)), ?_⟩
    obtain ⟨_, dx, ae, ac, ar, h1, h2, h3, h4⟩ := id hF
    obtain ⟨x1, a1, e1, e2, _, e3⟩ := h4.ix he
    obtain ⟨x2, a2, f1, f2, _, f3⟩ := e3.ix hj
    have f3 : RestAt (lk (TL F)) No H a2 w.2 := f3
    obtain ⟨x3, a3, g1, g2, _, kv, g4, g5⟩ := f3.get (Nat.zero_le _)
    rw [List.drop_zero] at g5
    obtain ⟨y1, b1, i1, i2, _, i3⟩ := h2.ix he
    obtain ⟨y2, b2, j1, j2, _, j3⟩ := i3.ix hj
    obtain ⟨b3, j4, _⟩ := j3
    refine ⟨_, rfl, p, C, dx, _, _, rfl, h1, T.cl, T.nR, fF_rests _ _ _, _, rfl, ar, _, _, .ref a1, rfl, rfl, SqL.of e1, atI_nat e2, _, rfl, a1, _, _, .ref a2, rfl, rfl, SqL.of f1, atI_nat f2, a2, _, 0, .ref a3, rfl, rfl, SqL.of g1, atI_nat g2, a3, rfl, .inl ⟨_, .inl g4⟩, ?_⟩
    refine ⟨_, rfl, _, rfl, p, C, dx, _, _, rfl, h1, T.cl, T.nE, fF_entries _ _ _, _, rfl, ae, _, _, .ref b1, rfl, rfl, SqL.of i1, atI_nat i2, _, rfl, b1, _, _, .ref b2, rfl, rfl, SqL.of j1, atI_nat j2, b2, _, 0, .int w.1, rfl, rfl, SqT.of j4, rfl, _, _, rfl, rfl, _, dget_dk (.inl g4), ?_⟩
    rw [valV_dk_getD g5.nd, g5.val, count_costs, ← cntR]
    exact k
end
end K24
namespace K24
open PySem L2 K24R
section
variable {P : Program} {w : World} {K : PySem.W.Frag} {mg : Str → Option Value} {base : Heap} {C : Addr}
/-! ### Forest.__init__ -/
/-- the forest that is being made: i tables, m rows of rests -/
structure II (C dx ae ac ar p : Addr) (H : Hp) (F : Fo) (i m : Nat) (H' : Hp) : Prop where
  keep : ∀ b o, H b = some o → b ≠ p → H' b = some o
  obj : H' p = some (.ins C dx (fF ae ac ar))
  ents : ForAt (fun b => Dom H b ∨ b = ac ∨ b = ar) H' ae F
  cnts : ∃ ds : List Addr, H' ac = some (.lst (ds.map V.ref)) ∧ Paired (TabAt (fun b => Dom H b ∨ b = ac ∨ b = ar) H') ds ((TL F).take i)
  rsts : ∃ rs : List Addr, H' ar = some (.lst (rs.map V.ref)) ∧ Paired (RestsAt (lk (TL F)) (fun b => Dom H b ∨ b = ac ∨ b = ar) H') rs (F.take m)
section
variable {dx ae ac ar p : Addr} {H H1 H2 : Hp} {F : Fo} {i m : Nat}
theorem II.same (I : II C dx ae ac ar p H F i m H1) (e : Same H1 H2) : II C dx ae ac ar p H F i m H2 := by
  obtain ⟨ds, c1, c2⟩ := I.cnts
  obtain ⟨rs, r1, r2⟩ := I.rsts
  exact ⟨fun b o q n => e _ _ (I.keep b o q n), e _ _ I.obj, forM.same e I.ents, ⟨ds, e _ _ c1, Paired.imp (fun _ _ z => tabM.same e z) c2⟩, ⟨rs, e _ _ r1, Paired.imp (fun _ _ z => (restsM _).same e z) r2⟩⟩
theorem II.tabs (I : II C dx ae ac ar p H F i m H1) : Tabs C H1 p ((TL F).take i) := by
  obtain ⟨ds, c1, c2⟩ := I.cnts
  exact ⟨dx, _, ac, I.obj, fF_counts _ _ _, fun q => q, ds, c1, Paired.imp (fun _ _ z => tabM.no z) c2⟩
theorem II.pushR (I : II C dx ae ac ar p H F i m H1) (hd : Dom H p) (na : ac ≠ ar) (nr : ¬ Dom H ar) {en : List Way} (hen : F[m]? = some en) {G : Addr} (hG : RestsAt (lk (TL F)) (fun b => Dom H b ∨ b = ac ∨ b = ar) H1 G en) {acc : List V} (hacc : H1 ar = some (.lst acc)) :
    II C dx ae ac ar p H F i (m + 1) (upd H1 ar (.lst (acc ++ [.ref G]))) := by
  obtain ⟨ds, c1, c2⟩ := I.cnts
  obtain ⟨rs, r1, r2⟩ := I.rsts
  rw [r1] at hacc
  have ea : acc = rs.map V.ref := by
    have := Option.some.inj hacc
    injection this with this
    exact this.symm
  subst ea
  have r : Ret (fun b => Dom H b ∨ b = ac ∨ b = ar) H1 (upd H1 ar (.lst (rs.map V.ref ++ [.ref G]))) := Ret.upd (.inr (.inr rfl)) r1 fun _ z => by cases z
  have npr : p ≠ ar := fun z => nr (by rw [← z]; exact hd)
  refine ⟨fun b o q n => by rw [upd_ne (fun z => nr (by rw [← z]; exact dom_some q))]; exact I.keep b o q n, by rw [upd_ne npr]; exact I.obj, forM.ret r I.ents, ⟨ds, by rw [upd_ne na]; exact c1, Paired.imp (fun _ _ z => tabM.ret r z) c2⟩, ⟨rs ++ [G], by rw [upd_same, List.map_append]; rfl, ?_⟩⟩
  rw [take_snoc hen]
  exact Paired.snoc (Paired.imp (fun _ _ z => (restsM _).ret r z) r2) ((restsM _).ret r hG)
theorem II.pushC (I : II C dx ae ac ar p H F i m H1) (hd : Dom H p) (na : ac ≠ ar) (nr : ¬ Dom H ac) {l : List T} (hl : (TL F)[i]? = some l) {d : Addr} (hG : TabAt (fun b => Dom H b ∨ b = ac ∨ b = ar) H1 d l) {acc : List V} (hacc : H1 ac = some (.lst acc)) :
    II C dx ae ac ar p H F (i + 1) m (upd H1 ac (.lst (acc ++ [.ref d]))) := by
  obtain ⟨ds, c1, c2⟩ := I.cnts
  obtain ⟨rs, r1, r2⟩ := I.rsts
  rw [c1] at hacc
  have ea : acc = ds.map V.ref := by
    have := Option.some.inj hacc
    injection this with this
    exact this.symm
  subst ea
  have r : Ret (fun b => Dom H b ∨ b = ac ∨ b = ar) H1 (upd H1 ac (.lst (ds.map V.ref ++ [.ref d]))) := Ret.upd (.inr (.inl rfl)) c1 fun _ z => by cases z
  have npr : p ≠ ac := fun z => nr (by rw [← z]; exact hd)
  refine ⟨fun b o q n => by rw [upd_ne (fun z => nr (by rw [← z]; exact dom_some q))]; exact I.keep b o q n, by rw [upd_ne npr]; exact I.obj, forM.ret r I.ents, ⟨ds ++ [d], by rw [upd_same, List.map_append]; rfl, ?_⟩, ⟨rs, by rw [upd_ne na.symm]; exact r1, Paired.imp (fun _ _ z => (restsM _).ret r z) r2⟩⟩
  rw [take_snoc hl]
  exact Paired.snoc (Paired.imp (fun _ _ z => tabM.ret r z) c2) (tabM.ret r hG)
end
def spInit (C : Addr) : Sp := fun vs H Q _ => ∃ (p dx a : Addr) (F : Fo), vs = [.ref p, .ref a] ∧ H p = some (.ins C dx []) ∧ ForAt No H a F ∧ OkF F ∧ ∀ H' : Hp, (∀ b o, H b = some o → b ≠ p → H' b = some o) → ForestAt C (fun b => Dom H b ∧ b ≠ p) H' p F → Q .non H'
abbrev nInit : List Str := ["self", "entries", "entry", "way", "counts", "rests", "cost"]
theorem scInit : FnScope nInit ["self", "entries"] (defScope sInit) := ⟨rfl, rfl, rfl, by decide +kernel, rfl, by decide +kernel, by decide +kernel⟩
theorem ok_init {f fC fB fR : Addr} {fd fdC fdB fdR : FuncData} (Fn : Fun K "__init__" "Forest.__init__" sInit f fd) (T : Txt K mg C) (FC : Fun K "check_entries" "check_entries" sCheck fC fdC) (bC : Binds K fdC ["entries"] []) (gC : mg "check_entries" = some (.ref fC))
    (FB : Fun K "combined" "combined" sComb fB fdB) (bB : Binds K fdB ["counts", "others"] []) (gB : mg "combined" = some (.ref fB))
    (FR : Fun K "_rests_of" "Forest._rests_of" sRests fR fdR) (bR : Binds K fdR ["self", "children"] []) (mR : Meth K C "_rests_of" fR) :
    FnOk P w K mg base CX0 3 f fd ["self", "entries"] (spInit C) := by
  have GC : FnOk P w K mg base CX0 1 fC fdC ["entries"] spCheck := ok_check FC T
  have GR : FnOk P w K mg base CX0 2 fR fdR ["self", "children"] (spRests C) := ok_rests FR T FB bB gB
  refine Fn.ok scInit (fun vs H Q E h => ?_) (fun cdv A outer s H vs Q E hr h => ?_)
  · obtain ⟨_, _, _, _, rfl, _⟩ := h
    rfl
  · obtain ⟨p, dx, a, F, rfl, hp, hF, okF, k⟩ := h
    have hr1 : Room 1 _ := hr.mono (by decide)
    have hu := hu_of hr
    have nd := scInit.nd
    refine ⟨_, pss_cons (ps_expr (pe_call GC hr1 rfl gC FC.kp bC .nil pass0 (pa_cons (pv 1) pa_nil)))
      (pss_cons (ps_fld (pv 0) (pe_lc (own := [("entry", 2)]) (g := gName 2) (tt := tYes) rfl nd (pi_list (pv 1)) (blkOk_by (N := nInit) (sc := defScope sInit) (by decide +kernel)) (fun _ _ _ _ _ => pg_name (i := 2) nd rfl (Or.inl rfl)) (fun _ _ _ _ _ => pts_nil)
        (fun _ _ _ _ _ => pe_lc (own := [("way", 3)]) (g := gName 3) (tt := tYes) rfl nd (pil K (pv 2)) (blkOk_by (by kernel_rfl)) (fun _ _ _ _ _ => pg_name (i := 3) nd rfl (Or.inl rfl)) (fun _ _ _ _ _ => pts_nil)
          (fun _ _ _ _ _ => pe_tup (pa_cons (pe_ix (ixt K) (pv 3) pe_int (fun _ _ => rfl)) (pa_cons (pe_callTy (T := "tuple") (ctup K) (by rfl) T.tuple (by decide +kernel) (pa_cons (pe_ix (ixt K) (pv 3) pe_int (fun _ _ => rfl)) pa_nil)) pa_nil))))) rfl)
      (pss_cons (ps_fld (pv 0) (pe_lst pa_nil) rfl)
      (pss_cons (ps_fld (pv 0) (pe_lst pa_nil) rfl)
      (pss_one (ps_for PassesOwn.never rfl (pi_list (pe_fld (pv 0) rfl)) (pg_name (i := 2) nd rfl (Or.inl rfl))
        (pss_cons (ps_expr (pe_bm PySem.F.plainAttrs_list PySem.F.slot_list_append PySem.F.type_list_append mt_append (pe_fld (pv 0) rfl)
          (pa_cons (pe_lc (own := [("way", 3)]) (g := gName 3) (tt := tYes) rfl nd (pi_list (pv 2)) (blkOk_by (N := nInit) (sc := defScope sInit) (by decide +kernel)) (fun _ _ _ _ _ => pg_name (i := 3) nd rfl (Or.inl rfl)) (fun _ _ _ _ _ => pts_nil)
            (fun _ _ _ _ _ => pe_meth (pv 0) T.cl mR GR hr bR .nil pass0 (pa_cons (pe_ix (ixt K) (pv 3) pe_int (fun _ _ => rfl)) pa_nil))) pa_nil)))
        (pss_cons (ps_set (i := 4) nd rfl (Or.inl rfl) pe_dnewK)
        (pss_cons (ps_for PassesOwn.never rfl (pi_zip rfl T.zip (pa_cons (pv 2) (pa_cons (pe_ix ix_list (pe_fld (pv 0) rfl) (pe_un un_neg pe_int) (fun _ _ => rfl)) pa_nil))) (pg_tup rfl (pgs_cons (pg_name (i := 3) nd rfl (Or.inl rfl)) (pgs_cons (pg_name (i := 5) nd rfl (Or.inl rfl)) pgs_nil)))
          (pss_one (ps_lock (ps_for PassesOwn.never rfl (pi_keys (pe_ix ix_list (pv 5) pe_int (fun _ _ => rfl))) (pg_name (i := 6) nd rfl (Or.inl rfl))
            (pss_one (ps_dput hu (pv 4) (pe_op op_add (pe_ix ix_tup (pv 3) pe_int (fun _ _ => rfl)) (pv 6))
              (pe_op op_add (pe_dget2 hu (pv 4) (pe_op op_add (pe_ix ix_tup (pv 3) pe_int (fun _ _ => rfl)) (pv 6)) pe_int ⟨rfl, rfl, rfl, rfl⟩) (pe_dget hu (pe_ix ix_list (pv 5) pe_int (fun _ _ => rfl)) (pv 6) (fun _ _ => rfl))) rfl))))))
        (pss_one (ps_expr (pe_bm PySem.F.plainAttrs_list PySem.F.slot_list_append PySem.F.type_list_append mt_append (pe_fld (pv 0) rfl) (pa_cons (pv 4) pa_nil)))))))))))), ?_⟩
    have wf := okF.wf
    -- check_entries(entries)
    refine ⟨_, rfl, a, F, rfl, hF, wf, fun H1 s1 => ?_⟩
    have hF1 := forM.same s1 hF
    obtain ⟨xs, hxs, hxl⟩ := hF1.len
    -- self._entries = [[(way[0], tuple(way[1])) for way in entry] for entry in entries]
    refine ⟨_, rfl, a, rfl, ⟨_, SqL.of hxs⟩, fun ae hae => lc_list (K := K) (a := a) (xs := xs) (fun i H' => Bld EntAt H1 ae (F.take i) H') (Bld.start hae) (fun i H' _ b => SqL.of (b.same _ _ hxs)) ?_ ?_⟩
    · intro i x H2 hx b
      have hi : i < F.length := by rw [← hxl]; exact (List.getElem?_eq_some_iff.mp hx).1
      obtain ⟨_, c, e1, e2, _, e3⟩ := hF1.ix (List.getElem?_eq_getElem hi)
      rw [hxs] at e1
      cases e1
      rw [hx] at e2
      cases e2
      have e3 := entM.same b.same e3
      obtain ⟨ys, g1, gl⟩ := e3.len
      refine ⟨rfl, ?_⟩
      refine ⟨_, rfl, c, rfl, ⟨_, SqL.of g1⟩, fun G hG => lc_list (K := K) (a := c) (xs := ys) (fun j H' => Bld WayAt H2 G (F[i].take j) H') (Bld.start hG) (fun j H' _ b => SqL.of (b.same _ _ g1)) ?_ ?_⟩
      · intro j x H3 hx b3
        have hj : j < F[i].length := by rw [← gl]; exact (List.getElem?_eq_some_iff.mp hx).1
        obtain ⟨_, wa, q1, q2, _, q3⟩ := e3.ix (List.getElem?_eq_getElem hj)
        rw [g1] at q1
        cases q1
        rw [hx] at q2
        cases q2
        obtain ⟨ca, w1, w2⟩ := wayM.same b3.same q3
        refine ⟨rfl, ?_⟩
        refine ⟨_, rfl, wa, _, 0, .int F[i][j].1, rfl, rfl, SqT.of w1, rfl, _, rfl, wa, _, 1, .ref ca, rfl, rfl, SqT.of w1, rfl, ca, _, rfl, .inr ⟨SqT.of w2, (by show 2 ≤ sizeLine; decide), fun u hu => ?_⟩⟩
        have su := same_upd (o := .tup [.int F[i][j].1, .ref ca]) hu
        have b4 := b3.grow wayM su
        obtain ⟨acc, ha, hal⟩ := b4.at
        refine ⟨acc, ha, ?_, ?_⟩
        · rw [hal, List.length_take]
          have := okF.ways F[i] (List.getElem_mem hi)
          have := big20
          omega
        · rw [take_snoc (List.getElem?_eq_getElem hj)]
          exact b4.push wayM hG ⟨ca, upd_same, su _ _ w2⟩ ha
      · rintro H3 b3
        rw [gl, List.take_length] at b3
        have b4 := b.grow entM b3.same
        obtain ⟨acc, ha, hal⟩ := b4.at
        refine ⟨acc, ha, ?_, ?_⟩
        · rw [hal, List.length_take]
          have := okF.len
          have := big20
          omega
        · rw [take_snoc (List.getElem?_eq_getElem hi)]
          exact b4.push entM hae (entM.anti (fun z q => b.domX z q) (b3.done wayM hG)) ha
    intro H2 b2
    rw [hxl, List.take_length] at b2
    have hEnt := b2.done entM hae
    have hp2 : H2 p = some (.ins C dx []) := b2.same _ _ (s1 _ _ hp)
    have npe : p ≠ ae := fun z => by
      rw [← z, s1 _ _ hp] at hae
      cases hae
    refine ⟨_, rfl, p, C, dx, [], rfl, hp2, T.cl, T.nE, (by show 0 < 1000; decide), ?_⟩
    -- self._counts = []
    refine ⟨Nat.zero_le _, fun ac hac => ⟨_, rfl, p, C, dx, putF "_entries" (.ref ae) [], rfl, ?_, T.cl, T.nC, (by show 1 < 1000; decide), ?_⟩⟩
    · have npc : p ≠ ac := fun z => by rw [← z, upd_same] at hac; cases hac
      rw [upd_ne npc, upd_same]
    have npc : p ≠ ac := fun z => by rw [← z, upd_same] at hac; cases hac
    -- self._rests = []
    refine ⟨Nat.zero_le _, fun ar har => ⟨_, rfl, p, C, dx, putF "_counts" (.ref ac) (putF "_entries" (.ref ae) []), rfl, ?_, T.cl, T.nR, ?_, ?_⟩⟩
    · have npr : p ≠ ar := fun z => by rw [← z, upd_same] at har; cases har
      rw [upd_ne npr, upd_same]
    · show (putF "_counts" (V.ref ac) (putF "_entries" (V.ref ae) [])).length < 1000
      have e : putF ("_counts" : Str) (V.ref ac) (putF "_entries" (V.ref ae) []) = ([("_entries", V.ref ae), ("_counts", V.ref ac)] : List (Str × V)) := by
        show (if ("_entries" : Str) = "_counts" then _ else (("_entries" : Str), V.ref ae) :: putF "_counts" (V.ref ac) []) = _
        rw [if_neg fec]; rfl
      rw [e]
      show 2 < 1000
      decide
    have npr : p ≠ ar := fun z => by rw [← z, upd_same] at har; cases har
    have hac2 : H2 ac = none := by rw [upd_ne npc.symm] at hac; exact hac
    have har2 : H2 ar = none ∧ ar ≠ ac := by
      rw [upd_ne npr.symm] at har
      by_cases z : ar = ac
      · rw [z, upd_same] at har; cases har
      · rw [upd_ne z, upd_ne npr.symm] at har
        exact ⟨har, z⟩
    have neac : ae ≠ ac := fun z => by
      have := hEnt.2
      obtain ⟨_, q, _⟩ := this
      rw [z, hac2] at q; cases q
    have near : ae ≠ ar := fun z => by
      have := hEnt.2
      obtain ⟨_, q, _⟩ := this
      rw [z, har2.1] at q; cases q
    have s2 : Same H1 H2 := b2.same
    have sH2 : Same H H2 := s1.trans s2
    have ndc : ¬ Dom H ac := fun z => by
      have := Same.dom sH2 z
      exact this hac2
    have ndr : ¬ Dom H ar := fun z => by
      have := Same.dom sH2 z
      exact this har2.1
    have hdp : Dom H p := dom_some hp
    have I0 : II C dx ae ac ar p H F 0 0 (upd (upd (upd (upd (upd H2 p (.ins C dx (putF "_entries" (.ref ae) []))) ac (.lst [])) p (.ins C dx (putF "_counts" (.ref ac) (putF "_entries" (.ref ae) [])))) ar (.lst [])) p (.ins C dx (fF ae ac ar))) := by
      have other : ∀ b, b ≠ p → b ≠ ac → b ≠ ar → (upd (upd (upd (upd (upd H2 p (.ins C dx (putF "_entries" (.ref ae) []))) ac (.lst [])) p (.ins C dx (putF "_counts" (.ref ac) (putF "_entries" (.ref ae) [])))) ar (.lst [])) p (.ins C dx (fF ae ac ar))) b = H2 b := fun b q1 q2 q3 => by
        rw [upd_ne q1, upd_ne q3, upd_ne q1, upd_ne q2, upd_ne q1]
      refine ⟨fun b o q n => ?_, upd_same, ?_, ⟨[], ?_, .nil⟩, ⟨[], ?_, .nil⟩⟩
      · rw [other b n (fun z => ndc (by rw [← z]; exact dom_some q)) (fun z => ndr (by rw [← z]; exact dom_some q))]
        exact sH2 _ _ q
      · -- the entries lie outside p, ac, ar
        have hE : ForAt (fun b => Dom H1 b ∨ b = ac ∨ b = ar) H2 ae F := by
          obtain ⟨n1, as, q1, q2⟩ := hEnt
          refine ⟨fun z => ?_, as, q1, Paired.imp (fun d en y => ?_) q2⟩
          · rcases z with z | z | z
            · exact n1 z
            · exact neac z
            · exact near z
          · obtain ⟨n2, bs, y1, y2⟩ := y
            refine ⟨fun z => ?_, bs, y1, Paired.imp (fun _ _ x => x) y2⟩
            rcases z with z | z | z
            · exact n2 z
            · rw [z, hac2] at y1; cases y1
            · rw [z, har2.1] at y1; cases y1
        have hE2 : ForAt (fun b => Dom H b ∨ b = ac ∨ b = ar) H2 ae F := forM.anti (fun b q => by
          rcases q with q | q | q
          · exact .inl (Same.dom s1 q)
          · exact .inr (.inl q)
          · exact .inr (.inr q)) hE
        refine forM.ret (fun b o q c => ?_) hE2
        have nb : b ≠ p ∧ b ≠ ac ∧ b ≠ ar := by
          rcases c with c | ⟨xs, rfl⟩
          · exact ⟨fun z => c (.inl (by rw [z]; exact hdp)), fun z => c (.inr (.inl z)), fun z => c (.inr (.inr z))⟩
          · exact ⟨fun z => (by rw [z, hp2] at q; cases q), fun z => (by rw [z, hac2] at q; cases q), fun z => (by rw [z, har2.1] at q; cases q)⟩
        rw [other b nb.1 nb.2.1 nb.2.2]
        exact q
      · rw [upd_ne npc.symm, upd_ne har2.2.symm, upd_ne npc.symm, upd_same]; rfl
      · rw [upd_ne npr.symm, upd_same]; rfl
    refine ⟨_, rfl, p, C, dx, _, _, rfl, upd_same, T.cl, T.nE, fF_entries _ _ _, ?_⟩
    have nca : ac ≠ ar := har2.2.symm
    obtain ⟨es, hes, hesl⟩ := I0.ents.len
    refine ⟨ae, rfl, ⟨_, SqL.of hes⟩, for_list (K := K) (a := ae) (xs := es) (fun i σ H' => ∃ v2 v3 v4 v5 v6 : Option V, σ = [some (.ref p), some (.ref a), v2, v3, v4, v5, v6] ∧ II C dx ae ac ar p H F i i H' ∧ H' ae = some (.lst es)) ⟨_, _, _, _, _, rfl, I0, hes⟩ (fun i σ H' _ ⟨_, _, _, _, _, _, _, e⟩ => SqL.of e) ?_ ?_⟩
    · rintro i x σ H6 hx ⟨v2, v3, v4, v5, v6, rfl, I6, he6⟩
      have hi : i < F.length := by rw [← hesl]; exact (List.getElem?_eq_some_iff.mp hx).1
      have hFi : F[i]? = some F[i] := List.getElem?_eq_getElem hi
      obtain ⟨_, c, e1, e2, _, e3⟩ := I6.ents.ix hFi
      rw [he6] at e1
      cases e1
      rw [hx] at e2
      cases e2
      obtain ⟨ys, g1, gl⟩ := e3.len
      have hchi := wf.chi i F[i] hFi
      obtain ⟨rs, r1, r2⟩ := I6.rsts
      have hac6 : Dom H6 ac := let ⟨_, q, _⟩ := I6.cnts; dom_some q
      have har6 : Dom H6 ar := dom_some r1
      have domX : ∀ b, (Dom H b ∨ b = ac ∨ b = ar) → Dom H6 b := fun b q => by
        rcases q with q | rfl | rfl
        · by_cases hb : b = p
          · rw [hb]; exact dom_some I6.obj
          · cases q1 : H b with
            | none => exact absurd q1 q
            | some o => exact dom_some (I6.keep b o q1 hb)
        · exact hac6
        · exact har6
      -- self._rests.append([self._rests_of(way[1]) for way in entry])
      refine ⟨_, rfl, p, C, dx, _, _, rfl, I6.obj, T.cl, T.nR, fF_rests _ _ _, .inl ⟨rfl, _, SqL.of r1⟩, ?_⟩
      refine ⟨_, rfl, c, rfl, ⟨_, SqL.of g1⟩, fun G hG => lc_list (K := K) (a := c) (xs := ys) (fun j H' => Bld (WRestAt (lk (TL F))) H6 G (F[i].take j) H') (Bld.start hG) (fun j H' _ b => SqL.of (b.same _ _ g1)) ?_ ?_⟩
      · intro j x H7 hx b7
        have hj : j < F[i].length := by rw [← gl]; exact (List.getElem?_eq_some_iff.mp hx).1
        obtain ⟨_, wa, q1, q2, _, q3⟩ := e3.ix (List.getElem?_eq_getElem hj)
        rw [g1] at q1
        cases q1
        rw [hx] at q2
        cases q2
        obtain ⟨ca, w1, w2⟩ := wayM.same b7.same q3
        have I7 := I6.same b7.same
        have hwm : F[i][j] ∈ F[i] := List.getElem_mem hj
        have rw1 : ∀ t : List Nat, (∀ c ∈ t, c < i) → rows (lk ((TL F).take i)) t = rows (lk (TL F)) t := fun t ht => rows_congr fun c hc => lk_take (ht c hc)
        refine ⟨rfl, ?_⟩
        refine ⟨_, rfl, p, dx, _, rfl, I7.obj, fF_no _ _ _ (by decide +kernel) (by decide +kernel) (by decide +kernel), _, rfl, wa, _, 1, .ref ca, rfl, rfl, SqT.of w1, rfl, ?_⟩
        refine ⟨p, ca, (TL F).take i, F[i][j].2, rfl, I7.tabs, w2, fun x hx => ?_, fun m => ?_, okF.kids F[i] (List.getElem_mem hi) _ hwm, fun H8 r s8 hr8 => ?_⟩
        · have hlt := hchi _ hwm x hx
          refine ⟨by rw [List.length_take, TL_length]; omega, ?_⟩
          rw [lk_take hlt]
          exact okF.len_le (List.getElem?_eq_getElem (show x < F.length by omega))
        · rw [rw1 _ fun c hc => hchi _ hwm c (List.mem_of_mem_drop hc)]
          exact okF.rows_le hFi hwm (List.take_append_drop m F[i][j].2)
        · have b8 := b7.grow (wrestM _) s8
          obtain ⟨acc, ha, hal⟩ := b8.at
          refine ⟨acc, ha, ?_, ?_⟩
          · rw [hal, List.length_take]
            have := okF.ways F[i] (List.getElem_mem hi)
            have := big20
            omega
          · rw [take_snoc (List.getElem?_eq_getElem hj)]
            refine b8.push (wrestM _) hG ?_ ha
            have h9 : RestAt (lk (TL F)) (Dom H7) H8 r F[i][j].2 := by
              obtain ⟨n9, as, u1, u2⟩ := hr8
              refine ⟨n9, as, u1, ?_⟩
              have key : ∀ (t : List Nat), (∀ c ∈ t, c < i) → ∀ as, Paired (RowAt (lk ((TL F).take i)) (Dom H7) H8) as (tails t) → Paired (RowAt (lk (TL F)) (Dom H7) H8) as (tails t) := by
                intro t
                induction t with
                | nil =>
                  intro _ as h
                  cases h with
                  | cons y z => cases z; exact .cons y .nil
                | cons c t ih =>
                  intro ht as h
                  cases h with
                  | cons y z =>
                    refine .cons ?_ (ih (fun d hd => ht d (List.mem_cons_of_mem _ hd)) _ z)
                    have y : CntAt (Dom H7) H8 _ (costs (rows (lk ((TL F).take i)) (c :: t))) := y
                    rw [rw1 _ ht] at y
                    exact y
              exact key _ (hchi _ hwm) as u2
            exact (wrestM (lk (TL F))).anti (fun z q => b7.domX z q) h9
      · intro H7 b7
        rw [gl, List.take_length] at b7
        have I7 := I6.same b7.same
        have hG7 := b7.done (wrestM _) hG
        refine ⟨ar, _, _, rfl, rfl, b7.same _ _ r1, ?_, ?_⟩
        · rw [List.length_map, Paired.length r2, List.length_take]
          have := okF.len
          have := big20
          omega
        have I8 := I7.pushR hdp nca ndr hFi ((restsM _).anti domX hG7) (b7.same _ _ r1)
        have ncar : c ≠ ar := fun z => by
          have := e3.1
          exact this (.inr (.inr z))
        have naer : ae ≠ ar := fun z => I6.ents.1 (.inr (.inr z))
        have g8 : (upd H7 ar (.lst (rs.map V.ref ++ [V.ref G]))) c = some (.lst ys) := by rw [upd_ne ncar]; exact b7.same _ _ g1
        have he8 : (upd H7 ar (.lst (rs.map V.ref ++ [V.ref G]))) ae = some (.lst es) := by rw [upd_ne naer]; exact b7.same _ _ he6
        have har8 : (upd H7 ar (.lst (rs.map V.ref ++ [V.ref G]))) ar = some (.lst (rs.map V.ref ++ [V.ref G])) := upd_same
        have e8 : EntAt No (upd H7 ar (.lst (rs.map V.ref ++ [V.ref G]))) c F[i] := by
          have r : Ret (fun b => Dom H b ∨ b = ac ∨ b = ar) H7 (upd H7 ar (.lst (rs.map V.ref ++ [V.ref G]))) := Ret.upd (.inr (.inr rfl)) (b7.same _ _ r1) fun _ z => by cases z
          exact entM.no (entM.ret r (entM.same b7.same e3))
        have hG8 : RestsAt (lk (TL F)) No (upd H7 ar (.lst (rs.map V.ref ++ [V.ref G]))) G F[i] := by
          have r : Ret (Dom H6) H7 (upd H7 ar (.lst (rs.map V.ref ++ [V.ref G]))) := Ret.upd har6 (b7.same _ _ r1) fun _ z => by cases z
          exact (restsM _).no ((restsM _).ret r hG7)
        generalize upd H7 ar (.lst (rs.map V.ref ++ [V.ref G])) = H8 at I8 g8 he8 har8 e8 hG8
        -- counts = {}
        intro cd hcd
        obtain ⟨gs, hgs, hgl⟩ := hG8.len
        have ncd : ∀ b o, H8 b = some o → b ≠ cd := fun b o q z => by
          rw [z, hcd] at q
          cases q
        have s9 : Same H8 (upd H8 cd (.dK [])) := same_upd hcd
        refine ⟨_, rfl, _, rfl, p, C, dx, _, _, rfl, s9 _ _ I8.obj, T.cl, T.nR, fF_rests _ _ _, _, rfl, ar, _, _, .ref G, rfl, rfl, SqL.of (s9 _ _ har8), atI_last _ _, c, G, ys, gs, rfl, SqL.of (s9 _ _ g8), SqL.of (s9 _ _ hgs), ?_⟩
        refine for_it (walk_zip (n := F[i].length) (by rw [gl, hgl, Nat.min_self])) (fun j σ H' => ∃ (v3 v5 v6 : Option V) (kv ps : Kv), σ = [some (.ref p), some (.ref a), some (.ref c), v3, some (.ref cd), v5, v6] ∧ Same H8 H' ∧ H' cd = some (.dK (dk kv)) ∧ Acc kv ps ∧
          (∀ z, sumAt ps z = ((F[i].take j).map fun w => cntR (lk (TL F)) w.2 (z - w.1)).sum) ∧ kv.length ≤ j * 120) ⟨_, _, _, [], [], rfl, s9, upd_same, Acc.nil, fun z => rfl, Nat.zero_le _⟩
          (fun j σ H' _ ⟨_, _, _, _, _, _, e, _⟩ => ⟨SqL.of (e _ _ g8), SqL.of (e _ _ hgs)⟩) ?_ ?_
        · rintro j x σ Ha Hb hj ⟨v3, v5, v6, kv, ps, rfl, sa, hk, hA, hps, hkl⟩ ⟨t, y, z, rfl, ht, rfl, hy, hz⟩
          have hy : ys[j]? = some y := hy
          have hz : gs[j]? = some z := hz
          have hjF : F[i][j]? = some F[i][j] := List.getElem?_eq_getElem hj
          obtain ⟨_, wa, q1, q2, _, q3⟩ := e8.ix hjF
          rw [g8] at q1
          cases q1
          rw [hy] at q2
          cases q2
          obtain ⟨ca, w1, w2⟩ := q3
          obtain ⟨_, ra, u1, u2, _, u3⟩ := hG8.ix hjF
          rw [hgs] at u1
          cases u1
          rw [hz] at u2
          cases u2
          have u3 : RestAt (lk (TL F)) No H8 ra F[i][j].2 := u3
          obtain ⟨rl, d0, x1, x2, _, kw, x3, x4⟩ := u3.get (Nat.zero_le _)
          rw [List.drop_zero] at x4
          have sb := sa.trans (same_upd (o := .tup [.ref wa, .ref ra]) ht)
          have tcd : cd ≠ t := fun z => by
            rw [← z, hk] at ht
            cases ht
          have hkb : (upd Ha t (.tup [.ref wa, .ref ra])) cd = some (.dK (dk kv)) := by rw [upd_ne tcd]; exact hk
          refine ⟨t, _, rfl, SqT.of upd_same, rfl, _, _, rfl, _, _, rfl, rfl, ?_⟩
          generalize upd Ha t (.tup [.ref wa, .ref ra]) = Hb at sb hkb
          have nd0 : d0 ≠ cd := ncd d0 _ x3
          have nra : ra ≠ d0 := ne_of x1 x3 (by intro q; cases q)
          have nwa : wa ≠ d0 := ne_of w1 x3 (by intro q; cases q)
          refine ⟨d0, _, sb _ _ x3, trivial, fun od => ⟨_, rfl, ra, _, 0, .ref d0, rfl, rfl, SqL.of (by rw [upd_ne nra]; exact sb _ _ x1), atI_nat x2, d0, od, rfl, .inl ⟨dk kw, upd_same, ?_⟩⟩⟩
          have hrow : (rows (lk (TL F)) F[i][j].2).length ≤ 120 := okF.rows_le (a := []) hFi (List.getElem_mem hj) rfl
          have hkw : kw.length ≤ 120 := Nat.le_trans x4.length_le (by rw [costs_length]; exact hrow)
          refine for_it walk_keys (fun m σ H' => ∃ (v6 : Option V) (kv2 : Kv), σ = [some (.ref p), some (.ref a), some (.ref c), some (.ref wa), some (.ref cd), some (.ref ra), v6] ∧ (∀ b o, H8 b = some o → b ≠ d0 → H' b = some o) ∧ H' d0 = some (.frz od (.dK (dk kw))) ∧ H' cd = some (.dK (dk kv2)) ∧
            Acc kv2 (ps ++ shifts F[i][j].1 (kw.take m)) ∧ kv2.length ≤ j * 120 + m) ?_ (fun m σ H' _ ⟨_, _, _, _, e, _⟩ => e) ?_ ?_
          · exact ⟨_, kv, rfl, fun b o q n => by rw [upd_ne n]; exact sb _ _ q, upd_same, by rw [upd_ne nd0.symm]; exact hkb, by simpa [shifts] using hA, hkl⟩
          · rintro m x σ Hc Hd hm ⟨v6, kv2, rfl, kc, fz, kd, hA2, hl2⟩ ⟨rfl, key, v, hkv, rfl⟩
            rw [dk_length] at hm
            have em : (dk kw)[m]? = some (Sum.inl kw[m].1, V.int (kw[m].2 : Nat)) := by rw [dk, List.getElem?_map, List.getElem?_eq_getElem hm]; rfl
            rw [em] at hkv
            cases hkv
            have mm : kw[m] ∈ kw := List.getElem_mem hm
            have hw5 := okF.ways F[i] (List.getElem_mem hi)
            have hlen : kv2.length < sizeLine := by
              have q := Nat.mul_le_mul_right 120 (show j ≤ 5 by omega)
              have : (5 * 120 + 120 : Nat) < sizeLine := by decide
              omega
            have hwc := kc wa _ w1 nwa
            have hrc := kc ra _ x1 nra
            refine ⟨_, rfl, cd, rfl, .inl ⟨_, .inl kd⟩, _, rfl, wa, _, 0, .int F[i][j].1, rfl, rfl, SqT.of hwc, rfl, _, rfl, _, _, rfl, rfl, _, dget_dk (.inl kd), _, rfl, ra, _, 0, .ref d0, rfl, rfl, SqL.of hrc, atI_nat x2, _, rfl, d0, _, rfl, dget_mem (s := kw[m].1) (n := kw[m].2) (.inr ⟨od, fz⟩) x4.nd mm, _, _, valV_dk_getD hA2.nd _, rfl, ?_⟩
            refine ⟨_, rfl, _, rfl, wa, _, 0, .int F[i][j].1, rfl, rfl, SqT.of hwc, rfl, _, rfl, _, _, rfl, rfl, cd, _, rfl, dput_dk (n := sumAt kv2 (F[i][j].1 + kw[m].1) + kw[m].2) kd hlen (by rw [Int.natCast_add]), ?_⟩
            refine ⟨_, put kv2 (F[i][j].1 + kw[m].1) (sumAt kv2 (F[i][j].1 + kw[m].1) + kw[m].2), rfl, fun b o q n => by rw [upd_ne (ncd b o q)]; exact kc b o q n, by rw [upd_ne nd0]; exact fz, upd_same, ?_, ?_⟩
            · rw [take_snoc (List.getElem?_eq_getElem hm), shifts, List.map_append, ← List.append_assoc]
              exact hA2.add (x4.pos _ mm)
            · have := put_length kv2 (F[i][j].1 + kw[m].1) (sumAt kv2 (F[i][j].1 + kw[m].1) + kw[m].2)
              omega
          · rintro σ Hc ⟨v6, kv2, rfl, kc, fz, kd, hA2, hl2⟩
            rw [dk_length] at hA2 hl2
            rw [List.take_length] at hA2
            refine ⟨fz, _, _, _, kv2, _, rfl, fun b o q => ?_, by rw [upd_ne nd0.symm]; exact kd, hA2, fun z => ?_, by rw [Nat.add_mul]; omega⟩
            · by_cases hb : b = d0
              · subst hb
                rw [x3] at q
                rw [upd_same]
                exact q
              · rw [upd_ne hb]
                exact kc b o q hb
            · rw [sumAt_append, sumAt_shifts, x4.val, count_costs, ← cntR, hps, sum_take_succ _ hjF]
        · rintro σ Ha ⟨v3, v5, v6, kv, ps, rfl, sa, hk, hA, hps, hkl⟩
          rw [List.take_length] at hps
          have I9 := I8.same sa
          obtain ⟨ds, c1, c2⟩ := I9.cnts
          have hTLi := lk_get (F := F) hi
          have hTab : TabAt (fun b => Dom H b ∨ b = ac ∨ b = ar) Ha cd (lk (TL F) i) := by
            refine ⟨fun z => ?_, kv, hk, hA.cnt fun z => by rw [hps, ent_cnt okF.lists hFi]⟩
            have : Dom H8 cd := by
              rcases z with z | z | z
              · by_cases hb : cd = p
                · rw [hb]; exact dom_some I8.obj
                · cases q1 : H cd with
                  | none => exact absurd q1 z
                  | some o => exact dom_some (I8.keep cd o q1 hb)
              · obtain ⟨_, q, _⟩ := I8.cnts
                rw [z]; exact dom_some q
              · rw [z]; exact dom_some har8
            exact this hcd
          have naec : ae ≠ ac := fun z => I6.ents.1 (.inr (.inl z))
          refine ⟨_, rfl, p, C, dx, _, _, rfl, I9.obj, T.cl, T.nC, fF_counts _ _ _, .inl ⟨rfl, _, SqL.of c1⟩, _, rfl, ac, _, _, rfl, rfl, c1, ?_, _, _, _, _, _, rfl, I9.pushC hdp nca ndc hTLi hTab c1, by rw [upd_ne naec]; exact sa _ _ he8⟩
          rw [List.length_map, Paired.length c2, List.length_take]
          have := okF.len
          have := big20
          omega
    · rintro σ H6 ⟨v2, v3, v4, v5, v6, rfl, I6, _⟩
      rw [hesl] at I6
      obtain ⟨ds, c1, c2⟩ := I6.cnts
      obtain ⟨rs, r1, r2⟩ := I6.rsts
      rw [List.take_of_length_le (by rw [TL_length]; exact Nat.le_refl _)] at c2
      rw [List.take_length] at r2
      refine k H6 I6.keep ⟨fun z => z.2 rfl, dx, ae, ac, ar, I6.obj, forM.anti (fun b z => .inl z.1) I6.ents, ⟨fun z => ndc z.1, ds, c1, Paired.imp (fun _ _ y => tabM.anti (fun b z => .inl z.1) y) c2⟩, ⟨fun z => ndr z.1, rs, r1, Paired.imp (fun _ _ y => (restsM _).anti (fun b z => .inl z.1) y) r2⟩⟩
end
end K24
namespace K24
open PySem L2 K24R
section
variable {P : Program} {w : World} {K : PySem.W.Frag} {mg : Str → Option Value} {base : Heap} {C : Addr}
/-! ### _split -/
theorem split_step {L : Nat → List T} {c : Nat} {cs : List Nat} {s : Int} {S : Kv} {i : Nat} {ck : Int} {n place q : Nat} (hS : SCnt S (costs (L c))) (hi : S[i]? = some (ck, n))
    (hq : q = ((S.take i).map fun p => p.2 * cntR L cs (s - p.1)).sum + place) (hlt : place < n * cntR L cs (s - ck)) :
    0 < cntR L cs (s - ck) ∧ place / cntR L cs (s - ck) < cnt L c ck ∧ place - place / cntR L cs (s - ck) * cntR L cs (s - ck) < cntR L cs (s - ck) ∧ place / cntR L cs (s - ck) * cntR L cs (s - ck) ≤ place ∧
      q = before L c cs s ck + place / cntR L cs (s - ck) * cntR L cs (s - ck) + (place - place / cntR L cs (s - ck) * cntR L cs (s - ck)) := by
  have h0 : 0 < cntR L cs (s - ck) := by
    rcases Nat.eq_zero_or_pos (cntR L cs (s - ck)) with z | z
    · rw [z] at hlt; omega
    · exact z
  have e1 : ((S.take i).map fun p => p.2 * cntR L cs (s - p.1)).sum = before L c cs s ck := by
    rw [hS.lt_sum (fun a => cntR L cs (s - a)) hi, before_eq]
  have hn : n = cnt L c ck := by
    rw [hS.cnt.mem (List.mem_of_getElem? hi), count_costs, cnt]
  have hm := Nat.div_add_mod place (cntR L cs (s - ck))
  have hm2 := Nat.mod_lt place h0
  rw [Nat.mul_comm] at hm
  refine ⟨h0, ?_, by omega, by omega, by omega⟩
  rw [← hn]
  exact (Nat.div_lt_iff_lt_mul h0).mpr hlt
theorem split_sum {L : Nat → List T} {c : Nat} {cs : List Nat} {s : Int} {S : Kv} (hS : SCnt S (costs (L c))) : (S.map fun p => p.2 * cntR L cs (s - p.1)).sum = cntR L (c :: cs) s := by
  rw [hS.cnt.sum (fun a => cntR L cs (s - a)), cntR_cons, costs, List.map_map]
  exact sum_map_congr fun t _ => rfl
theorem scnt_le {S : Kv} {l : List Int} (h : SCnt S l) {i : Nat} {c : Int} {n : Nat} (hi : S[i]? = some (c, n)) : n ≤ l.length := by
  rw [h.cnt.mem (List.mem_of_getElem? hi)]
  exact List.count_le_length
theorem cntR_le (L : Nat → List T) (cs : List Nat) (s : Int) : cntR L cs s ≤ (rows L cs).length := List.length_filter_le _ _
theorem bnd64 {x : Int} (h0 : 0 ≤ x) (h1 : x ≤ 120) : -(2 ^ 64) < x ∧ x < 2 ^ 64 := by
  have big : (2 : Int) ^ 64 = 18446744073709551616 := by decide
  rw [big]
  omega
def spSplit (C : Addr) : Sp := fun vs H Q _ => ∃ (p : Addr) (e j : Nat) (c : Int) (q : Nat) (F : Fo) (en : List Way) (w : Way), vs = [.ref p, .int (e : Nat), .int (j : Nat), .int c, .int (q : Nat)] ∧ ForestAt C No H p F ∧ OkF F ∧ F[e]? = some en ∧ en[j]? = some w ∧ q < cntR (lk (TL F)) w.2 (c - w.1) ∧
  ∀ (H' : Hp) (r : Addr) (bl : List Coord), Same H H' → LstAt CoordAt (Dom H) H' r bl → Below (lk (TL F)) w.2 (c - w.1) q bl → Q (.ref r) H'
abbrev nSplit : List Str := ["self", "entry", "way", "cost", "place", "left", "rests", "tasks", "k", "child", "child_cost", "count", "block"]
theorem scSplit : FnScope nSplit ["self", "entry", "way", "cost", "place"] (defScope sSplit) := ⟨rfl, rfl, rfl, by decide +kernel, rfl, by decide +kernel, by decide +kernel⟩
theorem ok_split {f fN : Addr} {fd fdN : FuncData} (Fn : Fun K "_split" "Forest._split" sSplit f fd) (T : Txt K mg C)
    (FN : Fun K "counts" "Forest.counts" sCounts fN fdN) (bN : Binds K fdN ["self", "entry"] []) (mN : Meth K C "counts" fN) :
    FnOk P w K mg base CX0 2 f fd ["self", "entry", "way", "cost", "place"] (spSplit C) := by
  have GN : FnOk P w K mg base CX0 1 fN fdN ["self", "entry"] (spCounts C) := ok_counts FN T
  refine Fn.ok scSplit (fun vs H Q E h => ?_) (fun cdv A outer s H vs Q E hr h => ?_)
  · obtain ⟨_, _, _, _, _, _, _, _, rfl, _⟩ := h
    rfl
  · obtain ⟨p, e, j, c, q, F, en, w, rfl, hF, okF, he, hj, hq, k⟩ := h
    have hu := hu_of hr
    have nd := scSplit.nd
    refine ⟨_, pss_cons (ps_set (i := 5) nd rfl (Or.inl rfl) (pe_op op_sub (pv 3) (pe_ix ix_tup (pe_ix ix_list (pe_ix ix_list (pe_fld (pv 0) rfl) (pv 1) (fun _ _ => rfl)) (pv 2) (fun _ _ => rfl)) pe_int (fun _ _ => rfl))))
      (pss_cons (ps_set (i := 6) nd rfl (Or.inl rfl) (pe_ix ix_list (pe_ix ix_list (pe_fld (pv 0) rfl) (pv 1) (fun _ _ => rfl)) (pv 2) (fun _ _ => rfl)))
      (pss_cons (ps_set (i := 7) nd rfl (Or.inl rfl) (pe_lst pa_nil))
      (pss_cons (ps_for PassesOwn.never rfl (pi_enumT rfl T.enumerate (pa_cons (pe_ix ix_tup (pe_ix ix_list (pe_ix ix_list (pe_fld (pv 0) rfl) (pv 1) (fun _ _ => rfl)) (pv 2) (fun _ _ => rfl)) pe_int (fun _ _ => rfl)) pa_nil))
          (pg_tup rfl (pgs_cons (pg_name (i := 8) nd rfl (Or.inl rfl)) (pgs_cons (pg_name (i := 9) nd rfl (Or.inl rfl)) pgs_nil)))
        (pss_one (ps_for PassesOwn.never rfl (pi_list (pe_meth (pv 0) T.cl mN GN hr bN .nil pass0 (pa_cons (pv 9) pa_nil)))
            (pg_tup rfl (pgs_cons (pg_name (i := 10) nd rfl (Or.inl rfl)) (pgs_cons (pg_name (i := 11) nd rfl (Or.inl rfl)) pgs_nil)))
          (pss_cons (ps_set (i := 12) nd rfl (Or.inl rfl) (pe_dget2 hu (pe_ix ix_list (pv 6) (pe_op op_add (pv 8) pe_int) (fun _ _ => rfl)) (pe_op op_sub (pv 5) (pv 10)) pe_int ⟨rfl, rfl, rfl, rfl⟩))
          (pss_cons (ps_if (pt_cmpR op_lt (pv 4) (pe_op op_mul (pv 11) (pv 12)) (nomark _))
            (pss_cons (ps_expr (pe_bm PySem.F.plainAttrs_list PySem.F.slot_list_append PySem.F.type_list_append mt_append (pv 7) (pa_cons (pe_tup (pa_cons (pv 9) (pa_cons (pv 10) (pa_cons (pe_op op_fdiv (pv 4) (pv 12)) pa_nil)))) pa_nil)))
            (pss_cons (ps_aug (i := 4) nd rfl (Or.inl rfl) (pe_op op_mul (pe_op op_fdiv (pv 4) (pv 12)) (pv 12)) ip_sub)
            (pss_cons (ps_aug (i := 5) nd rfl (Or.inl rfl) (pv 10) ip_sub)
            (pss_one ps_break)))) pss_nil)
          (pss_one (ps_aug (i := 4) nd rfl (Or.inl rfl) (pe_op op_mul (pv 11) (pv 12)) ip_sub)))))))
      (pss_one (ps_ret (pv 7)))))), ?_⟩
    obtain ⟨_, dx, ae, ac, ar, h1, h2, h3, h4⟩ := id hF
    obtain ⟨y1, b1, i1, i2, _, i3⟩ := h2.ix he
    obtain ⟨y2, b2, j1, j2, _, j3⟩ := i3.ix hj
    obtain ⟨b3, j4, j5⟩ := j3
    obtain ⟨x1, a1, e1, e2, _, e3⟩ := h4.ix he
    obtain ⟨x2, a2, f1, f2, _, f3⟩ := e3.ix hj
    have f3 : RestAt (lk (TL F)) No H a2 w.2 := f3
    have wmem : w ∈ en := List.mem_of_getElem? hj
    have hkids : w.2.length ≤ 6 := okF.kids en (List.mem_of_getElem? he) w wmem
    refine ⟨_, rfl, _, rfl, p, C, dx, _, _, rfl, h1, T.cl, T.nE, fF_entries _ _ _, _, rfl, ae, _, _, .ref b1, rfl, rfl, SqL.of i1, atI_nat i2, _, rfl, b1, _, _, .ref b2, rfl, rfl, SqL.of j1, atI_nat j2, b2, _, 0, .int w.1, rfl, rfl, SqT.of j4, rfl, _, _, rfl, rfl, ?_⟩
    refine ⟨_, rfl, p, C, dx, _, _, rfl, h1, T.cl, T.nR, fF_rests _ _ _, _, rfl, ar, _, _, .ref a1, rfl, rfl, SqL.of e1, atI_nat e2, _, rfl, a1, _, _, .ref a2, rfl, rfl, SqL.of f1, atI_nat f2, ?_⟩
    refine ⟨Nat.zero_le _, fun r hrr => ?_⟩
    have s0 : Same H (upd H r (.lst [])) := same_upd hrr
    refine ⟨_, rfl, p, C, dx, _, _, rfl, s0 _ _ h1, T.cl, T.nE, fF_entries _ _ _, _, rfl, ae, _, _, .ref b1, rfl, rfl, SqL.of (s0 _ _ i1), atI_nat i2, _, rfl, b1, _, _, .ref b2, rfl, rfl, SqL.of (s0 _ _ j1), atI_nat j2, b2, _, 1, .ref b3, rfl, rfl, SqT.of (s0 _ _ j4), rfl, b3, _, rfl, SqT.of (s0 _ _ j5), ?_⟩
    refine for_it walk_enumT (fun m σ H' => ∃ (v8 v9 v10 v11 v12 : Option V) (s : Int) (pl : Nat) (bl : List Coord), σ = [some (.ref p), some (.int (e : Nat)), some (.int (j : Nat)), some (.int c), some (.int (pl : Nat)), some (.int s), some (.ref a2), some (.ref r), v8, v9, v10, v11, v12] ∧
        Bld CoordAt H r bl H' ∧ bl.length = m ∧ pl < cntR (lk (TL F)) (w.2.drop m) s ∧ ∀ bl', Below (lk (TL F)) (w.2.drop m) s pl bl' → Below (lk (TL F)) w.2 (c - w.1) q (bl ++ bl'))
      ⟨_, _, _, _, _, c - w.1, q, [], rfl, Bld.start hrr, rfl, by rw [List.drop_zero]; exact hq, fun bl' hb => by rw [List.drop_zero] at hb; exact hb⟩ (fun m σ H' _ ⟨_, _, _, _, _, _, _, _, _, b, _⟩ => SqT.of (b.same _ _ j5)) ?_ ?_
    · rintro m x σ H1 H2 hm ⟨v8, v9, v10, v11, v12, s, pl, bl, rfl, b1', hbl, hpl, hB⟩ ⟨t, y, z, rfl, ht, rfl, hy, hz⟩
      obtain rfl := (Option.some.inj hy)
      have hz : (nints w.2)[m]? = some z := hz
      rw [nints_length] at hm
      have hcm : w.2[m]? = some w.2[m] := List.getElem?_eq_getElem hm
      generalize hch : w.2[m] = ch at hcm
      rw [nints_get hcm] at hz
      obtain rfl := Option.some.inj hz
      have hdrop : w.2.drop m = ch :: w.2.drop (m + 1) := by rw [← hch]; exact List.drop_eq_getElem_cons hm
      rw [hdrop] at hpl hB
      have bA := b1'.grow coordM (same_upd (o := .tup [.int (m : Nat), .int (ch : Nat)]) ht)
      have tup1 : (upd H1 t (.tup [.int (m : Nat), .int (ch : Nat)])) t = some (.tup [.int (m : Nat), .int (ch : Nat)]) := upd_same
      generalize upd H1 t (.tup [.int (m : Nat), .int (ch : Nat)]) = HA at bA tup1
      refine ⟨t, _, rfl, SqT.of tup1, rfl, _, _, rfl, _, _, rfl, rfl, ?_⟩
      have hlt : ch < e := okF.wf.chi e en he w wmem ch (List.mem_of_getElem? hcm)
      have heF := (List.getElem?_eq_some_iff.mp he).1
      have hchF : ch < F.length := by omega
      have hFA := (forestM C).same bA.same hF
      refine ⟨_, rfl, p, dx, _, rfl, bA.same _ _ h1, fF_no _ _ _ (by decide +kernel) (by decide +kernel) (by decide +kernel), _, rfl, ?_⟩
      refine ⟨p, ch, TL F, lk (TL F) ch, rfl, hFA.tabs, lk_get hchF, fun HB rl S sB hS hsc => ?_⟩
      have bB := bA.grow coordM sB
      obtain ⟨_, as, hrl, hpr⟩ := id hS
      have hrlA := hS.1
      have hlen120 : (lk (TL F) ch).length ≤ 120 := okF.len_le (List.getElem?_eq_getElem hchF)
      have nrl : rl ≠ r := fun z => hrlA (by rw [z]; exact bA.domD)
      obtain ⟨xs, d, x1', x2', _, kv, x4, x5⟩ := f3.get (show m + 1 ≤ w.2.length by omega)
      have hrows : (rows (lk (TL F)) (w.2.drop (m + 1))).length ≤ 120 := okF.rows_le (a := w.2.take (m + 1)) he wmem (List.take_append_drop _ _)
      have hSl : (as.map V.ref).length = S.length := by rw [List.length_map]; exact Paired.length hpr
      refine ⟨rl, rfl, ⟨_, SqL.of hrl⟩, for_list (K := K) (a := rl) (xs := as.map V.ref) (fun i σ H' => ∃ (v10 v11 v12 : Option V) (pl' : Nat), σ = [some (.ref p), some (.int (e : Nat)), some (.int (j : Nat)), some (.int c), some (.int (pl' : Nat)), some (.int s), some (.ref a2), some (.ref r), some (.int (m : Nat)), some (.int (ch : Nat)), v10, v11, v12] ∧
          H' = HB ∧ pl = ((S.take i).map fun p => p.2 * cntR (lk (TL F)) (w.2.drop (m + 1)) (s - p.1)).sum + pl') ⟨_, _, _, pl, rfl, rfl, by simp⟩ (fun i σ H' _ ⟨_, _, _, _, _, e, _⟩ => by rw [e]; exact SqL.of hrl) ?_ ?_⟩
      · rintro i x σ HC hi ⟨v10, v11, v12, pl', rfl, rfl, hpl'⟩
        have hil : i < S.length := by rw [← hSl]; exact (List.getElem?_eq_some_iff.mp hi).1
        obtain ⟨ta, u1, u2⟩ := Paired.get hpr (List.getElem?_eq_getElem hil)
        rw [List.getElem?_map, u1] at hi
        obtain rfl : V.ref ta = x := Option.some.inj hi
        have hSi : S[i]? = some (S[i].1, S[i].2) := List.getElem?_eq_getElem hil
        generalize hck : S[i].1 = ck at hSi
        generalize hn : S[i].2 = n at hSi
        have u2 : HC ta = some (.tup [.int ck, .int (n : Nat)]) := by rw [← hck, ← hn]; exact u2
        have hn120 : n ≤ 120 := Nat.le_trans (scnt_le hsc hSi) (by rw [costs_length]; exact hlen120)
        have hb120 := Nat.le_trans (cntR_le (lk (TL F)) (w.2.drop (m + 1)) (s - ck)) hrows
        refine ⟨ta, _, rfl, SqT.of u2, rfl, _, _, rfl, _, _, rfl, rfl, ?_⟩
        refine ⟨_, rfl, _, rfl, _, _, rfl, rfl, a2, _, (m : Int) + 1, .ref d, rfl, rfl, SqL.of (bB.same _ _ x1'), at_of (j := m + 1) (by omega) x2', d, rfl, .inl ⟨_, .inl (bB.same _ _ x4)⟩, ?_⟩
        refine ⟨_, rfl, _, rfl, _, _, rfl, rfl, _, dget_dk (.inl (bB.same _ _ x4)), ?_⟩
        rw [valV_dk_getD x5.nd, x5.val, count_costs, ← cntR]
        generalize hblk : cntR (lk (TL F)) (w.2.drop (m + 1)) (s - ck) = blk at hb120
        have big : (2 : Int) ^ 64 = 18446744073709551616 := by decide
        refine ⟨_, rfl, _, rfl, _, rfl, _, _, rfl, rfl, .inl ⟨by rw [big]; omega, by rw [big]; omega⟩, _, _, rfl, rfl, _, rfl, ?_⟩
        refine ite2 (fun hc => ?_) (fun hc => ?_)
        · have hc : (pl' : Int) < (n : Int) * (blk : Int) := of_decide_eq_true hc
          have hc : pl' < n * blk := by
            rw [← Int.natCast_mul] at hc
            omega
          rw [← hblk] at hc
          obtain ⟨k1, k2, k3, k4, k5⟩ := split_step hsc hSi hpl' hc
          rw [hblk] at k1 k2 k3 k4 k5
          obtain ⟨acc, hacc, haccl⟩ := bB.at
          have ediv : ((pl' : Int) / (blk : Int)) = ((pl' / blk : Nat) : Int) := (Int.natCast_ediv _ _).symm
          have npl : pl' / blk ≤ 120 := by
            have : cnt (lk (TL F)) ch ck ≤ (lk (TL F) ch).length := List.length_filter_le _ _
            omega
          refine ⟨_, rfl, .inl ⟨rfl, _, SqL.of hacc⟩, _, rfl, _, rfl, _, rfl, _, rfl, _, _, rfl, rfl, ⟨by omega, by omega⟩, ?_⟩
          have hd : (0 : Int) ≤ (pl' : Int) / (blk : Int) ∧ (pl' : Int) / (blk : Int) ≤ 120 := by rw [ediv]; exact ⟨Int.natCast_nonneg _, by exact_mod_cast npl⟩
          refine ⟨(by show 3 ≤ sizeLine; decide), fun t2 ht2 => ⟨r, acc, _, rfl, rfl, same_upd ht2 _ _ hacc, ?_, ?_⟩⟩
          · rw [haccl, hbl]
            have := big20
            omega
          have bD := (bB.grow coordM (same_upd (o := .tup [.int (ch : Nat), .int ck, .int ((pl' : Int) / (blk : Int))]) ht2)).push (d := t2) (x := (ch, ck, pl' / blk)) coordM hrr (by
            show upd _ _ _ t2 = some (.tup [.int (ch : Nat), .int ck, .int ((pl' / blk : Nat) : Int)])
            rw [← ediv]
            exact upd_same) (same_upd ht2 _ _ hacc)
          refine ⟨_, rfl, _, rfl, _, rfl, _, _, rfl, rfl, ⟨by omega, by omega⟩, _, rfl, _, _, rfl, rfl, .inl (bnd64 hd.1 hd.2), _, _, rfl, rfl, ?_⟩
          refine ⟨_, rfl, _, rfl, _, _, rfl, rfl, ?_⟩
          refine ⟨_, _, _, _, _, s - ck, pl' - pl' / blk * blk, bl ++ [(ch, ck, pl' / blk)], by rw [Int.natCast_sub k4, Int.natCast_mul, Int.natCast_ediv]; rfl, bD, by rw [List.length_append, hbl]; rfl, by rw [hblk]; exact k3, fun bl' hb => ?_⟩
          rw [List.append_assoc]
          refine hB _ ?_
          have := Below.cons k2 hb
          rw [hblk, ← k5] at this
          exact this
        · have hc : ¬ (pl' : Int) < (n : Int) * (blk : Int) := fun z => hc (decide_eq_true z)
          rw [← Int.natCast_mul] at hc
          have hc : n * blk ≤ pl' := by omega
          refine ⟨_, rfl, _, rfl, _, rfl, _, _, rfl, rfl, .inl ⟨by rw [big]; omega, by rw [big]; omega⟩, _, _, rfl, rfl, ?_⟩
          refine ⟨_, _, _, pl' - n * blk, by rw [Int.natCast_sub hc, Int.natCast_mul]; rfl, rfl, ?_⟩
          rw [sum_take_succ _ hSi]
          show pl = _ + n * cntR (lk (TL F)) (w.2.drop (m + 1)) (s - ck) + _
          rw [hblk, hpl']
          omega
      · rintro σ HC ⟨v10, v11, v12, pl', rfl, rfl, hpl'⟩
        exfalso
        rw [hSl, List.take_length, split_sum hsc] at hpl'
        omega
    · rintro σ H1 ⟨v8, v9, v10, v11, v12, s, pl, bl, rfl, b1', hbl, hpl, hB⟩
      rw [nints_length, List.drop_length] at hpl hB
      rw [cntR_nil] at hpl
      by_cases hs : s = 0
      · subst hs
        have : pl = 0 := by simpa using hpl
        subst this
        have := hB [] .nil
        rw [List.append_nil] at this
        exact ⟨_, rfl, k H1 r bl b1'.same (b1'.done coordM hrr) this⟩
      · rw [if_neg hs] at hpl
        omega
end
end K24
namespace K24
open PySem L2 K24R
section
variable {P : Program} {w : World} {K : PySem.W.Frag} {mg : Str → Option Value} {base : Heap} {C : Addr}
/-! ### _placed -/
theorem Below.inv {L : Nat → List T} {cs : List Nat} {s : Int} {q : Nat} {x : Coord} {bl : List Coord} (h : Below L cs s q (x :: bl)) :
    ∃ c cs' q', cs = c :: cs' ∧ x.1 = c ∧ Below L cs' (s - x.2.1) q' bl ∧ q = before L c cs' s x.2.1 + x.2.2 * cntR L cs' (s - x.2.1) + q' := by
  cases h with
  | cons hp h => exact ⟨_, _, _, rfl, rfl, h, rfl⟩
theorem Below.nil_inv {L : Nat → List T} {cs : List Nat} {s : Int} {q : Nat} (h : Below L cs s q []) : q = 0 := by
  cases h
  rfl
theorem sumInt_cast (l : List Nat) : (l.map fun (n : Nat) => ((n : Nat) : Int)).sum = ((l.sum : Nat) : Int) := sum_cast l
theorem castAM (a n x : Nat) : ((a + n * x : Nat) : Int) = (a : Int) + (n : Int) * (x : Int) := by rw [Int.natCast_add, Int.natCast_mul]
def spPlaced (C : Addr) : Sp := fun vs H Q _ => ∃ (p b : Addr) (e j : Nat) (c : Int) (q : Nat) (F : Fo) (en : List Way) (bl : List Coord), vs = [.ref p, .int (e : Nat), .int (j : Nat), .ref b] ∧ ForestAt C No H p F ∧ OkF F ∧ F[e]? = some en ∧ LstAt CoordAt No H b bl ∧ Node (lk (TL F)) en c q j bl ∧
  ∀ (H' : Hp) (r : Addr), Same H H' → CoordAt No H' r (e, c, q) → Q (.ref r) H'
abbrev nPlaced : List Str := ["self", "entry", "way", "below", "child", "left", "cost", "k", "place", "child_cost", "child_place", "rest", "other", "count"]
theorem scPlaced : FnScope nPlaced ["self", "entry", "way", "below"] (defScope sPlaced) := ⟨rfl, rfl, rfl, by decide +kernel, rfl, by decide +kernel, by decide +kernel⟩
theorem ok_placed {f fN fB : Addr} {fd fdN fdB : FuncData} (Fn : Fun K "_placed" "Forest._placed" sPlaced f fd) (T : Txt K mg C)
    (FN : Fun K "counts" "Forest.counts" sCounts fN fdN) (bN : Binds K fdN ["self", "entry"] []) (mN : Meth K C "counts" fN)
    (FB : Fun K "_count_by" "Forest._count_by" sCountBy fB fdB) (bB : Binds K fdB ["self", "entry", "way", "cost"] []) (mB : Meth K C "_count_by" fB) :
    FnOk P w K mg base CX0 2 f fd ["self", "entry", "way", "below"] (spPlaced C) := by
  have GN : FnOk P w K mg base CX0 1 fN fdN ["self", "entry"] (spCounts C) := ok_counts FN T
  have GB : FnOk P w K mg base CX0 1 fB fdB ["self", "entry", "way", "cost"] (spCountBy C) := ok_countBy FB T
  refine Fn.ok scPlaced (fun vs H Q E h => ?_) (fun cdv A outer s H vs Q E hr h => ?_)
  · obtain ⟨_, _, _, _, _, _, _, _, _, rfl, _⟩ := h
    rfl
  · obtain ⟨p, b, e, j, c, q, F, en, bl, rfl, hF, okF, he, hb, hnode, k⟩ := h
    have hu := hu_of hr
    have nd := scPlaced.nd
    refine ⟨_, pss_cons (ps_set (i := 5) nd rfl (Or.inl rfl) (pe_callB (cr_sum rfl) (by rfl) T.sum (by decide +kernel) (pa_cons
          (pe_lc (own := [("child", 4)]) (g := gName 4) (tt := tYes) rfl nd (pi_list (pv 3)) (blkOk_by (N := nPlaced) (sc := defScope sPlaced) (by decide +kernel))
            (fun _ _ _ _ _ => pg_name (i := 4) nd rfl (Or.inl rfl)) (fun _ _ _ _ _ => pts_nil) (fun _ _ _ _ _ => pe_ix (ixt K) (pv 4) pe_int (fun _ _ => rfl))) pa_nil)))
      (pss_cons (ps_set (i := 6) nd rfl (Or.inr rfl) (pe_op op_add (pe_ix ix_tup (pe_ix ix_list (pe_ix ix_list (pe_fld (pv 0) rfl) (pv 1) (fun _ _ => rfl)) (pv 2) (fun _ _ => rfl)) pe_int (fun _ _ => rfl)) (pv 5)))
      (pss_cons (ps_set (i := 8) nd rfl (Or.inl rfl) (pe_callB (cr_sum rfl) (by rfl) T.sum (by decide +kernel) (pa_cons
          (pe_lc (own := [("k", 7)]) (g := gName 7) (tt := tYes) rfl nd (pi_range1 rfl T.range (pa_cons (pv 2) pa_nil)) (blkOk_by (N := nPlaced) (sc := defScope sPlaced) (by decide +kernel))
            (fun _ _ _ _ _ => pg_name (i := 7) nd rfl (Or.inl rfl)) (fun _ _ _ _ _ => pts_nil) (fun _ _ _ _ _ => pe_meth (pv 0) T.cl mB GB hr bB .nil pass0 (pa_cons (pv 1) (pa_cons (pv 7) (pa_cons (pv 6) pa_nil))))) pa_nil)))
      (pss_cons (ps_for PassesOwn.never rfl (pi_enum rfl T.enumerate (pa_cons (pv 3) pa_nil))
          (pg_tup rfl (pgs_cons (pg_name (i := 7) nd rfl (Or.inl rfl)) (pgs_cons (pg_tup rfl (pgs_cons (pg_name (i := 4) nd rfl (Or.inl rfl)) (pgs_cons (pg_name (i := 9) nd rfl (Or.inl rfl)) (pgs_cons (pg_name (i := 10) nd rfl (Or.inl rfl)) pgs_nil)))) pgs_nil)))
        (pss_cons (ps_set (i := 11) nd rfl (Or.inl rfl) (pe_ix ix_list (pe_ix ix_list (pe_ix ix_list (pe_fld (pv 0) rfl) (pv 1) (fun _ _ => rfl)) (pv 2) (fun _ _ => rfl)) (pe_op op_add (pv 7) pe_int) (fun _ _ => rfl)))
        (pss_cons (ps_for PassesOwn.never rfl (pi_list (pe_meth (pv 0) T.cl mN GN hr bN .nil pass0 (pa_cons (pv 4) pa_nil)))
            (pg_tup rfl (pgs_cons (pg_name (i := 12) nd rfl (Or.inl rfl)) (pgs_cons (pg_name (i := 13) nd rfl (Or.inl rfl)) pgs_nil)))
          (pss_one (ps_if (pt_cmpR op_lt (pv 12) (pv 9) (nomark _))
            (pss_one (ps_aug (i := 8) nd rfl (Or.inl rfl) (pe_op op_mul (pv 13) (pe_dget2 hu (pv 11) (pe_op op_sub (pv 5) (pv 12)) pe_int ⟨rfl, rfl, rfl, rfl⟩)) ip_add)) pss_nil)))
        (pss_cons (ps_aug (i := 5) nd rfl (Or.inl rfl) (pv 9) ip_sub)
        (pss_one (ps_aug (i := 8) nd rfl (Or.inl rfl) (pe_op op_mul (pv 10) (pe_dget hu (pv 11) (pv 5) (fun _ _ => rfl))) ip_add))))))
      (pss_one (ps_ret (pe_tup (pa_cons (pv 1) (pa_cons (pv 6) (pa_cons (pv 8) pa_nil))))))))), ?_⟩
    obtain ⟨w, q', hj, hbel, hqe⟩ := id hnode
    have A := okF.lists.asc
    have wmem : w ∈ en := List.mem_of_getElem? hj
    have hkids : w.2.length ≤ 6 := okF.kids en (List.mem_of_getElem? he) w wmem
    have hbl6 : bl.length ≤ 6 := by
      have := hbel.fst
      have : (bl.map (·.1)).length = w.2.length := by rw [this]
      rw [List.length_map] at this
      omega
    have hblw : bl.length = w.2.length := by
      have := hbel.fst
      have : (bl.map (·.1)).length = w.2.length := by rw [this]
      rwa [List.length_map] at this
    have hjl : j < en.length := (List.getElem?_eq_some_iff.mp hj).1
    have hen5 : en.length ≤ 5 := okF.ways en (List.mem_of_getElem? he)
    obtain ⟨_, dx, ae, ac, ar, h1, h2, h3, h4⟩ := id hF
    obtain ⟨y1, b1, i1, i2, _, i3⟩ := h2.ix he
    obtain ⟨y2, b2, j1, j2, _, j3⟩ := i3.ix hj
    obtain ⟨b3, j4, j5⟩ := j3
    obtain ⟨x1, a1, e1, e2, _, e3⟩ := h4.ix he
    obtain ⟨x2, a2, f1, f2, _, f3⟩ := e3.ix hj
    have f3 : RestAt (lk (TL F)) No H a2 w.2 := f3
    obtain ⟨_, bs, hbs, hbp⟩ := id hb
    have hbsl : (bs.map V.ref).length = bl.length := by rw [List.length_map]; exact Paired.length hbp
    -- left
    refine ⟨_, rfl, b, rfl, ⟨_, SqL.of hbs⟩, fun D hD => lc_list (K := K) (a := b) (xs := bs.map V.ref) (fun i H' => IBld H D ((bl.take i).map (·.2.1)) H') (IBld.start hD) (fun i H' _ b0 => SqL.of (b0.same _ _ hbs)) ?_ ?_⟩
    · intro i x H1 hi b0
      have hil : i < bl.length := by rw [← hbsl]; exact (List.getElem?_eq_some_iff.mp hi).1
      obtain ⟨ta, u1, u2⟩ := Paired.get hbp (List.getElem?_eq_getElem hil)
      rw [List.getElem?_map, u1] at hi
      obtain rfl : V.ref ta = x := Option.some.inj hi
      have u2 : H ta = some (.tup [.int (bl[i].1 : Nat), .int bl[i].2.1, .int (bl[i].2.2 : Nat)]) := u2
      refine ⟨rfl, ?_⟩
      refine ⟨_, rfl, ta, _, 1, .int bl[i].2.1, rfl, rfl, SqT.of (b0.same _ _ u2), rfl, _, b0.lst, ?_, ?_⟩
      · rw [List.length_map, List.length_map, List.length_take]
        have := big20
        omega
      · rw [take_snoc (List.getElem?_eq_getElem hil), List.map_append]
        exact b0.push hD
    · intro H1 b0
      rw [hbsl, List.take_length] at b0
      refine ⟨D, _, rfl, SqL.of b0.lst, ?_⟩
      rw [hbel.sum]
      have s1 := b0.same
      clear b0
      -- cost
      refine ⟨_, rfl, p, C, dx, _, _, rfl, s1 _ _ h1, T.cl, T.nE, fF_entries _ _ _, _, rfl, ae, _, _, .ref b1, rfl, rfl, SqL.of (s1 _ _ i1), atI_nat i2, _, rfl, b1, _, _, .ref b2, rfl, rfl, SqL.of (s1 _ _ j1), atI_nat j2, b2, _, 0, .int w.1, rfl, rfl, SqT.of (s1 _ _ j4), rfl, _, rfl, _, _, rfl, rfl, ?_⟩
      have ec : w.1 + (c - w.1) = c := by omega
      -- place
      refine ⟨_, rfl, _, rfl, ?_, ?_, fun D2 hD2 => lc_range (lo := 0) (n := j) (fun i H' => IBld H1 D2 (((en.take i).map fun w => ((cntR (lk (TL F)) w.2 (c - w.1) : Nat) : Int))) H') (IBld.start hD2) ?_ ?_⟩
      · have : (-(2 ^ 62) : Int) < 0 := by decide
        omega
      · have : (9 : Int) < 2 ^ 62 := by decide
        omega
      · intro i H2 hi b2'
        have hie : en[i]? = some (en[i]'(by omega)) := List.getElem?_eq_getElem _
        generalize en[i]'(by omega) = wi at hie
        have s2 := s1.trans b2'.same
        refine ⟨rfl, ?_⟩
        rw [Int.zero_add]
        refine ⟨_, rfl, p, dx, _, rfl, s2 _ _ h1, fF_no _ _ _ (by decide +kernel) (by decide +kernel) (by decide +kernel), _, rfl, _, rfl, _, rfl, ?_⟩
        refine ⟨p, e, i, c, F, en, wi, by show [_, _, _, V.int (w.1 + (c - w.1))] = _; rw [ec], (forestM C).same s2 hF, he, hie, _, b2'.lst, ?_, ?_⟩
        · rw [List.length_map, List.length_map, List.length_take]
          have := big20
          omega
        · rw [take_snoc hie, List.map_append]
          exact b2'.push hD2
      · intro H2 b2'
        refine ⟨D2, _, rfl, SqL.of b2'.lst, ?_⟩
        have epre : ((en.take j).map fun w => ((cntR (lk (TL F)) w.2 (c - w.1) : Nat) : Int)).sum = ((pre (lk (TL F)) en j c : Nat) : Int) := by
          rw [pre, ← sum_cast, List.map_map]
          rfl
        rw [epre]
        have s2 := s1.trans b2'.same
        clear b2'
        -- the loop
        refine ⟨_, rfl, b, _, rfl, SqL.of (s2 _ _ hbs), ?_⟩
        refine for_it walk_enum (fun m σ H' => ∃ (v4 v7 v9 v10 v11 v12 v13 : Option V) (s : Int) (pl qm : Nat), σ = [some (.ref p), some (.int (e : Nat)), some (.int (j : Nat)), some (.ref b), v4, some (.int s), some (.int c), v7, some (.int (pl : Nat)), v9, v10, v11, v12, v13] ∧
            Same H H' ∧ Below (lk (TL F)) (w.2.drop m) s qm (bl.drop m) ∧ pl + qm = q)
          ⟨_, _, _, _, _, _, _, c - w.1, pre (lk (TL F)) en j c, q', by show [_, _, _, _, _, _, some (V.int (w.1 + (c - w.1))), _, _, _, _, _, _, _] = _; rw [ec], s2, by rw [List.drop_zero, List.drop_zero]; exact hbel, hqe.symm⟩ (fun m σ H' _ ⟨_, _, _, _, _, _, _, _, _, _, _, sm, _⟩ => SqL.of (sm _ _ hbs)) ?_ ?_
        · rintro m x σ H3 H4 hm ⟨v4, v7, v9, v10, v11, v12, v13, s, pl, qm, rfl, s3, hBm, hpl⟩ ⟨t, y, z, rfl, ht, rfl, hy, hz⟩
          obtain rfl := (Option.some.inj hy)
          have hz : (bs.map V.ref)[m]? = some z := hz
          rw [hbsl] at hm
          obtain ⟨ta, u1, u2⟩ := Paired.get hbp (List.getElem?_eq_getElem hm)
          rw [List.getElem?_map, u1] at hz
          obtain rfl : V.ref ta = z := Option.some.inj hz
          have hdb : bl.drop m = bl[m] :: bl.drop (m + 1) := List.drop_eq_getElem_cons hm
          have hmw : m < w.2.length := by omega
          have hdw : w.2.drop m = w.2[m] :: w.2.drop (m + 1) := List.drop_eq_getElem_cons hmw
          rw [hdb] at hBm
          obtain ⟨ch', cs', qn, ew, ech, hBn, eqm⟩ := hBm.inv
          rw [hdw] at ew
          obtain ⟨ew1, ew2⟩ := List.cons.inj ew
          subst ew2
          have hch : w.2[m] = ch' := ew1
          have u2 : H ta = some (.tup [.int (bl[m].1 : Nat), .int bl[m].2.1, .int (bl[m].2.2 : Nat)]) := u2
          rw [ech] at u2
          generalize bl[m].2.1 = ck at u2 hBn eqm
          generalize bl[m].2.2 = cp at u2 eqm
          have cmem : ch' ∈ w.2 := by rw [← hch]; exact List.getElem_mem hmw
          have hlt : ch' < e := okF.wf.chi e en he w wmem ch' cmem
          have heF := (List.getElem?_eq_some_iff.mp he).1
          have hchF : ch' < F.length := by omega
          have s4 := s3.trans (same_upd (o := .tup [.int (m : Nat), .ref ta]) ht)
          have tup1 : (upd H3 t (.tup [.int (m : Nat), .ref ta])) t = some (.tup [.int (m : Nat), .ref ta]) := upd_same
          generalize upd H3 t (.tup [.int (m : Nat), .ref ta]) = HA at s4 tup1
          refine ⟨t, _, rfl, SqT.of tup1, rfl, _, _, rfl, _, _, rfl, ⟨ta, _, rfl, SqT.of (s4 _ _ u2), rfl, _, _, rfl, _, _, rfl, _, _, rfl, rfl, rfl, ?_⟩⟩
          obtain ⟨xs, d, x1', x2', _, kv, x4, x5⟩ := f3.get (show m + 1 ≤ w.2.length by omega)
          have hrows : (rows (lk (TL F)) (w.2.drop (m + 1))).length ≤ 120 := okF.rows_le (a := w.2.take (m + 1)) he wmem (List.take_append_drop _ _)
          have hlen120 : (lk (TL F) ch').length ≤ 120 := okF.len_le (List.getElem?_eq_getElem hchF)
          -- rest
          refine ⟨_, rfl, p, C, dx, _, _, rfl, s4 _ _ h1, T.cl, T.nR, fF_rests _ _ _, _, rfl, ar, _, _, .ref a1, rfl, rfl, SqL.of (s4 _ _ e1), atI_nat e2, _, rfl, a1, _, _, .ref a2, rfl, rfl, SqL.of (s4 _ _ f1), atI_nat f2, _, rfl, _, _, rfl, rfl, a2, _, (m : Int) + 1, .ref d, rfl, rfl, SqL.of (s4 _ _ x1'), at_of (j := m + 1) (by omega) x2', ?_⟩
          -- counts
          refine ⟨_, rfl, p, dx, _, rfl, s4 _ _ h1, fF_no _ _ _ (by decide +kernel) (by decide +kernel) (by decide +kernel), _, rfl, ?_⟩
          refine ⟨p, ch', TL F, lk (TL F) ch', rfl, ((forestM C).same s4 hF).tabs, lk_get hchF, fun HB rl S sB hS hsc => ?_⟩
          have s5 := s4.trans sB
          obtain ⟨_, as, hrl, hpr⟩ := id hS
          have hSl : (as.map V.ref).length = S.length := by rw [List.length_map]; exact Paired.length hpr
          refine ⟨rl, rfl, ⟨_, SqL.of hrl⟩, for_list (K := K) (a := rl) (xs := as.map V.ref) (fun i σ H' => ∃ (v12 v13 : Option V), σ = [some (.ref p), some (.int (e : Nat)), some (.int (j : Nat)), some (.ref b), some (.int (ch' : Nat)), some (.int s), some (.int c), some (.int (m : Nat)),
              some (.int ((pl + ((S.take i).map fun p => if p.1 < ck then p.2 * cntR (lk (TL F)) (w.2.drop (m + 1)) (s - p.1) else 0).sum : Nat) : Int)), some (.int ck), some (.int (cp : Nat)), some (.ref d), v12, v13] ∧ H' = HB) ⟨_, _, rfl, rfl⟩ (fun i σ H' _ ⟨_, _, _, e⟩ => by rw [e]; exact SqL.of hrl) ?_ ?_⟩
          · rintro i x σ HC hi ⟨v12, v13, rfl, rfl⟩
            have hil : i < S.length := by rw [← hSl]; exact (List.getElem?_eq_some_iff.mp hi).1
            obtain ⟨tb, w1, w2⟩ := Paired.get hpr (List.getElem?_eq_getElem hil)
            rw [List.getElem?_map, w1] at hi
            obtain rfl : V.ref tb = x := Option.some.inj hi
            have hSi : S[i]? = some (S[i].1, S[i].2) := List.getElem?_eq_getElem hil
            generalize hoc : S[i].1 = oc at hSi
            generalize hn : S[i].2 = n at hSi
            have w2 : HC tb = some (.tup [.int oc, .int (n : Nat)]) := by rw [← hoc, ← hn]; exact w2
            have hn120 : n ≤ 120 := Nat.le_trans (scnt_le hsc hSi) (by rw [costs_length]; exact hlen120)
            refine ⟨tb, _, rfl, SqT.of w2, rfl, _, _, rfl, _, _, rfl, rfl, ?_⟩
            refine ⟨_, rfl, _, rfl, _, _, rfl, rfl, _, rfl, ?_⟩
            rw [sum_take_succ _ hSi]
            refine ite2 (fun hc => ?_) (fun hc => ?_)
            · have hc : oc < ck := of_decide_eq_true hc
              refine ⟨_, rfl, _, rfl, _, rfl, d, rfl, .inl ⟨_, .inl (s5 _ _ x4)⟩, _, rfl, _, rfl, _, _, rfl, rfl, _, dget_dk (.inl (s5 _ _ x4)), ?_⟩
              rw [valV_dk_getD x5.nd, x5.val, count_costs, ← cntR]
              refine ⟨_, _, rfl, rfl, .inl (bnd64 (Int.natCast_nonneg _) (by exact_mod_cast hn120)), _, _, rfl, rfl, ?_⟩
              refine ⟨some (.int oc), some (.int (n : Nat)), ?_, rfl⟩
              show _ = [_, _, _, _, _, _, _, _, some (V.int ((pl + (_ + if oc < ck then n * cntR (lk (TL F)) (w.2.drop (m + 1)) (s - oc) else 0) : Nat) : Int)), _, _, _, _, _]
              rw [if_pos hc, ← Nat.add_assoc, castAM]
              rfl
            · have hc : ¬ oc < ck := fun z => hc (decide_eq_true z)
              refine ⟨some (.int oc), some (.int (n : Nat)), ?_, rfl⟩
              show _ = [_, _, _, _, _, _, _, _, some (V.int ((pl + (_ + if oc < ck then n * cntR (lk (TL F)) (w.2.drop (m + 1)) (s - oc) else 0) : Nat) : Int)), _, _, _, _, _]
              rw [if_neg hc, Nat.add_zero]
              rfl
          · rintro σ HC ⟨v12, v13, rfl, rfl⟩
            rw [hSl, List.take_length, hsc.sum_if (fun a => cntR (lk (TL F)) (w.2.drop (m + 1)) (s - a)) ck, before_eq]
            -- left -= child_cost; place += child_place * rest[left]
            have hq0 := hBn.lt A
            have hrest : ((s - ck, cntR (lk (TL F)) (w.2.drop (m + 1)) (s - ck)) : Int × Nat) ∈ kv := by
              have h0 : 0 < (costs (rows (lk (TL F)) (w.2.drop (m + 1)))).count (s - ck) := by
                rw [count_costs, ← cntR]; omega
              have := x5.has (List.count_pos_iff.mp h0)
              rwa [count_costs, ← cntR] at this
            have hb120 := Nat.le_trans (cntR_le (lk (TL F)) (w.2.drop (m + 1)) (s - ck)) hrows
            refine ⟨_, rfl, _, rfl, _, _, rfl, rfl, ?_⟩
            refine ⟨_, rfl, _, rfl, _, rfl, _, rfl, d, _, rfl, dget_mem (.inl (s5 _ _ x4)) x5.nd hrest, _, _, rfl, rfl, .inr (bnd64 (Int.natCast_nonneg _) (by exact_mod_cast hb120)), _, _, rfl, rfl, ?_⟩
            refine ⟨some (.int (ch' : Nat)), some (.int (m : Nat)), some (.int ck), some (.int (cp : Nat)), some (.ref d), v12, v13, s - ck, pl + before (lk (TL F)) ch' (w.2.drop (m + 1)) s ck + cp * cntR (lk (TL F)) (w.2.drop (m + 1)) (s - ck), qn, ?_, s5, hBn, by rw [eqm] at hpl; omega⟩
            rw [castAM]
            rfl
        · rintro σ H3 ⟨v4, v7, v9, v10, v11, v12, v13, s, pl, qm, rfl, s3, hBm, hpl⟩
          rw [hbsl, List.drop_length] at hBm
          have := hBm.nil_inv
          subst this
          rw [Nat.add_zero] at hpl
          subst hpl
          refine ⟨_, rfl, _, rfl, _, rfl, ?_⟩
          exact ⟨(by show 3 ≤ sizeLine; decide), fun t ht => k _ t (s3.trans (same_upd ht)) upd_same⟩
end
end K24
namespace K24
open PySem L2 K24R
section
variable {P : Program} {w : World} {K : PySem.W.Frag} {mg : Str → Option Value} {base : Heap} {C : Addr}
/-! ### tree -/
structure TInv (H : Hp) (r1 r2 : Addr) (tr : Flat) (st : List Coord) (H' : Hp) : Prop where
  same : Same H H'
  t1 : ∃ ds : List Addr, H' r1 = some (.lst (ds.map V.ref)) ∧ Paired (PairAt No H') ds tr
  t2 : ∃ ds : List Addr, H' r2 = some (.lst (ds.map V.ref)) ∧ Paired (CoordAt No H') ds st
theorem TInv.grow {H H1 H2 : Hp} {r1 r2 : Addr} {tr : Flat} {st : List Coord} (i : TInv H r1 r2 tr st H1) (e : Same H1 H2) : TInv H r1 r2 tr st H2 := by
  obtain ⟨ds, a1, a2⟩ := i.t1
  obtain ⟨es, b1, b2⟩ := i.t2
  exact ⟨i.same.trans e, ⟨ds, e _ _ a1, Paired.imp (fun _ _ z => pairM.same e z) a2⟩, ⟨es, e _ _ b1, Paired.imp (fun _ _ z => coordM.same e z) b2⟩⟩
theorem TInv.put1 {H H1 : Hp} {r1 r2 d : Addr} {tr : Flat} {st : List Coord} {x : Nat × Nat} (i : TInv H r1 r2 tr st H1) (h0 : H r1 = none) (hne : r2 ≠ r1) (hx : PairAt No H1 d x) {acc : List V} (ha : H1 r1 = some (.lst acc)) :
    TInv H r1 r2 (tr ++ [x]) st (upd H1 r1 (.lst (acc ++ [.ref d]))) := by
  obtain ⟨ds, a1, a2⟩ := i.t1
  obtain ⟨es, b1, b2⟩ := i.t2
  rw [a1] at ha
  cases ha
  have r : Ret (fun b => b = r1) H1 (upd H1 r1 (.lst (ds.map V.ref ++ [V.ref d]))) := Ret.upd rfl a1 fun _ z => by cases z
  have g : ∀ a y, PairAt No H1 a y → PairAt No (upd H1 r1 (.lst (ds.map V.ref ++ [V.ref d]))) a y := fun a y z => r.tup z
  have g2 : ∀ a y, CoordAt No H1 a y → CoordAt No (upd H1 r1 (.lst (ds.map V.ref ++ [V.ref d]))) a y := fun a y z => r.tup z
  refine ⟨fun c o e => ?_, ⟨ds ++ [d], by rw [upd_same, List.map_append]; rfl, Paired.snoc (Paired.imp g a2) (g _ _ hx)⟩, ⟨es, by rw [upd_ne hne]; exact b1, Paired.imp g2 b2⟩⟩
  rw [upd_ne (ne_of_none e h0)]
  exact i.same c o e
theorem TInv.put2 {H H1 : Hp} {r1 r2 : Addr} {tr : Flat} {st st' : List Coord} {zs : List Addr} (i : TInv H r1 r2 tr st H1) (h0 : H r2 = none) (hne : r1 ≠ r2) (hx : Paired (CoordAt No H1) zs st') : TInv H r1 r2 tr st' (upd H1 r2 (.lst (zs.map V.ref))) := by
  obtain ⟨ds, a1, a2⟩ := i.t1
  obtain ⟨es, b1, b2⟩ := i.t2
  have r : Ret (fun b => b = r2) H1 (upd H1 r2 (.lst (zs.map V.ref))) := Ret.upd rfl b1 fun _ z => by cases z
  refine ⟨fun c o e => ?_, ⟨ds, by rw [upd_ne hne]; exact a1, Paired.imp (fun a y (z : PairAt No H1 a y) => (r.tup z : PairAt No _ a y)) a2⟩, ⟨zs, upd_same, Paired.imp (fun a y (z : CoordAt No H1 a y) => (r.tup z : CoordAt No _ a y)) hx⟩⟩
  rw [upd_ne (ne_of_none e h0)]
  exact i.same c o e
theorem flat_pos {F : Fo} {L : Nat → List T} (G : Lists F L) {x : Coord} (h1 : x.1 < F.length) (h2 : x.2.2 < cnt L x.1 x.2.1) : 1 ≤ (flatC L x).length := by
  have he : F[x.1]? = some F[x.1] := List.getElem?_eq_getElem h1
  obtain ⟨j, bl, hn⟩ := Node.has G.asc (G.ent _ _ he) h2
  have := hn.flat G.asc (G.ent _ _ he)
  rw [show x = (x.1, x.2.1, x.2.2) from rfl, this]
  simp
theorem stack_le {F : Fo} {L : Nat → List T} (G : Lists F L) : ∀ {st : List Coord}, (∀ x ∈ st, x.1 < F.length ∧ x.2.2 < cnt L x.1 x.2.1) → st.length ≤ (st.flatMap (flatC L)).length
  | [], _ => Nat.zero_le _
  | x :: st, h => by
    rw [List.flatMap_cons, List.length_append, List.length_cons]
    have h1 := h x (by simp)
    have := flat_pos G h1.1 h1.2
    have := stack_le G fun y hy => h y (List.mem_cons_of_mem _ hy)
    omega
theorem flatMap_rev_len {α β : Type} (f : α → List β) (l : List α) : (l.reverse.flatMap f).length = (l.flatMap f).length := by
  rw [length_flatMap_sum, length_flatMap_sum, List.map_reverse]
  exact (List.reverse_perm _).sum_nat
/-- where the outer loop stands -/
def TSt (F : Fo) (H : Hp) (p r1 r2 : Addr) (e : Nat) (fl : Flat) (m : Nat) (σ : L2.St) (H' : Hp) : Prop :=
  ∃ (v2 v3 v4 v7 v8 v9 : Option V) (tr : Flat) (st : List Coord), m = (st.reverse.flatMap (flatC (lk (TL F)))).length ∧ σ = [some (.ref p), some (.int (e : Nat)), v2, v3, v4, some (.ref r1), some (.ref r2), v7, v8, v9] ∧
    TInv H r1 r2 tr st H' ∧ (∀ x ∈ st, x.1 < F.length ∧ x.2.2 < cnt (lk (TL F)) x.1 x.2.1) ∧ tr ++ st.reverse.flatMap (flatC (lk (TL F))) = fl
/-- where the inner loop stands -/
def WSt (F : Fo) (H5 : Hp) (p r1 r2 : Addr) (e a : Nat) (c : Int) (q : Nat) (en : List Way) (v2 v4 : Option V) (m : Nat) (σ : L2.St) (H' : Hp) : Prop :=
  ∃ (j pl : Nat), m = en.length - j ∧ σ = [some (.ref p), some (.int (e : Nat)), v2, some (.int c), v4, some (.ref r1), some (.ref r2), some (.int (a : Nat)), some (.int (pl : Nat)), some (.int (j : Nat))] ∧ H' = H5 ∧ j ≤ en.length ∧ q = pre (lk (TL F)) en j c + pl
def spTree (C : Addr) : Sp := fun vs H Q _ => ∃ (p : Addr) (e n : Nat) (F : Fo) (t : T), vs = [.ref p, .int (e : Nat), .int (n : Nat)] ∧ ForestAt C No H p F ∧ OkF F ∧ e < F.length ∧ (lk (TL F) e)[n]? = some t ∧
  ∀ (H' : Hp) (r : Addr), Same H H' → FlatAt (Dom H) H' r t.2 → Q (.ref r) H'
abbrev nTree : List Str := ["self", "entry", "number", "cost", "count", "tree", "tasks", "at", "place", "way"]
theorem scTree : FnScope nTree ["self", "entry", "number"] (defScope sTree) := ⟨rfl, rfl, rfl, by decide +kernel, rfl, by decide +kernel, by decide +kernel⟩
theorem ok_tree {f fN fT fB fS : Addr} {fd fdN fdT fdB fdS : FuncData} (Fn : Fun K "tree" "Forest.tree" sTree f fd) (T : Txt K mg C)
    (FN : Fun K "counts" "Forest.counts" sCounts fN fdN) (bN : Binds K fdN ["self", "entry"] []) (mN : Meth K C "counts" fN)
    (FT : Fun K "total" "Forest.total" sTotal fT fdT) (bT : Binds K fdT ["self", "entry"] []) (mT : Meth K C "total" fT)
    (FB : Fun K "_count_by" "Forest._count_by" sCountBy fB fdB) (bB : Binds K fdB ["self", "entry", "way", "cost"] []) (mB : Meth K C "_count_by" fB)
    (FS : Fun K "_split" "Forest._split" sSplit fS fdS) (bS : Binds K fdS ["self", "entry", "way", "cost", "place"] []) (mS : Meth K C "_split" fS) :
    FnOk P w K mg base CX0 3 f fd ["self", "entry", "number"] (spTree C) := by
  have GN : FnOk P w K mg base CX0 1 fN fdN ["self", "entry"] (spCounts C) := ok_counts FN T
  have GT : FnOk P w K mg base CX0 1 fT fdT ["self", "entry"] (spTotal C) := ok_total FT T
  have GB : FnOk P w K mg base CX0 1 fB fdB ["self", "entry", "way", "cost"] (spCountBy C) := ok_countBy FB T
  have GS : FnOk P w K mg base CX0 2 fS fdS ["self", "entry", "way", "cost", "place"] (spSplit C) := ok_split FS T FN bN mN
  refine Fn.ok scTree (fun vs H Q E h => ?_) (fun cdv A outer s H vs Q E hr h => ?_)
  · obtain ⟨_, _, _, _, _, rfl, _⟩ := h
    rfl
  · obtain ⟨p, e, n, F, t, rfl, hF, okF, heF, hn, k⟩ := h
    have hr1 : Room 1 _ := hr.mono (by decide)
    have nd := scTree.nd
    refine ⟨_, pss_cons (ps_if (pt_not (pt_chain op_le op_lt pe_int (pv 2) (pe_meth (pv 0) T.cl mT GT hr1 bT .nil pass0 (pa_cons (pv 1) pa_nil)))) (pss_one ps_never) pss_nil)
      (pss_cons (ps_set (i := 3) nd rfl (Or.inl rfl) pe_int)
      (pss_cons (ps_for PassesOwn.never rfl (pi_list (pe_meth (pv 0) T.cl mN GN hr1 bN .nil pass0 (pa_cons (pv 1) pa_nil)))
          (pg_tup rfl (pgs_cons (pg_name (i := 3) nd rfl (Or.inl rfl)) (pgs_cons (pg_name (i := 4) nd rfl (Or.inl rfl)) pgs_nil)))
        (pss_cons (ps_if (pt_cmpR op_lt (pv 2) (pv 4) (nomark _)) (pss_one ps_break) pss_nil)
        (pss_one (ps_aug (i := 2) nd rfl (Or.inl rfl) (pv 4) ip_sub))))
      (pss_cons (ps_set (i := 5) nd rfl (Or.inl rfl) (pe_lst pa_nil))
      (pss_cons (ps_set (i := 6) nd rfl (Or.inl rfl) (pe_lst (pa_cons (pe_tup (pa_cons (pv 1) (pa_cons (pv 3) (pa_cons (pv 2) pa_nil)))) pa_nil)))
      (pss_cons (ps_while PassesOwn.never (pt_cmpR op_gt (pe_callB call_len_seq (by rfl) T.len PySem.boot_len (pa_cons (pv 6) pa_nil)) pe_int (nomark _))
        (pss_cons (ps_asg (pe_bm0 PySem.F.plainAttrs_list PySem.F.slot_list_pop PySem.F.type_list_pop mt_pop (pv 6))
          (pg_tup rfl (pgs_cons (pg_name (i := 7) nd rfl (Or.inl rfl)) (pgs_cons (pg_name (i := 3) nd rfl (Or.inl rfl)) (pgs_cons (pg_name (i := 8) nd rfl (Or.inl rfl)) pgs_nil)))))
        (pss_cons (ps_set (i := 9) nd rfl (Or.inl rfl) pe_int)
        (pss_cons (ps_while PassesOwn.never (pt_cmpR op_ge (pv 8) (pe_meth (pv 0) T.cl mB GB hr1 bB .nil pass0 (pa_cons (pv 7) (pa_cons (pv 9) (pa_cons (pv 3) pa_nil)))) (nomark _))
          (pss_cons (ps_aug (i := 8) nd rfl (Or.inl rfl) (pe_meth (pv 0) T.cl mB GB hr1 bB .nil pass0 (pa_cons (pv 7) (pa_cons (pv 9) (pa_cons (pv 3) pa_nil)))) ip_sub)
          (pss_one (ps_aug (i := 9) nd rfl (Or.inl rfl) pe_int ip_add))))
        (pss_cons (ps_expr (pe_bm PySem.F.plainAttrs_list PySem.F.slot_list_append PySem.F.type_list_append mt_append (pv 5) (pa_cons (pe_tup (pa_cons (pv 7) (pa_cons (pv 9) pa_nil))) pa_nil)))
        (pss_one (ps_expr (pe_bm PySem.F.plainAttrs_list PySem.F.slot_list_extend PySem.F.type_list_extend mt_extend (pv 6) (pa_cons (pe_listRev rfl rfl T.list rfl T.reversed
          (pe_meth (pv 0) T.cl mS GS hr bS .nil pass0 (pa_cons (pv 7) (pa_cons (pv 9) (pa_cons (pv 3) (pa_cons (pv 8) pa_nil)))))) pa_nil)))))))))
      (pss_one (ps_ret (pv 5)))))))), ?_⟩
    obtain ⟨_, dx, ae, ac, ar, h1, h2, h3, h4⟩ := id hF
    have G := okF.lists
    have A := G.asc
    have hen : F[e]? = some F[e] := List.getElem?_eq_getElem heF
    have hnl : n < (lk (TL F) e).length := (List.getElem?_eq_some_iff.mp hn).1
    have hfl : t.2.length ≤ 2015539 := okF.flat_le hen (List.mem_of_getElem? hn)
    have hbig : (2015539 : Nat) + 100 < sizeLine := by decide
    refine ⟨_, rfl, _, _, rfl, rfl, _, rfl, ?_⟩
    rw [decide_eq_true (show (0 : Int) ≤ (n : Nat) by omega)]
    refine iteT ⟨_, rfl, p, dx, _, rfl, h1, fF_no _ _ _ (by decide +kernel) (by decide +kernel) (by decide +kernel), _, rfl, ?_⟩
    refine ⟨p, e, TL F, lk (TL F) e, rfl, hF.tabs, lk_get heF, fun H1 s1 => ?_⟩
    refine ⟨_, _, rfl, rfl, _, rfl, ?_⟩
    rw [decide_eq_true (show ((n : Nat) : Int) < ((lk (TL F) e).length : Nat) by omega)]
    refine iteF ?_
    refine ⟨_, rfl, p, dx, _, rfl, s1 _ _ h1, fF_no _ _ _ (by decide +kernel) (by decide +kernel) (by decide +kernel), _, rfl, ?_⟩
    refine ⟨p, e, TL F, lk (TL F) e, rfl, ((forestM C).same s1 hF).tabs, lk_get heF, fun H2 rl S s2 hS hsc => ?_⟩
    have s02 := s1.trans s2
    obtain ⟨_, as, hrl, hpr⟩ := id hS
    have hSl : (as.map V.ref).length = S.length := by rw [List.length_map]; exact Paired.length hpr
    refine ⟨rl, rfl, ⟨_, SqL.of hrl⟩, for_list (K := K) (a := rl) (xs := as.map V.ref) (fun i σ H' => ∃ (v3 v4 : Option V) (n' : Nat), σ = [some (.ref p), some (.int (e : Nat)), some (.int (n' : Nat)), v3, v4, none, none, none, none, none] ∧ H' = H2 ∧ n = ((S.take i).map (·.2)).sum + n')
      ⟨_, _, n, rfl, rfl, by simp⟩ (fun i σ H' _ ⟨_, _, _, _, e, _⟩ => by rw [e]; exact SqL.of hrl) ?_ ?_⟩
    · rintro i x σ HC hi ⟨v3, v4, n', rfl, rfl, hn'⟩
      have hil : i < S.length := by rw [← hSl]; exact (List.getElem?_eq_some_iff.mp hi).1
      obtain ⟨ta, u1, u2⟩ := Paired.get hpr (List.getElem?_eq_getElem hil)
      rw [List.getElem?_map, u1] at hi
      obtain rfl : V.ref ta = x := Option.some.inj hi
      have hSi : S[i]? = some (S[i].1, S[i].2) := List.getElem?_eq_getElem hil
      generalize hck : S[i].1 = ck at hSi
      generalize hnn : S[i].2 = nn at hSi
      have u2 : HC ta = some (.tup [.int ck, .int (nn : Nat)]) := by rw [← hck, ← hnn]; exact u2
      refine ⟨ta, _, rfl, SqT.of u2, rfl, _, _, rfl, _, _, rfl, rfl, ?_⟩
      refine ⟨_, rfl, _, rfl, _, _, rfl, rfl, _, rfl, ?_⟩
      refine ite2 (fun hc => ?_) (fun hc => ?_)
      · have hc : (n' : Int) < (nn : Nat) := of_decide_eq_true hc
        have hc : n' < cnt (lk (TL F)) e ck := by
          have : nn = cnt (lk (TL F)) e ck := by rw [hsc.cnt.mem (List.mem_of_getElem? hSi), count_costs, cnt]
          omega
        have hfc : flatC (lk (TL F)) (e, ck, n') = t.2 := by
          have ht' : (fil ck (lk (TL F) e))[n']? = some (fil ck (lk (TL F) e))[n'] := List.getElem?_eq_getElem hc
          have e2 := num_at A ht'
          have e1 := hsc.lt_count hSi
          rw [costs_lt, costs_length] at e1
          rw [← e1, ← hn', hn] at e2
          rw [← e2] at ht'
          exact flatC_of ht'
        clear hS hsc hrl hpr u2
        -- tree = [], tasks = [..]
        refine ⟨Nat.zero_le _, fun r1 hr1' => ?_⟩
        have hr1H : H r1 = none := s02.free hr1'
        refine ⟨_, rfl, _, rfl, _, rfl, (by show 3 ≤ sizeLine; decide), fun tt htt => ⟨(by show 1 ≤ sizeLine; decide), fun r2 hr2' => ?_⟩⟩
        have s3 : Same HC (upd HC r1 (.lst [])) := same_upd hr1'
        have s4 := s3.trans (same_upd (o := .tup [.int (e : Nat), .int ck, .int (n' : Nat)]) htt)
        have hr2H : H r2 = none := s02.free (s4.free hr2')
        have n12 : r1 ≠ r2 := fun z => by
          subst z
          have : (upd (upd HC r1 (.lst [])) tt (.tup [.int (e : Nat), .int ck, .int (n' : Nat)])) r1 = some (.lst []) := (same_upd htt) _ _ upd_same
          rw [this] at hr2'
          cases hr2'
        have nt2 : tt ≠ r2 := fun z => by
          subst z
          rw [upd_same] at hr2'
          cases hr2'
        have I0 : TInv H r1 r2 [] [(e, ck, n')] (upd (upd (upd HC r1 (.lst [])) tt (.tup [.int (e : Nat), .int ck, .int (n' : Nat)])) r2 (.lst [.ref tt])) := by
          refine ⟨(s02.trans s4).trans (same_upd hr2'), ⟨[], ?_, .nil⟩, ⟨[tt], upd_same, .cons ?_ .nil⟩⟩
          · exact (same_upd hr2') _ _ ((same_upd htt) _ _ upd_same)
          · show upd _ r2 _ tt = _
            rw [upd_ne nt2, upd_same]
        generalize upd (upd (upd HC r1 (.lst [])) tt (.tup [.int (e : Nat), .int ck, .int (n' : Nat)])) r2 (.lst [.ref tt]) = H3 at I0
        refine ⟨TSt F H p r1 r2 e t.2, ⟨_, _, _, _, _, _, _, [], [(e, ck, n')], rfl, rfl, I0, by simpa using ⟨heF, hc⟩, by simpa using hfc⟩, ?_⟩
        rintro m σ H4 ⟨v2, v3, v4, v7, v8, v9, tr, st, rfl, rfl, I, hv, hcat⟩
        obtain ⟨es, b1, b2⟩ := I.t2
        refine ⟨_, rfl, r2, _, rfl, .inl (SqL.of b1), _, _, rfl, rfl, _, rfl, ?_⟩
        refine ite2 (fun hc => ?_) (fun hc => ?_)
        · have hc : (0 : Int) < ((es.map V.ref).length : Nat) := of_decide_eq_true hc
          rw [List.length_map, Paired.length b2] at hc
          have hne : st ≠ [] := fun z => by rw [z] at hc; simp at hc
          obtain ⟨st0, x, rfl⟩ : ∃ st0 x, st = st0 ++ [x] := ⟨st.dropLast, st.getLast hne, (List.dropLast_concat_getLast hne).symm⟩
          obtain ⟨es0, d, rfl, b3, b4⟩ := Paired.snoc_inv b2
          obtain ⟨a, c, q⟩ := x
          have b4 : H4 d = some (.tup [.int (a : Nat), .int c, .int (q : Nat)]) := b4
          have b1 : H4 r2 = some (.lst (es0.map V.ref ++ [V.ref d])) := by rw [List.map_append] at b1; exact b1
          refine ⟨fun σ' H' => ∃ m', m' < _ ∧ TSt F H p r1 r2 e t.2 m' σ' H', fun σ' H' h => h, ?_⟩
          refine ⟨_, rfl, .inl ⟨rfl, _, SqL.of b1⟩, r2, _, .ref d, rfl, rfl, b1, by simp, ?_⟩
          have edl : (es0.map V.ref ++ [V.ref d]).dropLast = es0.map V.ref := List.dropLast_concat
          have I5 : TInv H r1 r2 tr st0 (upd H4 r2 (.lst (es0.map V.ref ++ [V.ref d]).dropLast)) := by rw [edl]; exact I.put2 hr2H n12 b3
          have hd5 : (upd H4 r2 (.lst (es0.map V.ref ++ [V.ref d]).dropLast)) d = some (.tup [.int (a : Nat), .int c, .int (q : Nat)]) := by
            have r : Ret (fun b => b = r2) H4 (upd H4 r2 (.lst (es0.map V.ref ++ [V.ref d]).dropLast)) := Ret.upd rfl b1 fun _ z => by cases z
            exact r.tup b4
          have hl5 : (upd H4 r2 (.lst (es0.map V.ref ++ [V.ref d]).dropLast)) r2 = some (.lst (es0.map V.ref)) := by rw [upd_same, edl]
          generalize upd H4 r2 (.lst (es0.map V.ref ++ [V.ref d]).dropLast) = H5 at I5 hd5 hl5
          refine ⟨d, _, rfl, SqT.of hd5, rfl, _, _, rfl, _, _, rfl, _, _, rfl, rfl, ?_⟩
          obtain ⟨haF, hqc⟩ := hv (a, c, q) (by simp)
          have haF : a < F.length := haF
          have hqc : q < cnt (lk (TL F)) a c := hqc
          have hea : F[a]? = some F[a] := List.getElem?_eq_getElem haF
          generalize F[a] = en at hea
          have hF5 := (forestM C).same I5.same hF
          refine ⟨WSt F H5 p r1 r2 e a c q en v2 v4, ⟨_, 0, q, rfl, rfl, rfl, Nat.zero_le _, by simp [pre]⟩, ?_⟩
          rintro m σ H' ⟨j, pl, rfl, rfl, rfl, hj, hq⟩
          have hjl : j < en.length := by
            rcases Nat.lt_or_ge j en.length with z | z
            · exact z
            · exfalso
              have := (G.ent a en hea).cnt c
              rw [pre, List.take_of_length_le z] at hq
              omega
          have hjw : en[j]? = some en[j] := List.getElem?_eq_getElem hjl
          generalize en[j] = wj at hjw
          refine ⟨_, rfl, _, rfl, p, dx, _, rfl, I5.same _ _ h1, fF_no _ _ _ (by decide +kernel) (by decide +kernel) (by decide +kernel), _, rfl, _, rfl, _, rfl, ?_⟩
          refine ⟨p, a, j, c, F, en, wj, rfl, hF5, hea, hjw, _, _, rfl, rfl, _, rfl, ?_⟩
          refine ite2 (fun hc => ?_) (fun hc => ?_)
          · have hc : ((cntR (lk (TL F)) wj.2 (c - wj.1) : Nat) : Int) ≤ (pl : Nat) := of_decide_eq_true hc
            refine ⟨fun σ' H'' => ∃ m', m' < _ ∧ WSt F H' p r1 r2 e a c q en v2 v4 m' σ' H'', fun σ' H' h => h, ?_⟩
            refine ⟨_, rfl, _, rfl, p, dx, _, rfl, I5.same _ _ h1, fF_no _ _ _ (by decide +kernel) (by decide +kernel) (by decide +kernel), _, rfl, _, rfl, _, rfl, ?_⟩
            refine ⟨p, a, j, c, F, en, wj, rfl, hF5, hea, hjw, _, _, rfl, rfl, _, rfl, _, _, rfl, rfl, ?_⟩
            have hp := pre_succ (L := lk (TL F)) (c := c) hjw
            refine ⟨en.length - (j + 1), by omega, j + 1, pl - cntR (lk (TL F)) wj.2 (c - wj.1), rfl, ?_, rfl, by omega, by omega⟩
            rw [Int.natCast_sub (by omega)]
            rfl
          · have hc : ¬ ((cntR (lk (TL F)) wj.2 (c - wj.1) : Nat) : Int) ≤ (pl : Nat) := fun z => hc (decide_eq_true z)
            have hc : pl < cntR (lk (TL F)) wj.2 (c - wj.1) := by omega
            -- tree.append((at, way))
            obtain ⟨ds, a1, a2⟩ := I5.t1
            have htr : tr.length ≤ 2015539 := by
              rw [← hcat, List.length_append] at hfl
              omega
            refine ⟨_, rfl, .inl ⟨rfl, _, SqL.of a1⟩, _, rfl, _, rfl, (by show 2 ≤ sizeLine; decide), fun d2 hd2 => ⟨r1, _, _, rfl, rfl, (same_upd hd2) _ _ a1, ?_, ?_⟩⟩
            · rw [List.length_map, Paired.length a2]
              omega
            have I6 := (I5.grow (same_upd (o := .tup [.int (a : Nat), .int (j : Nat)]) hd2)).put1 (d := d2) (x := (a, j)) hr1H n12.symm (by show upd _ d2 _ d2 = _; exact upd_same) ((same_upd hd2) _ _ a1)
            have hl6 : (upd (upd H' d2 (.tup [.int (a : Nat), .int (j : Nat)])) r1 (.lst (ds.map V.ref ++ [.ref d2]))) r2 = some (.lst (es0.map V.ref)) := by rw [upd_ne n12.symm]; exact (same_upd hd2) _ _ hl5
            generalize upd (upd H' d2 (.tup [.int (a : Nat), .int (j : Nat)])) r1 (.lst (ds.map V.ref ++ [.ref d2])) = H6 at I6 hl6
            have hF6 := (forestM C).same I6.same hF
            refine ⟨_, rfl, .inl ⟨rfl, _, SqL.of hl6⟩, ?_⟩
            refine ⟨_, rfl, p, dx, _, rfl, I6.same _ _ h1, fF_no _ _ _ (by decide +kernel) (by decide +kernel) (by decide +kernel), _, rfl, _, rfl, _, rfl, _, rfl, ?_⟩
            refine ⟨p, a, j, c, pl, F, en, wj, rfl, hF6, okF, hea, hjw, hc, fun H7 rs bl s7 hbl hB => ?_⟩
            obtain ⟨_, zs, c1, c2⟩ := hbl
            have hnode : Node (lk (TL F)) en c q j bl := ⟨wj, pl, hjw, hB, hq⟩
            have hflat := hnode.flat A (G.ent a en hea)
            have hok : ∀ x ∈ bl, x.1 < F.length ∧ x.2.2 < cnt (lk (TL F)) x.1 x.2.1 := fun x hx => by
              have h1 := hB.ok x hx
              have := G.chi a en hea wj (List.mem_of_getElem? hjw) x.1 h1.1
              exact ⟨by omega, h1.2⟩
            have hv' : ∀ x ∈ st0 ++ bl.reverse, x.1 < F.length ∧ x.2.2 < cnt (lk (TL F)) x.1 x.2.1 := fun x hx => by
              rcases List.mem_append.mp hx with hx | hx
              · exact hv x (List.mem_append.mpr (.inl hx))
              · exact hok x (List.mem_reverse.mp hx)
            have ecat : tr ++ [(a, j)] ++ (st0 ++ bl.reverse).reverse.flatMap (flatC (lk (TL F))) = t.2 := by
              rw [← hcat, List.reverse_append, List.reverse_append, List.reverse_reverse, List.flatMap_append, List.flatMap_append]
              rw [show [(a, c, q)].reverse.flatMap (flatC (lk (TL F))) = flatC (lk (TL F)) (a, c, q) by simp, hflat]
              simp
            have hlen : (st0 ++ bl.reverse).length ≤ 2015539 := by
              have h1 := stack_le G hv'
              rw [← flatMap_rev_len] at h1
              have h2 : ((st0 ++ bl.reverse).reverse.flatMap (flatC (lk (TL F)))).length ≤ t.2.length := by
                rw [← ecat, List.length_append]
                omega
              omega
            refine ⟨rs, _, rfl, SqL.of c1, fun g hg => ?_⟩
            have I8 := (I6.grow s7).grow (same_upd (o := .lst (zs.map V.ref).reverse) hg)
            have p8 : Paired (CoordAt No (upd H7 g (.lst (zs.map V.ref).reverse))) (es0 ++ zs.reverse) (st0 ++ bl.reverse) := by
              obtain ⟨es8, g1, g2⟩ := I8.t2
              have : (upd H7 g (.lst (zs.map V.ref).reverse)) r2 = some (.lst (es0.map V.ref)) := (same_upd hg) _ _ (s7 _ _ hl6)
              rw [this] at g1
              have e8 : es0.map V.ref = es8.map V.ref := by
                have := Option.some.inj g1
                injection this
              have e9 : es0 = es8 := by
                refine List.map_inj_right (f := V.ref) (fun x y z => ?_) |>.mp e8
                injection z
              rw [e9]
              exact Paired.app g2 (Paired.rev (Paired.imp (fun x y z => coordM.no (coordM.same (same_upd hg) z)) c2))
            refine ⟨r2, g, es0.map V.ref, (zs.map V.ref).reverse, rfl, rfl, (same_upd hg) _ _ (s7 _ _ hl6), upd_same, ?_, ?_⟩
            · rw [List.length_reverse, List.length_map, List.length_map, Paired.length b3, Paired.length c2]
              rw [List.length_append, List.length_reverse] at hlen
              omega
            have I9 := I8.put2 hr2H n12 p8
            rw [List.map_append, List.map_reverse] at I9
            refine ⟨_, ?_, _, _, _, _, _, _, tr ++ [(a, j)], st0 ++ bl.reverse, rfl, rfl, I9, hv', ecat⟩
            have l1 := congrArg List.length hcat
            have l2 := congrArg List.length ecat
            simp only [List.length_append, List.length_cons, List.length_nil] at l1 l2
            omega
        · have hc : ¬ (0 : Int) < ((es.map V.ref).length : Nat) := fun z => hc (decide_eq_true z)
          rw [List.length_map, Paired.length b2] at hc
          have : st = [] := List.length_eq_zero_iff.mp (by omega)
          subst this
          have : tr = t.2 := by simpa using hcat
          subst this
          obtain ⟨ds, a1, a2⟩ := I.t1
          exact ⟨_, rfl, k H4 r1 I.same ⟨none_dom hr1H, ds, a1, Paired.imp (fun _ _ z => z) a2⟩⟩
      · have hc : ¬ (n' : Int) < (nn : Nat) := fun z => hc (decide_eq_true z)
        refine ⟨_, rfl, _, rfl, _, _, rfl, rfl, ?_⟩
        refine ⟨some (.int ck), some (.int (nn : Nat)), n' - nn, ?_, rfl, ?_⟩
        · rw [Int.natCast_sub (by omega)]
          rfl
        · rw [sum_take_succ _ hSi, hn']
          show _ = _ + nn + _
          omega
    · rintro σ HC ⟨v3, v4, n', rfl, rfl, hn'⟩
      exfalso
      rw [hSl, List.take_length, hsc.cnt.total, costs_length] at hn'
      omega
end
end K24
namespace K24
open PySem L2 K24R
section
variable {P : Program} {w : World} {K : PySem.W.Frag} {mg : Str → Option Value} {base : Heap} {C : Addr}
/-! ### number -/
/-- a list of coordinates at r that changes -/
structure CInv (H : Hp) (r : Addr) (D : List Coord) (H' : Hp) : Prop where
  same : Same H H'
  lst : ∃ ds : List Addr, H' r = some (.lst (ds.map V.ref)) ∧ Paired (CoordAt No H') ds D
theorem CInv.grow {H H1 H2 : Hp} {r : Addr} {D : List Coord} (i : CInv H r D H1) (e : Same H1 H2) : CInv H r D H2 := by
  obtain ⟨ds, a1, a2⟩ := i.lst
  exact ⟨i.same.trans e, ds, e _ _ a1, Paired.imp (fun _ _ z => coordM.same e z) a2⟩
theorem CInv.put {H H1 : Hp} {r : Addr} {D D' : List Coord} {zs : List Addr} {l : List V} (i : CInv H r D H1) (h0 : H r = none) (hx : Paired (CoordAt No H1) zs D') (hl : l = zs.map V.ref) : CInv H r D' (upd H1 r (.lst l)) := by
  subst hl
  obtain ⟨ds, a1, a2⟩ := i.lst
  have t : Ret (fun b => b = r) H1 (upd H1 r (.lst (zs.map V.ref))) := Ret.upd rfl a1 fun _ z => by cases z
  refine ⟨fun c o e => ?_, zs, upd_same, Paired.imp (fun a y (z : CoordAt No H1 a y) => (t.tup z : CoordAt No _ a y)) hx⟩
  rw [upd_ne (ne_of_none e h0)]
  exact i.same c o e
theorem CInv.other {H H1 : Hp} {r r' : Addr} {D : List Coord} {l l' : List V} (i : CInv H r D H1) (h0 : H r' = none) (hne : r ≠ r') (hl : H1 r' = some (.lst l)) : CInv H r D (upd H1 r' (.lst l')) := by
  obtain ⟨ds, a1, a2⟩ := i.lst
  have t : Ret (fun b => b = r') H1 (upd H1 r' (.lst l')) := Ret.upd rfl hl fun _ z => by cases z
  refine ⟨fun c o e => ?_, ds, by rw [upd_ne hne]; exact a1, Paired.imp (fun a y (z : CoordAt No H1 a y) => (t.tup z : CoordAt No _ a y)) a2⟩
  rw [upd_ne (ne_of_none e h0)]
  exact i.same c o e
theorem Run.inv {F : Fo} {L : Nat → List T} {x : Nat × Nat} {xs : Flat} {D D' : List Coord} (h : Run F L (x :: xs) D D') : ∃ (D0 bl : List Coord) (en : List Way) (c : Int) (p : Nat), D = D0 ++ bl.reverse ∧ F[x.1]? = some en ∧ Node L en c p x.2 bl ∧ Run F L xs (D0 ++ [(x.1, c, p)]) D' := by
  cases h with
  | cons he hn h => exact ⟨_, _, _, _, _, rfl, he, hn, h⟩
theorem Run.nil_inv {F : Fo} {L : Nat → List T} {D D' : List Coord} (h : Run F L [] D D') : D = D' := by
  cases h
  rfl
theorem sum_filter_snd (c : Int) : ∀ S : Kv, ((S.filter fun p => decide (p.1 < c)).map (·.2)).sum = (S.map fun p => if p.1 < c then p.2 * 1 else 0).sum
  | [] => rfl
  | p :: S => by
    by_cases h : p.1 < c
    · rw [List.filter_cons_of_pos (by simpa using h), List.map_cons, List.map_cons, List.sum_cons, List.sum_cons, sum_filter_snd c S, if_pos h, Nat.mul_one]
    · rw [List.filter_cons_of_neg (by simpa using h), List.map_cons, List.sum_cons, sum_filter_snd c S, if_neg h, Nat.zero_add]
def spNumber (C : Addr) : Sp := fun vs H Q _ => ∃ (p a : Addr) (e n : Nat) (F : Fo) (c : Int) (fl : Flat), vs = [.ref p, .ref a] ∧ ForestAt C No H p F ∧ OkF F ∧ e < F.length ∧ FlatAt No H a fl ∧ (lk (TL F) e)[n]? = some (c, fl) ∧
  ∀ H' : Hp, Same H H' → Q (.int (n : Nat)) H'
abbrev nNumber : List Str := ["self", "tree", "done", "entry", "way", "below", "child", "cost", "place", "other", "count"]
theorem scNumber : FnScope nNumber ["self", "tree"] (defScope sNumber) := ⟨rfl, rfl, rfl, by decide +kernel, rfl, by decide +kernel, by decide +kernel⟩
theorem ok_number {f fN fP : Addr} {fd fdN fdP : FuncData} (Fn : Fun K "number" "Forest.number" sNumber f fd) (T : Txt K mg C)
    (FN : Fun K "counts" "Forest.counts" sCounts fN fdN) (bN : Binds K fdN ["self", "entry"] []) (mN : Meth K C "counts" fN)
    {fB : Addr} {fdB : FuncData} (FB : Fun K "_count_by" "Forest._count_by" sCountBy fB fdB) (bB : Binds K fdB ["self", "entry", "way", "cost"] []) (mB : Meth K C "_count_by" fB)
    (FP : Fun K "_placed" "Forest._placed" sPlaced fP fdP) (bP : Binds K fdP ["self", "entry", "way", "below"] []) (mP : Meth K C "_placed" fP) :
    FnOk P w K mg base CX0 3 f fd ["self", "tree"] (spNumber C) := by
  have GN : FnOk P w K mg base CX0 1 fN fdN ["self", "entry"] (spCounts C) := ok_counts FN T
  have GP : FnOk P w K mg base CX0 2 fP fdP ["self", "entry", "way", "below"] (spPlaced C) := ok_placed FP T FN bN mN FB bB mB
  refine Fn.ok scNumber (fun vs H Q E h => ?_) (fun cdv A outer s H vs Q E hr h => ?_)
  · obtain ⟨_, _, _, _, _, _, _, rfl, _⟩ := h
    rfl
  · obtain ⟨p, a, e, n, F, c, fl, rfl, hF, okF, heF, hA, hn, k⟩ := h
    have hr1 : Room 1 _ := hr.mono (by decide)
    have nd := scNumber.nd
    refine ⟨_, pss_cons (ps_set (i := 2) nd rfl (Or.inl rfl) (pe_lst pa_nil))
      (pss_cons (ps_for PassesOwn.never rfl (RT.pi_revA rfl T.reversed (pv 1)) (pg_tup rfl (pgs_cons (pg_name (i := 3) nd rfl (Or.inl rfl)) (pgs_cons (pg_name (i := 4) nd rfl (Or.inl rfl)) pgs_nil)))
        (pss_cons (ps_if (PW.pt (pw_or (pt_not (pt_chain op_le op_lt pe_int (pv 3) (pe_callB call_len_seq (by rfl) T.len PySem.boot_len (pa_cons (pe_fld (pv 0) rfl) pa_nil))))
            (pw_or1 (pt_not (pt_chain op_le op_lt pe_int (pv 4) (pe_callB call_len_seq (by rfl) T.len PySem.boot_len (pa_cons (pe_ix ix_list (pe_fld (pv 0) rfl) (pv 3) (fun _ _ => rfl)) pa_nil)))))))
          (pss_one ps_never) pss_nil)
        (pss_cons (ps_set (i := 5) nd rfl (Or.inl rfl) (pe_lst pa_nil))
        (pss_cons (ps_for PassesOwn.never rfl (pi_tup (pe_ix ix_tup (pe_ix ix_list (pe_ix ix_list (pe_fld (pv 0) rfl) (pv 3) (fun _ _ => rfl)) (pv 4) (fun _ _ => rfl)) pe_int (fun _ _ => rfl))) (pg_name (i := 6) nd rfl (Or.inl rfl))
          (pss_cons (ps_if (PW.pt (pw_or (pt_cmpR op_eq (pe_callB call_len_seq (by rfl) T.len PySem.boot_len (pa_cons (pv 2) pa_nil)) pe_int (nomark _))
              (pw_or1 (pt_cmpR op_ne (pe_ix ix_tup (pe_ix ix_list (pv 2) (pe_un un_neg pe_int) (fun _ _ => rfl)) pe_int (fun _ _ => rfl)) (pv 6) (nomark _)))))
            (pss_one ps_never) pss_nil)
          (pss_one (ps_expr (pe_bm PySem.F.plainAttrs_list PySem.F.slot_list_append PySem.F.type_list_append mt_append (pv 5)
            (pa_cons (pe_bm0 PySem.F.plainAttrs_list PySem.F.slot_list_pop PySem.F.type_list_pop mt_pop (pv 2)) pa_nil))))))
        (pss_one (ps_expr (pe_bm PySem.F.plainAttrs_list PySem.F.slot_list_append PySem.F.type_list_append mt_append (pv 2)
          (pa_cons (pe_meth (pv 0) T.cl mP GP hr bP .nil pass0 (pa_cons (pv 3) (pa_cons (pv 4) (pa_cons (pv 5) pa_nil)))) pa_nil))))))))
      (pss_cons (ps_if (pt_cmpR op_ne (pe_callB call_len_seq (by rfl) T.len PySem.boot_len (pa_cons (pv 2) pa_nil)) pe_int (nomark _)) (pss_one ps_never) pss_nil)
      (pss_cons (ps_asg (pe_ix ix_list (pv 2) pe_int (fun _ _ => rfl)) (pg_tup rfl (pgs_cons (pg_name (i := 3) nd rfl (Or.inl rfl)) (pgs_cons (pg_name (i := 7) nd rfl (Or.inr rfl)) (pgs_cons (pg_name (i := 8) nd rfl (Or.inl rfl)) pgs_nil)))))
      (pss_one (ps_ret (pe_op op_add (pv 8) (pe_callB (cr_sum rfl) (by rfl) T.sum (by decide +kernel) (pa_cons
        (pe_lc (own := [("other", 9), ("count", 10)]) (g := gTup K 2 (gCons (gName 9) (gCons (gName 10) gNil))) (tt := tTest (tOp (rI0 fun i j => .bl (decide (i < j))) (tVar 9) (tVar 7))) rfl nd
          (pi_list (pe_meth (pv 0) T.cl mN GN hr1 bN .nil pass0 (pa_cons (pv 3) pa_nil))) (blkOk_by (N := nNumber) (sc := defScope sNumber) (by decide +kernel))
          (fun _ _ _ _ _ => pgt K rfl (pgs_cons (pg_name (i := 9) nd rfl (Or.inl rfl)) (pgs_cons (pg_name (i := 10) nd rfl (Or.inl rfl)) pgs_nil)))
          (fun _ _ _ _ _ => pts_one (pt_cmpR op_lt (pv 9) (pv 7) (nomark _)))
          (fun _ _ _ _ _ => pv 10)) pa_nil)))))))), ?_⟩
    obtain ⟨_, dx, ae, ac, ar, h1, h2, h3, h4⟩ := id hF
    have G := okF.lists
    have A := G.asc
    have hen : F[e]? = some F[e] := List.getElem?_eq_getElem heF
    have hfl : fl.length ≤ 2015539 := okF.flat_le hen (List.mem_of_getElem? hn)
    have hbig : (2015539 : Nat) + 100 < sizeLine := by decide
    obtain ⟨pp, hp1, hp2⟩ := num_find A hn
    have hp1 : (fil c (lk (TL F) e))[pp]? = some (c, fl) := hp1
    have hp2 : n = ((lk (TL F) e).filter fun u => decide (u.1 < c)).length + pp := hp2
    have hpc : pp < cnt (lk (TL F)) e c := (List.getElem?_eq_some_iff.mp hp1).1
    have hrun := Run.of G e F[e] hen c pp [] hpc
    rw [flatC_of hp1, List.nil_append] at hrun
    have hrun : Run F (lk (TL F)) fl.reverse [] [(e, c, pp)] := hrun
    obtain ⟨_, as, ha1, ha2⟩ := id hA
    have hal : (as.map V.ref).length = fl.length := by rw [List.length_map]; exact Paired.length ha2
    refine ⟨Nat.zero_le _, fun r hrr => ?_⟩
    have C0 : CInv H r [] (upd H r (.lst [])) := ⟨same_upd hrr, [], upd_same, .nil⟩
    refine ⟨_, rfl, a, _, rfl, .inl ⟨SqL.of (C0.same _ _ ha1), for_it walk_rev (fun i σ H' => ∃ (v3 v4 v5 v6 : Option V) (D : List Coord), σ = [some (.ref p), some (.ref a), some (.ref r), v3, v4, v5, v6, none, none, none, none] ∧ CInv H r D H' ∧ D.length ≤ i ∧ Run F (lk (TL F)) (fl.reverse.drop i) D [(e, c, pp)])
      ⟨none, none, none, none, [], rfl, C0, Nat.zero_le _, by rw [List.drop_zero]; exact hrun⟩ (fun i σ H' _ ⟨_, _, _, _, _, _, I, _⟩ => SqL.of (I.same _ _ ha1)) ?_ ?_⟩⟩
    · rintro i x σ Hz H1 hi ⟨v3, v4, v5, v6, D, rfl, I, hD, hR⟩ ⟨rfl, hx⟩
      rw [hal] at hi hx
      have hil : fl.length - 1 - i < fl.length := by omega
      have hfi : fl[fl.length - 1 - i]? = some fl[fl.length - 1 - i] := List.getElem?_eq_getElem hil
      have hdr : fl.reverse.drop i = fl[fl.length - 1 - i] :: fl.reverse.drop (i + 1) := by
        rw [List.drop_eq_getElem_cons (by rw [List.length_reverse]; exact hi), List.getElem_reverse]
      obtain ⟨ta, u1, u2⟩ := Paired.get ha2 hfi
      rw [List.getElem?_map, u1] at hx
      obtain rfl : V.ref ta = x := Option.some.inj hx
      rw [hdr] at hR
      obtain ⟨D0, bl, en, c', p', hD0, he', hnode, hR'⟩ := hR.inv
      have u2 : H ta = some (.tup [.int (fl[fl.length - 1 - i].1 : Nat), .int (fl[fl.length - 1 - i].2 : Nat)]) := u2
      generalize fl[fl.length - 1 - i].1 = e' at u2 he' hR'
      generalize fl[fl.length - 1 - i].2 = j' at u2 hnode
      subst hD0
      obtain ⟨w, q', hj, hbel, hqe⟩ := id hnode
      have wmem : w ∈ en := List.mem_of_getElem? hj
      have hkids : w.2.length ≤ 6 := okF.kids en (List.mem_of_getElem? he') w wmem
      have hfst := hbel.fst
      have hblw : bl.length = w.2.length := by
        have : (bl.map (·.1)).length = w.2.length := by rw [hfst]
        rwa [List.length_map] at this
      obtain ⟨y1, b1, i1, i2, i2l, i3⟩ := h2.ix he'
      obtain ⟨y2, b2, j1, j2, j2l, j3⟩ := i3.ix hj
      obtain ⟨b3, j4, j5⟩ := j3
      have heF' := (List.getElem?_eq_some_iff.mp he').1
      have hjl' := (List.getElem?_eq_some_iff.mp hj).1
      refine ⟨ta, _, rfl, SqT.of (I.same _ _ u2), rfl, _, _, rfl, _, _, rfl, rfl, ?_⟩
      -- the test
      refine ⟨_, rfl, _, _, rfl, rfl, _, rfl, ?_⟩
      rw [decide_eq_true (show (0 : Int) ≤ (e' : Nat) by omega)]
      refine iteT ⟨_, rfl, p, C, dx, _, _, rfl, I.same _ _ h1, T.cl, T.nE, fF_entries _ _ _, ae, _, rfl, .inl (SqL.of (I.same _ _ i1)), _, _, rfl, rfl, _, rfl, ?_⟩
      rw [decide_eq_true (show ((e' : Nat) : Int) < (y1.length : Nat) by omega)]
      refine iteF ⟨_, rfl, _, _, rfl, rfl, _, rfl, ?_⟩
      rw [decide_eq_true (show (0 : Int) ≤ (j' : Nat) by omega)]
      refine iteT ⟨_, rfl, p, C, dx, _, _, rfl, I.same _ _ h1, T.cl, T.nE, fF_entries _ _ _, _, rfl, ae, _, _, .ref b1, rfl, rfl, SqL.of (I.same _ _ i1), atI_nat i2, b1, _, rfl, .inl (SqL.of (I.same _ _ j1)), _, _, rfl, rfl, _, rfl, ?_⟩
      rw [decide_eq_true (show ((j' : Nat) : Int) < (y2.length : Nat) by omega)]
      refine iteF ?_
      -- below = []
      refine ⟨Nat.zero_le _, fun r2 hr2 => ?_⟩
      have hr2H : H r2 = none := I.same.free hr2
      have n12 : r ≠ r2 := fun z => by
        obtain ⟨_, q, _⟩ := I.lst
        rw [z, hr2] at q
        cases q
      have B0 : CInv H r2 [] (upd H1 r2 (.lst [])) := ⟨I.same.trans (same_upd hr2), [], upd_same, .nil⟩
      have I0 : CInv H r (D0 ++ bl.reverse) (upd H1 r2 (.lst [])) := I.grow (same_upd hr2)
      generalize upd H1 r2 (.lst []) = H2 at B0 I0
      refine ⟨_, rfl, p, C, dx, _, _, rfl, I0.same _ _ h1, T.cl, T.nE, fF_entries _ _ _, _, rfl, ae, _, _, .ref b1, rfl, rfl, SqL.of (I0.same _ _ i1), atI_nat i2, _, rfl, b1, _, _, .ref b2, rfl, rfl, SqL.of (I0.same _ _ j1), atI_nat j2, b2, _, 1, .ref b3, rfl, rfl, SqT.of (I0.same _ _ j4), rfl, b3, rfl, ⟨_, SqT.of (I0.same _ _ j5)⟩, ?_⟩
      refine for_tup (K := K) (a := b3) (xs := nints w.2) (fun m σ H' => ∃ v6 : Option V, σ = [some (.ref p), some (.ref a), some (.ref r), some (.int (e' : Nat)), some (.int (j' : Nat)), some (.ref r2), v6, none, none, none, none] ∧ CInv H r (D0 ++ (bl.drop m).reverse) H' ∧ CInv H r2 (bl.take m) H')
        ⟨_, rfl, by rw [List.drop_zero]; exact I0, by rw [List.take_zero]; exact B0⟩ (fun m σ H' _ ⟨_, _, I, _⟩ => SqT.of (I.same _ _ j5)) ?_ ?_
      · rintro m x σ H3 hm ⟨v6, rfl, I3, B3⟩
        have hmw : m < w.2.length := by
          have := (List.getElem?_eq_some_iff.mp hm).1
          rwa [nints_length] at this
        rw [nints_get (List.getElem?_eq_getElem hmw)] at hm
        obtain rfl := Option.some.inj hm
        have hmb : m < bl.length := by omega
        have efst : w.2[m] = bl[m].1 := by
          have h0 : (bl.map (·.1))[m]? = some bl[m].1 := by rw [List.getElem?_map, List.getElem?_eq_getElem hmb]; rfl
          rw [hfst, List.getElem?_eq_getElem hmw] at h0
          exact Option.some.inj h0
        rw [efst]
        have edr : D0 ++ (bl.drop m).reverse = (D0 ++ (bl.drop (m + 1)).reverse) ++ [bl[m]] := by
          rw [List.drop_eq_getElem_cons hmb, List.reverse_cons, List.append_assoc]
        rw [edr] at I3
        obtain ⟨ds, a1, a2⟩ := I3.lst
        obtain ⟨ds0, d, rfl, a3, a4⟩ := Paired.snoc_inv a2
        have a4 : H3 d = some (.tup [.int (bl[m].1 : Nat), .int bl[m].2.1, .int (bl[m].2.2 : Nat)]) := a4
        have a1 : H3 r = some (.lst (ds0.map V.ref ++ [V.ref d])) := by rw [List.map_append] at a1; exact a1
        obtain ⟨bs, c1, c2⟩ := B3.lst
        refine ⟨_, rfl, r, _, rfl, .inl (SqL.of a1), rfl, _, rfl, ?_⟩
        refine ite2 (fun hc => ?_) (fun _ => ?_)
        · exfalso
          have hc := of_decide_eq_true hc
          injection hc with hc
          rw [List.length_append, List.length_singleton] at hc
          omega
        refine ⟨_, rfl, _, rfl, r, _, _, .ref d, rfl, rfl, SqL.of a1, atI_last _ _, d, _, 0, .int (bl[m].1 : Nat), rfl, rfl, SqT.of a4, rfl, _, rfl, rfl, _, rfl, ?_⟩
        refine iteNS rfl ?_
        have edl : (ds0.map V.ref ++ [V.ref d]).dropLast = ds0.map V.ref := List.dropLast_concat
        refine ⟨_, rfl, .inl ⟨rfl, _, SqL.of c1⟩, _, rfl, .inl ⟨rfl, _, SqL.of a1⟩, r, _, .ref d, rfl, rfl, a1, by simp, ?_⟩
        have I4 := I3.put (l := (ds0.map V.ref ++ [V.ref d]).dropLast) hrr a3 edl
        have B4 := B3.other (l' := (ds0.map V.ref ++ [V.ref d]).dropLast) hrr n12.symm a1
        have d4 : CoordAt No (upd H3 r (.lst (ds0.map V.ref ++ [V.ref d]).dropLast)) d bl[m] := by
          have t : Ret (fun b => b = r) H3 (upd H3 r (.lst (ds0.map V.ref ++ [V.ref d]).dropLast)) := Ret.upd rfl a1 fun _ z => by cases z
          exact t.tup a4
        generalize upd H3 r (.lst (ds0.map V.ref ++ [V.ref d]).dropLast) = H4 at I4 B4 d4
        obtain ⟨bs4, e1, e2⟩ := B4.lst
        refine ⟨r2, _, _, rfl, rfl, e1, ?_, ?_⟩
        · rw [List.length_map, Paired.length e2, List.length_take]
          omega
        · refine ⟨_, rfl, I4.other hr2H n12 e1, ?_⟩
          rw [take_snoc (List.getElem?_eq_getElem hmb)]
          exact B4.put hr2H (Paired.snoc e2 d4) (by rw [List.map_append]; rfl)
      · rintro σ H3 ⟨v6, rfl, I3, B3⟩
        rw [nints_length, ← hblw] at I3 B3
        rw [List.drop_length, List.reverse_nil, List.append_nil] at I3
        rw [List.take_length] at B3
        obtain ⟨ds, a1, a2⟩ := I3.lst
        obtain ⟨bs, c1, c2⟩ := B3.lst
        refine ⟨_, rfl, .inl ⟨rfl, _, SqL.of a1⟩, _, rfl, p, dx, _, rfl, I3.same _ _ h1, fF_no _ _ _ (by decide +kernel) (by decide +kernel) (by decide +kernel), _, rfl, _, rfl, _, rfl, ?_⟩
        refine ⟨p, r2, e', j', c', p', F, en, bl, rfl, (forestM C).same I3.same hF, okF, he', ⟨fun z => z, bs, c1, c2⟩, hnode, fun H4 d s4 hd => ?_⟩
        have I4 := I3.grow s4
        have hDl : D0.length ≤ i := by
          rw [List.length_append] at hD
          omega
        refine ⟨r, _, _, rfl, rfl, s4 _ _ a1, ?_, ?_⟩
        · rw [List.length_map, Paired.length a2]
          omega
        · refine ⟨_, _, _, _, D0 ++ [(e', c', p')], rfl, I4.put hrr (Paired.snoc (Paired.imp (fun _ _ z => coordM.same s4 z) a2) hd) (by rw [List.map_append]; rfl), by rw [List.length_append]; exact Nat.add_le_add_right hDl 1, hR'⟩
    · rintro σ H1 ⟨v3, v4, v5, v6, D, rfl, I, hD, hR⟩
      rw [hal, ← List.length_reverse, List.drop_length] at hR
      have := hR.nil_inv
      subst this
      obtain ⟨ds, a1, a2⟩ := I.lst
      cases a2 with
      | cons x0 x1 =>
        cases x1
        rename_i d
        have x0 : H1 d = some (.tup [.int (e : Nat), .int c, .int (pp : Nat)]) := x0
        refine ⟨_, rfl, r, _, rfl, .inl (SqL.of a1), rfl, _, rfl, ?_⟩
        refine iteNS rfl ?_
        refine ⟨_, rfl, r, _, 0, .ref d, rfl, rfl, SqL.of a1, rfl, d, _, rfl, SqT.of x0, rfl, _, _, rfl, _, _, rfl, _, _, rfl, rfl, ?_⟩
        refine ⟨_, rfl, _, rfl, p, dx, _, rfl, I.same _ _ h1, fF_no _ _ _ (by decide +kernel) (by decide +kernel) (by decide +kernel), _, rfl, ?_⟩
        refine ⟨p, e, TL F, lk (TL F) e, rfl, ((forestM C).same I.same hF).tabs, lk_get heF, fun H2 rl S s2 hS hsc => ?_⟩
        obtain ⟨_, bs, hrl, hpr⟩ := id hS
        have hSl : (bs.map V.ref).length = S.length := by rw [List.length_map]; exact Paired.length hpr
        have hlen120 : (lk (TL F) e).length ≤ 120 := okF.len_le hen
        have hS120 : S.length ≤ 120 := Nat.le_trans hsc.cnt.length_le (by rw [costs_length]; exact hlen120)
        refine ⟨rl, rfl, ⟨_, SqL.of hrl⟩, fun D hD => lc_list (K := K) (a := rl) (xs := bs.map V.ref) (fun i H' => IBld H2 D (((S.take i).filter fun p => decide (p.1 < c)).map fun p => ((p.2 : Nat) : Int)) H') (IBld.start hD) (fun i H' _ b0 => SqL.of (b0.same _ _ hrl)) ?_ ?_⟩
        · intro i x H3 hi b0
          have hil : i < S.length := by rw [← hSl]; exact (List.getElem?_eq_some_iff.mp hi).1
          obtain ⟨ta, u1, u2⟩ := Paired.get hpr (List.getElem?_eq_getElem hil)
          rw [List.getElem?_map, u1] at hi
          obtain rfl : V.ref ta = x := Option.some.inj hi
          have u2 : H2 ta = some (.tup [.int S[i].1, .int (S[i].2 : Nat)]) := u2
          refine ⟨ta, _, rfl, SqT.of (b0.same _ _ u2), rfl, _, _, rfl, _, _, rfl, rfl, rfl, ?_⟩
          refine ⟨_, rfl, _, rfl, _, _, rfl, rfl, _, rfl, ?_⟩
          rw [take_snoc (List.getElem?_eq_getElem hil), List.filter_append]
          refine ite2 (fun hc => ?_) (fun hc => ?_)
          · rw [List.filter_cons_of_pos (by exact hc), List.filter_nil, List.map_append]
            refine ⟨_, rfl, _, b0.lst, ?_, b0.push hD⟩
            rw [List.length_map, List.length_map]
            have := List.length_filter_le (fun p : Int × Nat => decide (p.1 < c)) (S.take i)
            rw [List.length_take] at this
            omega
          · rw [List.filter_cons_of_neg (by exact hc), List.filter_nil, List.append_nil]
            exact b0
        · intro H3 b0
          rw [hSl, List.take_length] at b0
          refine ⟨D, _, rfl, SqL.of b0.lst, _, _, rfl, rfl, ?_⟩
          have es : (((S.filter fun p => decide (p.1 < c)).map fun p => ((p.2 : Nat) : Int))).sum = ((((lk (TL F) e).filter fun u => decide (u.1 < c)).length : Nat) : Int) := by
            rw [show ((S.filter fun p => decide (p.1 < c)).map fun p => ((p.2 : Nat) : Int)) = (((S.filter fun p => decide (p.1 < c)).map (·.2)).map fun (n : Nat) => ((n : Nat) : Int)) by rw [List.map_map]; rfl, sum_cast, sum_filter_snd]
            have := hsc.sum_if (fun _ => 1) c
            rw [this, costs_lt, sum_const _ 1 _ (fun _ _ => rfl), Nat.mul_one, costs_length]
          have hk := k H3 ((I.same.trans s2).trans b0.same)
          have en : ((n : Nat) : Int) = ((pp : Nat) : Int) + (((S.filter fun p => decide (p.1 < c)).map fun p => ((p.2 : Nat) : Int))).sum := by
            rw [es, hp2]
            omega
          rw [en] at hk
          exact hk
end
end K24
namespace K24
open PySem L2 K24R
/-! ### the trees, listed by picks -/
abbrev Quad := Int × Nat × List Nat × Flat
def pickT (L : Nat → List T) (c k : Nat) : T := ((L c)[k]?).getD (0, [])
def rowOf (L : Nat → List T) : List Nat → List Nat → T
  | c :: cs, k :: ks => ((pickT L c k).1 + (rowOf L cs ks).1, (pickT L c k).2 ++ (rowOf L cs ks).2)
  | _, _ => (0, [])
theorem rowOf_nil (L : Nat → List T) : rowOf L [] [] = (0, []) := rfl
theorem rowOf_cons (L : Nat → List T) (c k : Nat) (cs ks : List Nat) : rowOf L (c :: cs) (k :: ks) = ((pickT L c k).1 + (rowOf L cs ks).1, (pickT L c k).2 ++ (rowOf L cs ks).2) := rfl
theorem rowOf_snoc (L : Nat → List T) (c k : Nat) : ∀ (cs ks : List Nat), cs.length = ks.length → rowOf L (cs ++ [c]) (ks ++ [k]) = ((rowOf L cs ks).1 + (pickT L c k).1, (rowOf L cs ks).2 ++ (pickT L c k).2)
  | [], [], _ => by
    show ((pickT L c k).1 + 0, (pickT L c k).2 ++ []) = (0 + (pickT L c k).1, [] ++ (pickT L c k).2)
    rw [List.append_nil, List.nil_append, Int.add_zero, Int.zero_add]
  | d :: cs, m :: ks, h => by
    rw [List.cons_append, List.cons_append, rowOf_cons, rowOf_cons, rowOf_snoc L c k cs ks (by simpa using h), Int.add_assoc, List.append_assoc]
  | [], m :: ks, h => by simp at h
  | d :: cs, [], h => by simp at h
theorem flatMap_range {α β : Type} {g : Nat → List β} {f : α → List β} : ∀ (l : List α), (∀ k t, l[k]? = some t → g k = f t) → (List.range l.length).flatMap g = l.flatMap f := by
  intro l
  induction l generalizing g with
  | nil => intro _; rfl
  | cons x l ih =>
    intro h
    rw [List.length_cons, List.range_succ_eq_map, List.flatMap_cons, List.flatMap_cons, h 0 x rfl, List.flatMap_map]
    congr 1
    exact ih fun k t ht => h (k + 1) t (by simpa using ht)
theorem rows_picks (L : Nat → List T) : ∀ cs : List Nat, rows L cs = (picks (cs.map fun c => (L c).length)).map (rowOf L cs)
  | [] => rfl
  | c :: cs => by
    rw [rows, List.map_cons, picks, List.map_flatMap, rows_picks L cs]
    refine (flatMap_range (L c) fun k t ht => ?_).symm
    rw [List.map_map, List.map_map]
    refine List.map_congr_left fun r _ => ?_
    show rowOf L (c :: cs) (k :: r) = (t.1 + (rowOf L cs r).1, t.2 ++ (rowOf L cs r).2)
    rw [rowOf_cons, show pickT L c k = t by simp [pickT, ht]]
def quadOf (L : Nat → List T) (e j : Nat) (w : Way) (ps : List Nat) : Quad := (w.1 + (rowOf L w.2 ps).1, j, ps, (e, j) :: (rowOf L w.2 ps).2)
def quadsW (L : Nat → List T) (e j : Nat) (w : Way) : List Quad := (picks (w.2.map fun c => (L c).length)).map (quadOf L e j w)
def quads (L : Nat → List T) (e : Nat) : Nat → List Way → List Quad
  | _, [] => []
  | j, w :: ws => quadsW L e j w ++ quads L e (j + 1) ws
def toT (q : Quad) : T := (q.1, q.2.2.2)
theorem quads_append (L : Nat → List T) (e : Nat) : ∀ (ws vs : List Way) (j : Nat), quads L e j (ws ++ vs) = quads L e j ws ++ quads L e (j + ws.length) vs
  | [], vs, j => by simp [quads]
  | w :: ws, vs, j => by
    rw [List.cons_append, quads, quads, quads_append L e ws vs (j + 1), List.append_assoc, List.length_cons, show j + 1 + ws.length = j + (ws.length + 1) by omega]
theorem quads_take (L : Nat → List T) (e : Nat) {en : List Way} {j : Nat} {w : Way} (h : en[j]? = some w) : quads L e 0 (en.take (j + 1)) = quads L e 0 (en.take j) ++ quadsW L e j w := by
  have hj := (List.getElem?_eq_some_iff.mp h).1
  rw [take_snoc h, quads_append, List.length_take, show 0 + min j en.length = j by omega]
  simp [quads]
theorem quads_map (L : Nat → List T) (e : Nat) : ∀ (ws : List Way) (j : Nat), (quads L e j ws).map toT = allFrom L e j ws
  | [], _ => rfl
  | w :: ws, j => by
    rw [quads, List.map_append, quads_map L e ws, allFrom, wayTrees, rows_picks, quadsW, List.map_map, List.map_map]
    rfl
/-! the order of the picks -/
def zs (l : List Nat) : List Int := l.map fun (n : Nat) => ((n : Nat) : Int)
theorem lexLt_irrefl : ∀ x : List Int, HT.lexLt x x = false
  | [] => rfl
  | a :: x => by rw [HT.lexLt_cons, if_pos rfl, lexLt_irrefl x]
theorem lexLt_asymm : ∀ {x y : List Int}, HT.lexLt x y = true → HT.lexLt y x = false
  | [], [], _ => rfl
  | [], b :: y, _ => rfl
  | a :: x, [], h => by rw [HT.lexLt_cons_nil] at h; cases h
  | a :: x, b :: y, h => by
    rw [HT.lexLt_cons] at h ⊢
    by_cases e : a = b
    · subst e
      rw [if_pos rfl] at h ⊢
      exact lexLt_asymm h
    · rw [if_neg e] at h
      rw [if_neg (Ne.symm e)]
      have := of_decide_eq_true h
      exact decide_eq_false (by omega)
theorem lexLt_total : ∀ {x y : List Int}, HT.lexLt x y = false → HT.lexLt y x = false → x = y
  | [], [], _, _ => rfl
  | [], b :: y, h, _ => by rw [HT.lexLt_nil_cons] at h; cases h
  | a :: x, [], _, h => by rw [HT.lexLt_nil_cons] at h; cases h
  | a :: x, b :: y, h1, h2 => by
    rw [HT.lexLt_cons] at h1 h2
    by_cases e : a = b
    · subst e
      rw [if_pos rfl] at h1 h2
      rw [lexLt_total h1 h2]
    · rw [if_neg e] at h1
      rw [if_neg (Ne.symm e)] at h2
      have := of_decide_eq_false h1
      have := of_decide_eq_false h2
      exact absurd (by omega) e
theorem picks_asc : ∀ ns : List Nat, (picks ns).Pairwise fun a b => HT.lexLt (zs a) (zs b) = true
  | [] => by simp [picks]
  | n :: ns => by
    rw [picks]
    refine List.pairwise_flatMap.mpr ⟨fun k _ => ?_, ?_⟩
    · refine List.pairwise_map.mpr ((picks_asc ns).imp fun {a b} h => ?_)
      show HT.lexLt (_ :: zs a) (_ :: zs b) = true
      rw [HT.lexLt_cons, if_pos rfl, h]
    · refine (List.pairwise_lt_range (n := n)).imp fun {a b} h x hx y hy => ?_
      obtain ⟨x', _, rfl⟩ := List.mem_map.mp hx
      obtain ⟨y', _, rfl⟩ := List.mem_map.mp hy
      show HT.lexLt (((a : Nat) : Int) :: zs x') (((b : Nat) : Int) :: zs y') = true
      rw [HT.lexLt_cons, if_neg (by omega)]
      exact decide_eq_true (by omega)
def key2 (q : Quad) : List Int := ((q.2.1 : Nat) : Int) :: zs q.2.2.1
def key (q : Quad) : List Int := q.1 :: key2 q
theorem quads_ge (L : Nat → List T) (e : Nat) : ∀ (ws : List Way) (j : Nat), ∀ q ∈ quads L e j ws, j ≤ q.2.1
  | [], _, q, h => by simp [quads] at h
  | w :: ws, j, q, h => by
    rw [quads] at h
    rcases List.mem_append.mp h with h | h
    · obtain ⟨ps, _, rfl⟩ := List.mem_map.mp h
      exact Nat.le_refl _
    · exact Nat.le_of_succ_le (quads_ge L e ws (j + 1) q h)
theorem quads_asc (L : Nat → List T) (e : Nat) : ∀ (ws : List Way) (j : Nat), (quads L e j ws).Pairwise fun a b => HT.lexLt (key2 a) (key2 b) = true
  | [], _ => List.Pairwise.nil
  | w :: ws, j => by
    rw [quads]
    refine List.pairwise_append.mpr ⟨?_, quads_asc L e ws (j + 1), fun a ha b hb => ?_⟩
    · refine List.pairwise_map.mpr ((picks_asc _).imp fun {a b} h => ?_)
      show HT.lexLt (((j : Nat) : Int) :: zs a) (((j : Nat) : Int) :: zs b) = true
      rw [HT.lexLt_cons, if_pos rfl, h]
    · obtain ⟨ps, _, rfl⟩ := List.mem_map.mp ha
      have := quads_ge L e ws (j + 1) b hb
      show HT.lexLt (((j : Nat) : Int) :: _) (((b.2.1 : Nat) : Int) :: _) = true
      rw [HT.lexLt_cons, if_neg (by omega)]
      exact decide_eq_true (by omega)
theorem inj_of_pairwise {α β : Type} {f : α → β} : ∀ {l : List α}, (l.Pairwise fun a b => f a ≠ f b) → ∀ a ∈ l, ∀ b ∈ l, f a = f b → a = b
  | [], _, a, h, _, _, _ => by simp at h
  | x :: l, hp, a, ha, b, hb, e => by
    have h1 := (List.pairwise_cons.mp hp).1
    rcases List.mem_cons.mp ha with ha | ha
    · rcases List.mem_cons.mp hb with hb | hb
      · rw [ha, hb]
      · exact absurd (by rw [← ha]; exact e) (h1 b hb)
    · rcases List.mem_cons.mp hb with hb | hb
      · exact absurd (by rw [← hb]; exact e.symm) (h1 a ha)
      · exact inj_of_pairwise (List.pairwise_cons.mp hp).2 a ha b hb e
theorem key_inj {a b : Quad} (h : key a = key b) : key2 a = key2 b := (List.cons.inj h).2
theorem quads_key {L : Nat → List T} {e j : Nat} {ws : List Way} : (quads L e j ws).Pairwise fun a b => key a ≠ key b := (quads_asc L e ws j).imp fun {a b} h z => by
  rw [key_inj z, lexLt_irrefl] at h
  cases h
theorem sorted_trees {L : Nat → List T} {e : Nat} {en : List Way} {out : List Quad} (hp : out.Perm (quads L e 0 en)) (hs : out.Pairwise fun a b => HT.lexLt (key b) (key a) = false) : Srt (out.map toT) (allFrom L e 0 en) := by
  have hle : ∀ a b : Quad, HT.lexLt (key b) (key a) = false → a.1 ≤ b.1 := fun a b h => by
    rw [key, key, HT.lexLt_cons] at h
    by_cases q : b.1 = a.1
    · omega
    · rw [if_neg q] at h
      have := of_decide_eq_false h
      omega
  refine ⟨List.pairwise_map.mpr (hs.imp fun {a b} h => hle a b h), fun c => ?_⟩
  have hf : ∀ l : List Quad, fil c (l.map toT) = (l.filter fun q => decide (q.1 = c)).map toT := fun l => by
    rw [fil, List.filter_map]; rfl
  rw [← quads_map, hf, hf]
  congr 1
  refine List.Perm.eq_of_pairwise (le := fun a b => HT.lexLt (key b) (key a) = false) (fun a b ha hb h1 h2 => ?_) (hs.filter _) ?_ (hp.filter _)
  · exact inj_of_pairwise quads_key a (hp.mem_iff.mp (List.mem_filter.mp ha).1) b (List.mem_filter.mp hb).1 (lexLt_total h2 h1)
  · refine List.Pairwise.imp_of_mem ?_ ((quads_asc L e en 0).filter _)
    intro a b ha hb h
    have e1 : a.1 = c := by simpa using (List.mem_filter.mp ha).2
    have e2 : b.1 = c := by simpa using (List.mem_filter.mp hb).2
    show HT.lexLt (b.1 :: key2 b) (a.1 :: key2 a) = false
    rw [HT.lexLt_cons, if_pos (by rw [e1, e2])]
    exact lexLt_asymm h
/-! over lists side by side -/
theorem Paired.perm {α β : Type} {R : α → β → Prop} {xs ys : List α} (h : ys.Perm xs) : ∀ {qs : List β}, Paired R xs qs → ∃ out, Paired R ys out ∧ out.Perm qs := by
  induction h with
  | nil => intro qs h; exact ⟨qs, h, List.Perm.refl _⟩
  | cons x _ ih =>
    intro qs h
    cases h with
    | cons r t =>
      obtain ⟨out, h1, h2⟩ := ih t
      exact ⟨_ :: out, .cons r h1, h2.cons _⟩
  | swap x y l =>
    intro qs h
    cases h with
    | cons r t => cases t with
      | cons r' t' => exact ⟨_, .cons r' (.cons r t'), List.Perm.swap ..⟩
  | trans _ _ ih1 ih2 =>
    intro qs h
    obtain ⟨o1, a1, a2⟩ := ih2 h
    obtain ⟨o2, b1, b2⟩ := ih1 a1
    exact ⟨o2, b1, b2.trans a2⟩
theorem Paired.mem {α β : Type} {R : α → β → Prop} : ∀ {xs : List α} {qs : List β}, Paired R xs qs → ∀ q ∈ qs, ∃ x ∈ xs, R x q
  | _, _, .nil, q, h => by simp at h
  | _, _, .cons r t, q, h => by
    rcases List.mem_cons.mp h with e | h
    · subst e; exact ⟨_, List.mem_cons_self, r⟩
    · obtain ⟨x, h1, h2⟩ := Paired.mem t q h
      exact ⟨x, List.mem_cons_of_mem _ h1, h2⟩
theorem Paired.meml {α β : Type} {R : α → β → Prop} : ∀ {xs : List α} {qs : List β}, Paired R xs qs → ∀ x ∈ xs, ∃ q ∈ qs, R x q
  | _, _, .nil, q, h => by simp at h
  | _, _, .cons r t, q, h => by
    rcases List.mem_cons.mp h with e | h
    · subst e; exact ⟨_, List.mem_cons_self, r⟩
    · obtain ⟨x, h1, h2⟩ := Paired.meml t q h
      exact ⟨x, List.mem_cons_of_mem _ h1, h2⟩
theorem Paired.pw {α β : Type} {R : α → β → Prop} {P : α → α → Prop} {P' : β → β → Prop} (hP : ∀ x y a b, R x a → R y b → P x y → P' a b) : ∀ {xs : List α} {qs : List β}, Paired R xs qs → xs.Pairwise P → qs.Pairwise P'
  | _, _, .nil, _ => .nil
  | _, _, .cons r t, h => by
    refine List.pairwise_cons.mpr ⟨fun b hb => ?_, Paired.pw hP t (List.pairwise_cons.mp h).2⟩
    obtain ⟨y, hy, r'⟩ := Paired.mem t b hb
    exact hP _ _ _ _ r r' ((List.pairwise_cons.mp h).1 y hy)
theorem Paired.pwl {α β : Type} {R : α → β → Prop} {P : α → α → Prop} {P' : β → β → Prop} (hP : ∀ x y a b, R x a → R y b → P' a b → P x y) : ∀ {xs : List α} {qs : List β}, Paired R xs qs → qs.Pairwise P' → xs.Pairwise P
  | _, _, .nil, _ => .nil
  | _, _, .cons r t, h => by
    refine List.pairwise_cons.mpr ⟨fun b hb => ?_, Paired.pwl hP t (List.pairwise_cons.mp h).2⟩
    obtain ⟨y, hy, r'⟩ := Paired.meml t b hb
    exact hP _ _ _ _ r r' ((List.pairwise_cons.mp h).1 y hy)
end K24
namespace K24
open PySem L2 K24R
section
variable {P : Program} {w : World} {K : PySem.W.Frag} {mg : Str → Option Value} {base : Heap} {C : Addr}
/-! ### trees -/
def QuadAt (X : Addr → Prop) (H : Hp) (a : Addr) (q : Quad) : Prop := ∃ b c, H a = some (.tup [.int q.1, .int (q.2.1 : Nat), .ref b, .ref c]) ∧ H b = some (.tup (nints q.2.2.1)) ∧ FlatAt X H c q.2.2.2
theorem quadM : Mono QuadAt := ⟨fun r ⟨b, c, h1, h2, h3⟩ => ⟨b, c, r.tup h1, r.tup h2, flatM.ret r h3⟩, fun k ⟨b, c, h1, h2, h3⟩ => ⟨b, c, h1, h2, flatM.anti k h3⟩⟩
def ival : V → Int
  | .int i => i
  | _ => 0
def kq (H : Hp) : V → List Int
  | .ref d => match H d with
    | some (.tup [.int c, .int j, .ref b, .ref _]) => c :: j :: (match H b with
      | some (.tup l) => l.map ival
      | _ => [])
    | _ => []
  | _ => []
theorem kq_of {H : Hp} {d b fl : Addr} {c j : Int} {l : List V} (h1 : H d = some (.tup [.int c, .int j, .ref b, .ref fl])) (h2 : H b = some (.tup l)) : kq H (.ref d) = c :: j :: l.map ival := by
  unfold kq
  simp only [h1, h2]
theorem kq_quad {X : Addr → Prop} {H : Hp} {d : Addr} {q : Quad} (h : QuadAt X H d q) : kq H (.ref d) = key q := by
  obtain ⟨b, c, h1, h2, _⟩ := h
  rw [kq_of h1 h2, nints, List.map_map]
  rfl
def RQ (X : Addr → Prop) (H : Hp) (x : V) (q : Quad) : Prop := ∃ d, x = .ref d ∧ QuadAt X H d q
theorem rq_key {X : Addr → Prop} {H : Hp} {x : V} {q : Quad} (h : RQ X H x q) : kq H x = key q := by
  obtain ⟨d, rfl, h⟩ := h
  exact kq_quad h
theorem paired_rq {X : Addr → Prop} {H : Hp} : ∀ {ds : List Addr} {qs : List Quad}, Paired (QuadAt X H) ds qs → Paired (RQ X H) (ds.map V.ref) qs
  | _, _, .nil => .nil
  | _, _, .cons r t => .cons ⟨_, rfl, r⟩ (paired_rq t)
theorem rowOf_len {L : Nat → List T} {b : Nat} (h : ∀ c, ∀ t ∈ L c, t.2.length ≤ b) : ∀ cs ks : List Nat, (rowOf L cs ks).2.length ≤ cs.length * b
  | [], ks => by cases ks <;> simp [rowOf]
  | c :: cs, [] => by simp [rowOf]
  | c :: cs, k :: ks => by
    rw [rowOf_cons, List.length_append, List.length_cons, Nat.add_mul]
    have h1 : (pickT L c k).2.length ≤ b := by
      unfold pickT
      cases q : (L c)[k]? with
      | none => simp
      | some t => exact h c t (List.mem_of_getElem? q)
    have h2 := rowOf_len h cs ks
    omega
theorem OkF.flat_all {F : Fo} (h : OkF F) (c : Nat) : ∀ t ∈ lk (TL F) c, t.2.length ≤ 2015539 := fun t ht => by
  rcases Nat.lt_or_ge c F.length with q | q
  · exact h.flat_le (List.getElem?_eq_getElem q) ht
  · have : lk (TL F) c = [] := by
      have hl : (TL F).length ≤ c := by rw [TL_length]; exact q
      simp [lk, List.getD_eq_getElem?_getD, List.getElem?_eq_none hl]
    rw [this] at ht
    simp at ht
theorem prodM_head (A : List Nat) (a b : List Nat) : prodM A a ≤ prodM A (a ++ b) := by
  rw [prodM_append]
  exact Nat.le_mul_of_pos_right _ (prodM_pos A b)
theorem OkF.rows_pre {F : Fo} (h : OkF F) {e : Nat} {en : List Way} (he : F[e]? = some en) {w : Way} (hw : w ∈ en) (i : Nat) : (rows (lk (TL F)) (w.2.take i)).length ≤ 120 := by
  have h1 : (rows (lk (TL F)) (w.2.take i)).length ≤ prodM (capsL F) (w.2.take i) := K24.rows_le fun c hc => by
    have hlt := h.wf.chi e en he w hw c (List.mem_of_mem_take hc)
    have := (List.getElem?_eq_some_iff.mp he).1
    exact lens_le h.lists c F[c] (List.getElem?_eq_getElem _)
  have h2 := prodM_head (capsL F) (w.2.take i) (w.2.drop i)
  rw [List.take_append_drop] at h2
  have h3 := cap_way (A := capsL F) hw
  have h4 := caps_at he (h.wf.chi e en he)
  have h5 := h.cap_le e
  omega
def lensOf (L : Nat → List T) (cs : List Nat) : List Nat := cs.map fun c => (L c).length
theorem OkF.picks_pre {F : Fo} (h : OkF F) {e : Nat} {en : List Way} (he : F[e]? = some en) {w : Way} (hw : w ∈ en) (i : Nat) : (picks ((lensOf (lk (TL F)) w.2).take i)).length ≤ 120 := by
  have := h.rows_pre he hw i
  rw [rows_picks, List.length_map, List.map_take] at this
  exact this
theorem quads_len {F : Fo} (h : OkF F) {e : Nat} {en : List Way} (he : F[e]? = some en) (j : Nat) : (quads (lk (TL F)) e 0 (en.take j)).length ≤ 120 := by
  have h1 : (quads (lk (TL F)) e 0 (en.take j)).length ≤ (quads (lk (TL F)) e 0 en).length := by
    conv => rhs; rw [← List.take_append_drop j en]
    rw [quads_append, List.length_append]
    omega
  have h2 : (quads (lk (TL F)) e 0 en).length = (lk (TL F) e).length := by
    have E := h.lists.ent e en he
    have e0 : lk (TL F) e = sortT (allFrom (lk (TL F)) e 0 en) := E.uniq (sortT_srt _)
    rw [e0, (sortT_perm _).length_eq, ← quads_map, List.length_map]
  have := h.len_le he
  omega
def spTrees : Sp := fun vs H Q _ => ∃ (a : Addr) (F : Fo), vs = [.ref a] ∧ ForAt No H a F ∧ OkF F ∧ ∀ (H' : Hp) (p : Addr), Same H H' → TreesAt (Dom H) H' p (TL F) → Q (.ref p) H'
abbrev nTrees : List Str := ["_law_entries_here", "_law_trees_here", "_law_k", "_law_found", "_law_j", "_law_children", "_law_child", "_law_picks_here", "_law_cost_here", "_law_flat", "_law_i", "_law_row"]
theorem scTrees : FnScope nTrees ["_law_entries_here"] (defScope sTrees) := ⟨rfl, rfl, rfl, by decide +kernel, rfl, by decide +kernel, by decide +kernel⟩
theorem ok_trees {f fP : Addr} {fd fdP : FuncData} (Fn : Fun K "_law_trees" "_law_trees" sTrees f fd) (T : Txt K mg C)
    (FP : Fun K "_law_picks" "_law_picks" sPicks fP fdP) (bP : Binds K fdP ["_law_sizes_here"] []) (gP : mg "_law_picks" = some (.ref fP)) :
    FnOk P w K mg base CX0 2 f fd ["_law_entries_here"] spTrees := by
  have GP : FnOk P w K mg base CX0 1 fP fdP ["_law_sizes_here"] spPicks := ok_picks FP T
  refine Fn.ok scTrees (fun vs H Q E h => ?_) (fun cdv A outer s H vs Q E hr h => ?_)
  · obtain ⟨_, _, rfl, _⟩ := h
    rfl
  · obtain ⟨a, F, rfl, hF, okF, k⟩ := h
    have hu : (A.deeper (PyProof.Rows.envOfC "_law_trees" (defScope sTrees) s.heap.objs.size f cdv)).units + 64 < cLine := hr.units
    have nd := scTrees.nd
    refine ⟨_, pss_cons (ps_set (i := 1) nd rfl (Or.inr rfl) (pe_lst pa_nil))
      (pss_cons (ps_for PassesOwn.never rfl (pi_range1 rfl T.range (pa_cons (pe_callB call_len_seq (by rfl) T.len PySem.boot_len (pa_cons (pv 0) pa_nil)) pa_nil)) (pg_name (i := 2) nd rfl (Or.inl rfl))
        (pss_cons (ps_set (i := 3) nd rfl (Or.inl rfl) (pe_lst pa_nil))
        (pss_cons (ps_for PassesOwn.never rfl (pi_range1 rfl T.range (pa_cons (pe_callB call_len_seq (by rfl) T.len PySem.boot_len (pa_cons (pe_ix ix_list (pv 0) (pv 2) (fun _ _ => rfl)) pa_nil)) pa_nil)) (pg_name (i := 4) nd rfl (Or.inl rfl))
          (pss_cons (ps_set (i := 5) nd rfl (Or.inl rfl) (pe_ix ix_tup (pe_ix ix_list (pe_ix ix_list (pv 0) (pv 2) (fun _ _ => rfl)) (pv 4) (fun _ _ => rfl)) pe_int (fun _ _ => rfl)))
          (pss_one (ps_for PassesOwn.never rfl (pi_list (pe_call GP hr rfl gP FP.kp bP .nil pass0 (pa_cons
              (pe_lc (own := [("_law_child", 6)]) (g := gName 6) (tt := tYes) rfl nd (pi_tup (pv 5)) (blkOk_by (N := nTrees) (sc := defScope sTrees) (by decide +kernel)) (fun _ _ _ _ _ => pg_name (i := 6) nd rfl (Or.inl rfl)) (fun _ _ _ _ _ => pts_nil)
                (fun _ _ _ _ _ => pe_callB (clen K) (by rfl) T.len PySem.boot_len (pa_cons (pe_ix (ixl K) (pv 1) (pv 6) (fun _ _ => rfl)) pa_nil))) pa_nil))) (pg_name (i := 7) nd rfl (Or.inl rfl))
            (pss_cons (ps_set (i := 8) nd rfl (Or.inl rfl) (pe_ix ix_tup (pe_ix ix_list (pe_ix ix_list (pv 0) (pv 2) (fun _ _ => rfl)) (pv 4) (fun _ _ => rfl)) pe_int (fun _ _ => rfl)))
            (pss_cons (ps_set (i := 9) nd rfl (Or.inl rfl) (pe_lst (pa_cons (pe_tup (pa_cons (pv 2) (pa_cons (pv 4) pa_nil))) pa_nil)))
            (pss_cons (ps_for PassesOwn.never rfl (pi_range1 rfl T.range (pa_cons (pe_callB call_len_seq (by rfl) T.len PySem.boot_len (pa_cons (pv 5) pa_nil)) pa_nil)) (pg_name (i := 10) nd rfl (Or.inl rfl))
              (pss_cons (ps_set (i := 8) nd rfl (Or.inl rfl) (pe_op op_add (pv 8) (pe_ix ix_tup (pe_ix ix_list (pe_ix ix_list (pv 1) (pe_ix ix_tup (pv 5) (pv 10) (fun _ _ => rfl)) (fun _ _ => rfl)) (pe_ix ix_tup (pv 7) (pv 10) (fun _ _ => rfl)) (fun _ _ => rfl)) pe_int (fun _ _ => rfl))))
              (pss_one (ps_set (i := 9) nd rfl (Or.inl rfl) (pe_op op_cat (pv 9) (pe_ix ix_tup (pe_ix ix_list (pe_ix ix_list (pv 1) (pe_ix ix_tup (pv 5) (pv 10) (fun _ _ => rfl)) (fun _ _ => rfl)) (pe_ix ix_tup (pv 7) (pv 10) (fun _ _ => rfl)) (fun _ _ => rfl)) pe_int (fun _ _ => rfl)))))))
            (pss_one (ps_expr (pe_bm PySem.F.plainAttrs_list PySem.F.slot_list_append PySem.F.type_list_append mt_append (pv 3) (pa_cons (pe_tup (pa_cons (pv 8) (pa_cons (pv 4) (pa_cons (pv 7) (pa_cons (pv 9) pa_nil))))) pa_nil)))))))))))
        (pss_one (ps_expr (pe_bm PySem.F.plainAttrs_list PySem.F.slot_list_append PySem.F.type_list_append mt_append (pv 1) (pa_cons
          (pe_lc (own := [("_law_row", 11)]) (g := gName 11) (tt := tYes) rfl nd (pi_list (pe_callB (cr_sortedQ hu) (by rfl) T.sorted (by decide +kernel) (pa_cons (pv 3) pa_nil))) (blkOk_by (N := nTrees) (sc := defScope sTrees) (by decide +kernel)) (fun _ _ _ _ _ => pg_name (i := 11) nd rfl (Or.inl rfl)) (fun _ _ _ _ _ => pts_nil)
            (fun _ _ _ _ _ => pe_tup (pa_cons (pe_ix (ixt K) (pv 11) pe_int (fun _ _ => rfl)) (pa_cons (pe_ix (ixt K) (pv 11) pe_int (fun _ _ => rfl)) pa_nil)))) pa_nil)))))))
      (pss_one (ps_ret (pv 1)))), ?_⟩
    have G := okF.lists
    have b62 : (9 : Int) < 2 ^ 62 := by decide
    have big := big20
    have hb24 : (16777216 : Nat) ≤ sizeLine := by decide
    obtain ⟨xs, hxs, hxl⟩ := hF.len
    refine ⟨Nat.zero_le _, fun z hz => ?_⟩
    have s0 : Same H (upd H z (.lst [])) := same_upd hz
    refine ⟨_, rfl, a, _, rfl, .inl (SqL.of (s0 _ _ hxs)), _, rfl, ?_, ?_, for_range (lo := 0) (n := xs.length) (fun k σ H' => ∃ (v2 v3 v4 v5 v7 v8 v9 v10 : Option V), σ = [some (.ref a), some (.ref z), v2, v3, v4, v5, none, v7, v8, v9, v10, none] ∧ Bld (LstAt TreeAt) H z ((TL F).take k) H')
      ⟨none, none, none, none, none, none, none, none, rfl, Bld.start hz⟩ ?_ ?_⟩
    · have : (-(2 ^ 62) : Int) < 0 := by decide
      omega
    · have := okF.len
      omega
    · rintro k' σ Hk hk ⟨v2, v3, v4, v5, v7, v8, v9, v10, rfl, bz⟩
      rw [Int.zero_add]
      rw [hxl] at hk
      have hen : F[k']? = some F[k'] := List.getElem?_eq_getElem hk
      have hTLk := lk_get (F := F) hk
      generalize F[k'] = en at hen
      have hFk := forM.same bz.same hF
      obtain ⟨xs', b1, x1, x2, _, x3⟩ := hFk.ix hen
      obtain ⟨ys, y1, yl⟩ := x3.len
      have hw5 : en.length ≤ 5 := okF.ways en (List.mem_of_getElem? hen)
      -- found = []
      refine ⟨Nat.zero_le _, fun g hg => ?_⟩
      have sg : Same Hk (upd Hk g (.lst [])) := same_upd hg
      refine ⟨_, rfl, _, rfl, a, _, _, .ref b1, rfl, rfl, SqL.of (sg _ _ x1), atI_nat x2, b1, _, rfl, .inl (SqL.of (sg _ _ y1)), _, rfl, ?_, ?_, for_range (lo := 0) (n := ys.length) (fun j σ H' => ∃ (v4 v5 v7 v8 v9 v10 : Option V), σ = [some (.ref a), some (.ref z), some (.int (k' : Nat)), some (.ref g), v4, v5, none, v7, v8, v9, v10, none] ∧ Bld QuadAt Hk g (quads (lk (TL F)) k' 0 (en.take j)) H')
        ⟨v4, v5, v7, v8, v9, v10, rfl, Bld.start hg⟩ ?_ ?_⟩
      · have : (-(2 ^ 62) : Int) < 0 := by decide
        omega
      · omega
      · rintro j σ Hj hj ⟨v4, v5, v7, v8, v9, v10, rfl, bj⟩
        rw [Int.zero_add]
        rw [yl] at hj
        have hjw : en[j]? = some en[j] := List.getElem?_eq_getElem hj
        generalize en[j] = w at hjw
        have wmem : w ∈ en := List.mem_of_getElem? hjw
        have hkids : w.2.length ≤ 6 := okF.kids en (List.mem_of_getElem? hen) w wmem
        have hchi : ∀ c ∈ w.2, c < k' := okF.wf.chi k' en hen w wmem
        obtain ⟨ys', b2, u1, u2, _, ca, u3, u4⟩ := x3.ix hjw
        have sj := bj.same
        -- the trees of a child, at any heap behind Hk
        have tree : ∀ (H' : Hp), Same Hk H' → ∀ c, c < k' → ∃ (zl : List V) (tb : Addr), H' z = some (.lst zl) ∧ zl[c]? = some (.ref tb) ∧ LstAt TreeAt (fun b => Dom H b ∨ b = z) H' tb (lk (TL F) c) := fun H' s' c hc => by
          obtain ⟨ds, d1, d2⟩ := (bz.grow (LstAt.mono treeM) s').lst
          have : ((TL F).take k')[c]? = some (lk (TL F) c) := by
            rw [List.getElem?_take, if_pos hc]
            exact lk_get (by omega)
          obtain ⟨tb, e1, e2⟩ := Paired.get d2 this
          exact ⟨_, tb, d1, by rw [List.getElem?_map, e1]; rfl, e2⟩
        refine ⟨_, rfl, _, rfl, a, _, _, .ref b1, rfl, rfl, SqL.of (sj _ _ x1), atI_nat x2, _, rfl, b1, _, _, .ref b2, rfl, rfl, SqL.of (sj _ _ u1), atI_nat u2, b2, _, 1, .ref ca, rfl, rfl, SqT.of (sj _ _ u3), rfl, ?_⟩
        -- the picks
        refine ⟨_, rfl, ca, rfl, ⟨_, SqT.of (sj _ _ u4)⟩, fun D hD => lc_tup (K := K) (a := ca) (xs := nints w.2) (fun m H' => IBld Hj D ((w.2.take m).map fun c => (((lk (TL F) c).length : Nat) : Int)) H') (IBld.start hD) (fun m H' _ b0 => SqT.of (b0.same _ _ (sj _ _ u4))) ?_ ?_⟩
        · intro m x H1 hm b0
          have hml : m < w.2.length := by
            have := (List.getElem?_eq_some_iff.mp hm).1
            rwa [nints_length] at this
          have hcm : w.2[m]? = some w.2[m] := List.getElem?_eq_getElem hml
          generalize w.2[m] = ch at hcm
          rw [nints_get hcm] at hm
          obtain rfl := Option.some.inj hm
          have hlt := hchi ch (List.mem_of_getElem? hcm)
          obtain ⟨zl, tb, t1, t2, t3⟩ := tree H1 (sj.trans b0.same) ch hlt
          obtain ⟨tl, t4, t5⟩ := t3.len
          refine ⟨rfl, ?_⟩
          refine ⟨_, rfl, _, rfl, z, _, _, .ref tb, rfl, rfl, SqL.of t1, atI_nat t2, tb, _, rfl, .inl (SqL.of t4), _, b0.lst, ?_, ?_⟩
          · rw [List.length_map, List.length_map, List.length_take]
            omega
          · rw [take_snoc hcm, List.map_append, t5]
            exact b0.push hD
        intro H1 b0
        rw [nints_length, List.take_length] at b0
        have hDl : H1 D = some (.lst (nints (lensOf (lk (TL F)) w.2))) := by
          rw [b0.lst, nints, lensOf, List.map_map, List.map_map]
          rfl
        have s1 := sj.trans b0.same
        refine ⟨D, lensOf (lk (TL F)) w.2, rfl, hDl, by rw [lensOf, List.length_map]; exact hkids, fun n hn => ?_, okF.picks_pre hen wmem, fun H2 pr s2 hpr => ?_⟩
        · obtain ⟨c, hc, rfl⟩ := List.mem_map.mp hn
          have hlt := hchi c hc
          exact okF.len_le (List.getElem?_eq_getElem (show c < F.length by omega))
        have hpl : (picks (lensOf (lk (TL F)) w.2)).length ≤ 120 := by
          have := okF.picks_pre hen wmem w.2.length
          rwa [List.take_of_length_le (by rw [lensOf, List.length_map]; exact Nat.le_refl _)] at this
        obtain ⟨ndpr, pas, p1, p2⟩ := id hpr
        have bj2 := (bj.grow quadM b0.same).grow quadM s2
        have hg2 : Dom H2 g := bj2.domD
        have nprg : pr ≠ g := fun q => by
          rw [q] at ndpr
          exact ndpr (bj.grow quadM b0.same).domD
        have hpasl : (pas.map V.ref).length = (picks (lensOf (lk (TL F)) w.2)).length := by rw [List.length_map]; exact Paired.length p2
        refine ⟨pr, rfl, ⟨_, SqL.of p1⟩, for_list (K := K) (a := pr) (xs := pas.map V.ref) (fun m σ H' => ∃ (v7 v8 v9 v10 : Option V), σ = [some (.ref a), some (.ref z), some (.int (k' : Nat)), some (.ref g), some (.int (j : Nat)), some (.ref ca), none, v7, v8, v9, v10, none] ∧
            Bld QuadAt Hk g (quads (lk (TL F)) k' 0 (en.take j) ++ ((picks (lensOf (lk (TL F)) w.2)).take m).map (quadOf (lk (TL F)) k' j w)) H' ∧ Keep g H2 H')
          ⟨v7, v8, v9, v10, rfl, by rw [List.take_zero, List.map_nil, List.append_nil]; exact bj2, Keep.refl _ _⟩ (fun m σ H' _ ⟨_, _, _, _, _, _, kp⟩ => SqL.of (kp _ _ p1 nprg)) ?_ ?_⟩
        · rintro m x σ Hm hm ⟨v7, v8, v9, v10, rfl, bm, kp⟩
          have hml : m < (picks (lensOf (lk (TL F)) w.2)).length := by rw [← hpasl]; exact (List.getElem?_eq_some_iff.mp hm).1
          have hps : (picks (lensOf (lk (TL F)) w.2))[m]? = some (picks (lensOf (lk (TL F)) w.2))[m] := List.getElem?_eq_getElem hml
          have hpsm : (picks (lensOf (lk (TL F)) w.2))[m] ∈ picks (lensOf (lk (TL F)) w.2) := List.getElem_mem hml
          generalize (picks (lensOf (lk (TL F)) w.2))[m] = ps at hps hpsm
          obtain ⟨pa, r1, r2⟩ := Paired.get p2 hps
          rw [List.getElem?_map, r1] at hm
          obtain rfl : V.ref pa = x := Option.some.inj hm
          have r2 : H2 pa = some (.tup (nints ps)) := r2
          have hpsl : ps.length = w.2.length := by rw [picks_len hpsm, lensOf, List.length_map]
          have npag : pa ≠ g := fun q => by
            obtain ⟨_, q1, _⟩ := bj2.lst
            rw [q, q1] at r2
            cases r2
          have hpa : Hm pa = some (.tup (nints ps)) := kp _ _ r2 npag
          have sm := bm.same
          refine ⟨_, rfl, _, rfl, a, _, _, .ref b1, rfl, rfl, SqL.of (sm _ _ x1), atI_nat x2, _, rfl, b1, _, _, .ref b2, rfl, rfl, SqL.of (sm _ _ u1), atI_nat u2, b2, _, 0, .int w.1, rfl, rfl, SqT.of (sm _ _ u3), rfl, ?_⟩
          refine ⟨_, rfl, _, rfl, (by show 2 ≤ sizeLine; decide), fun tt htt => ⟨(by show 1 ≤ sizeLine; decide), fun f hf => ?_⟩⟩
          have sf : Same Hm (upd (upd Hm tt (.tup [.int (k' : Nat), .int (j : Nat)])) f (.lst [.ref tt])) := (same_upd htt).trans (same_upd hf)
          have ntf : tt ≠ f := fun q => by
            rw [q, upd_same] at hf
            cases hf
          have hfHm : ¬ Dom Hm f := none_dom ((same_upd htt).free hf)
          have f0 : LstAt PairAt (Dom Hm) (upd (upd Hm tt (.tup [.int (k' : Nat), .int (j : Nat)])) f (.lst [.ref tt])) f [(k', j)] := ⟨hfHm, [tt], upd_same, .cons (by show upd _ f _ tt = _; rw [upd_ne ntf, upd_same]) .nil⟩
          generalize upd (upd Hm tt (.tup [.int (k' : Nat), .int (j : Nat)])) f (.lst [.ref tt]) = Hf at sf f0
          refine ⟨_, rfl, ca, _, rfl, .inr (SqT.of (sf _ _ (sm _ _ u4))), _, rfl, ?_, ?_, for_range (lo := 0) (n := (nints w.2).length) (fun i σ H' => ∃ (f : Addr) (c : Int) (v10 : Option V), σ = [some (.ref a), some (.ref z), some (.int (k' : Nat)), some (.ref g), some (.int (j : Nat)), some (.ref ca), none, some (.ref pa), some (.int c), some (.ref f), v10, none] ∧
              Same Hm H' ∧ LstAt PairAt (Dom Hm) H' f ((k', j) :: (rowOf (lk (TL F)) (w.2.take i) (ps.take i)).2) ∧ c = w.1 + (rowOf (lk (TL F)) (w.2.take i) (ps.take i)).1)
            ⟨f, w.1, v10, rfl, sf, f0, by rw [List.take_zero, List.take_zero, rowOf_nil]; omega⟩ ?_ ?_⟩
          · have : (-(2 ^ 62) : Int) < 0 := by decide
            omega
          · rw [nints_length]
            omega
          · rintro i σ Hi hi ⟨f, c, v10, rfl, si, fi, hc⟩
            rw [Int.zero_add]
            rw [nints_length] at hi
            have hci : w.2[i]? = some w.2[i] := List.getElem?_eq_getElem hi
            have hpi : ps[i]? = some (ps[i]'(by omega)) := List.getElem?_eq_getElem _
            generalize w.2[i] = ch at hci
            generalize ps[i]'(by omega) = kk at hpi
            have hlt := hchi ch (List.mem_of_getElem? hci)
            have hkk : kk < (lk (TL F) ch).length := picks_lt hpsm (i := i) (by rw [lensOf, List.getElem?_map, hci]; rfl) hpi
            have hti : (lk (TL F) ch)[kk]? = some (lk (TL F) ch)[kk] := List.getElem?_eq_getElem hkk
            have ept : pickT (lk (TL F)) ch kk = (lk (TL F) ch)[kk] := by simp [pickT, hti]
            generalize (lk (TL F) ch)[kk] = t at hti ept
            have smi := sm.trans si
            have erow : rowOf (lk (TL F)) (w.2.take (i + 1)) (ps.take (i + 1)) = ((rowOf (lk (TL F)) (w.2.take i) (ps.take i)).1 + t.1, (rowOf (lk (TL F)) (w.2.take i) (ps.take i)).2 ++ t.2) := by
              rw [take_snoc hci, take_snoc hpi, rowOf_snoc _ _ _ _ _ (by rw [List.length_take, List.length_take]; omega), ept]
            obtain ⟨zl, tb, t1, t2, t3⟩ := tree Hi smi ch hlt
            obtain ⟨tl, td, t4, t5, _, fb, t6, t7⟩ := t3.ix hti
            have hca := smi _ _ u4
            have hpai := si _ _ hpa
            refine ⟨_, rfl, _, rfl, _, rfl, _, rfl, ca, _, _, .int (ch : Nat), rfl, rfl, SqT.of hca, atI_nat (nints_get hci), z, _, _, .ref tb, rfl, rfl, SqL.of t1, atI_nat t2, _, rfl, _, rfl, pa, _, _, .int (kk : Nat), rfl, rfl, SqT.of hpai, atI_nat (nints_get hpi), tb, _, _, .ref td, rfl, rfl, SqL.of t4, atI_nat t5, td, _, 0, .int t.1, rfl, rfl, SqT.of t6, rfl, _, _, rfl, rfl, ?_⟩
            obtain ⟨_, fs, f1, f2⟩ := id fi
            obtain ⟨_, ts, g1, g2⟩ := id t7
            refine ⟨_, rfl, _, rfl, _, rfl, _, rfl, ca, _, _, .int (ch : Nat), rfl, rfl, SqT.of hca, atI_nat (nints_get hci), z, _, _, .ref tb, rfl, rfl, SqL.of t1, atI_nat t2, _, rfl, _, rfl, pa, _, _, .int (kk : Nat), rfl, rfl, SqT.of hpai, atI_nat (nints_get hpi), tb, _, _, .ref td, rfl, rfl, SqL.of t4, atI_nat t5, td, _, 1, .ref fb, rfl, rfl, SqT.of t6, rfl, f, fb, _, _, rfl, rfl, f1, g1, ?_, fun p hp => ?_⟩
            · have h1 := Paired.length f2
              have h2 := Paired.length g2
              have h3 := rowOf_len (okF.flat_all) (w.2.take i) (ps.take i)
              have h4 := okF.flat_all ch t (List.mem_of_getElem? hti)
              rw [List.length_cons] at h1
              rw [List.length_map, List.length_map]
              rw [List.length_take] at h3
              have h5 : min i w.2.length * 2015539 ≤ 6 * 2015539 := Nat.mul_le_mul_right _ (by omega)
              omega
            · have sp : Same Hi (upd Hi p (.lst (fs.map V.ref ++ ts.map V.ref))) := same_upd hp
              refine ⟨p, c + t.1, _, rfl, si.trans sp, ?_, by rw [erow, hc, Int.add_assoc]⟩
              rw [erow]
              refine ⟨none_dom (si.free hp), fs ++ ts, by rw [upd_same, List.map_append], ?_⟩
              have := Paired.app (Paired.imp (fun x y (z : PairAt _ Hi x y) => (sp _ _ z : PairAt (Dom Hm) (upd Hi p (.lst (fs.map V.ref ++ ts.map V.ref))) x y)) f2) (Paired.imp (fun x y (z : PairAt _ Hi x y) => (sp _ _ z : PairAt (Dom Hm) (upd Hi p (.lst (fs.map V.ref ++ ts.map V.ref))) x y)) g2)
              exact this
          · rintro σ Hi ⟨f, c, v10, rfl, si, fi, hc⟩
            rw [nints_length] at fi hc
            rw [List.take_length, ← hpsl, List.take_length] at fi hc
            have bi := bm.grow quadM si
            obtain ⟨acc, hacc, haccl⟩ := bi.at
            have hgm : Dom Hm g := bm.domD
            refine ⟨_, rfl, .inl ⟨rfl, _, SqL.of hacc⟩, _, rfl, _, rfl, _, rfl, _, rfl, (by show 4 ≤ sizeLine; decide), fun q hq => ⟨g, acc, _, rfl, rfl, same_upd hq _ _ hacc, ?_, ?_⟩⟩
            · rw [haccl, List.length_append, List.length_map, List.length_take]
              have := quads_len okF hen j
              omega
            · have sq : Same Hi (upd Hi q (.tup [.int c, .int (j : Nat), .ref pa, .ref f])) := same_upd hq
              refine ⟨_, _, _, _, rfl, ?_, fun b o e n => ?_⟩
              · rw [take_snoc hps, List.map_append, ← List.append_assoc]
                refine (bi.grow quadM sq).push quadM hg (x := quadOf (lk (TL F)) k' j w ps) ⟨pa, f, ?_, sq _ _ (si _ _ hpa), ?_⟩ (sq _ _ hacc)
                · rw [upd_same, hc]; rfl
                · refine flatM.anti (fun b hb => ?_) (flatM.same sq fi)
                  rcases hb with hb | hb
                  · exact Same.dom sm hb
                  · rw [hb]; exact hgm
              · rw [upd_ne n]
                exact sq _ _ (si _ _ (kp _ _ e n))
        · rintro σ Hm ⟨v7, v8, v9, v10, rfl, bm, kp⟩
          rw [hpasl, List.take_length] at bm
          refine ⟨_, _, _, _, _, _, rfl, ?_⟩
          rw [quads_take _ _ hjw]
          exact bm
      · rintro σ Hx ⟨v4, v5, v7, v8, v9, v10, rfl, bx⟩
        rw [yl, List.take_length] at bx
        have sx := bx.same
        have bzx := bz.grow (LstAt.mono treeM) sx
        obtain ⟨zs', z1, z2⟩ := bzx.lst
        obtain ⟨ds, d1, d2⟩ := bx.lst
        have prq := paired_rq d2
        refine ⟨_, rfl, .inl ⟨rfl, _, SqL.of z1⟩, _, rfl, g, _, kq Hx, rfl, SqL.of d1, ?_, ?_, fun sy p hsort hperm hp => ?_⟩
        · intro x hx
          obtain ⟨q, _, d, rfl, b, c, e1, e2, e3⟩ := Paired.meml prq x hx
          refine ⟨d, q.1, (q.2.1 : Nat), b, zs q.2.2.1, c, rfl, e1, ?_, ?_⟩
          · rw [e2, nints, zs, List.map_map]; rfl
          · exact kq_quad ⟨b, c, e1, e2, e3⟩
        · refine inj_of_pairwise (Paired.pwl (fun x y a b h1 h2 h => ?_) prq quads_key)
          rw [rq_key h1, rq_key h2]
          exact h
        obtain ⟨out, o1, o2⟩ := Paired.perm hperm prq
        have osort : out.Pairwise fun a b => HT.lexLt (key b) (key a) = false := Paired.pw (fun x y a b h1 h2 h => by rw [← rq_key h1, ← rq_key h2]; exact h) o1 hsort
        have hLk : out.map toT = lk (TL F) k' := (sorted_trees o2 osort).uniq (okF.lists.ent k' en hen)
        have sp : Same Hx (upd Hx p (.lst sy)) := same_upd hp
        have syl : sy.length = out.length := Paired.length o1
        have hol : out.length ≤ 120 := by
          have := congrArg List.length hLk
          rw [List.length_map] at this
          have := okF.len_le hen
          omega
        refine ⟨p, rfl, ⟨_, SqL.of upd_same⟩, fun D hD => lc_list (K := K) (a := p) (xs := sy) (fun i H' => Bld TreeAt Hk D ((out.take i).map toT) H' ∧ Same (upd Hx p (.lst sy)) H') ?_ (fun i H' _ ⟨_, e⟩ => SqL.of (e _ _ upd_same)) ?_ ?_⟩
        · exact ⟨⟨(sx.trans sp).trans (same_upd hD), [], upd_same, .nil⟩, same_upd hD⟩
        · rintro i x H1 hi ⟨b1', e1⟩
          have hDk : Hk D = none := sx.free (sp.free hD)
          have hil : i < out.length := by rw [← syl]; exact (List.getElem?_eq_some_iff.mp hi).1
          obtain ⟨x', f1, d, rfl, f2⟩ := Paired.get o1 (List.getElem?_eq_getElem hil)
          rw [f1] at hi
          obtain rfl := Option.some.inj hi
          obtain ⟨pb, fb, f3, f4, f5⟩ := f2
          have e2 := sp.trans e1
          refine ⟨rfl, ?_⟩
          refine ⟨_, rfl, d, _, 0, .int out[i].1, rfl, rfl, SqT.of (e2 _ _ f3), rfl, _, rfl, d, _, 3, .ref fb, rfl, rfl, SqT.of (e2 _ _ f3), rfl, (by show 2 ≤ sizeLine; decide), fun q hq => ?_⟩
          have sq : Same H1 (upd H1 q (.tup [.int out[i].1, .ref fb])) := same_upd hq
          obtain ⟨acc, hacc, haccl⟩ := b1'.at
          refine ⟨acc, sq _ _ hacc, ?_, ?_, ?_⟩
          · rw [haccl, List.length_map, List.length_take]
            omega
          · rw [take_snoc (List.getElem?_eq_getElem hil), List.map_append]
            refine (b1'.grow treeM sq).push treeM hDk (x := toT out[i]) ⟨fb, upd_same, ?_⟩ (sq _ _ hacc)
            have f6 := flatM.same (e2.trans sq) f5
            obtain ⟨nf, fs, h1, h2⟩ := f6
            refine ⟨fun z => ?_, fs, h1, Paired.imp (fun _ _ z => z) h2⟩
            rcases z with z | z
            · exact nf (.inl z)
            · obtain ⟨_, fs', h3, _⟩ := f5
              have := sp _ _ h3
              rw [z, hD] at this
              cases this
          · exact fun b o e => by
              rw [upd_ne (ne_of_none e hD)]
              exact sq _ _ (e1 _ _ e)
        · rintro H1 ⟨b1', e1⟩
          have hDk : Hk D = none := sx.free (sp.free hD)
          rw [syl, List.take_length, hLk] at b1'
          have hdone := b1'.done treeM hDk
          have bz1 := bz.grow (LstAt.mono treeM) b1'.same
          have hz1 : H1 z = some (.lst (zs'.map V.ref)) := (sp.trans e1) _ _ z1
          refine ⟨z, _, _, rfl, rfl, hz1, ?_, _, _, _, _, _, _, _, _, rfl, ?_⟩
          · rw [List.length_map, Paired.length z2, List.length_take]
            have := okF.len
            omega
          · rw [take_snoc hTLk]
            exact bz1.push (LstAt.mono treeM) hz ((LstAt.mono treeM).anti (fun b hb => bz.domX b hb) hdone) hz1
    · rintro σ H1 ⟨v2, v3, v4, v5, v7, v8, v9, v10, rfl, bz⟩
      rw [hxl, List.take_of_length_le (by rw [TL_length]; exact Nat.le_refl _)] at bz
      exact ⟨_, rfl, k H1 z bz.same (bz.done (LstAt.mono treeM) hz)⟩
end
end K24
namespace K24
open PySem L2 K24R
section
variable {P : Program} {w : World} {K : PySem.W.Frag} {mg : Str → Option Value} {base : Heap} {C : Addr}
/-! ### holds -/
def pD (z : Nat × Nat) : PyData := .tuple [.int (z.1 : Nat), .int (z.2 : Nat)]
theorem pD_lay : ∀ fl : Flat, PyData.canLayAll0 (fl.map pD) = true
  | [] => by simp [PyData.canLayAll0]
  | z :: fl => by
    rw [List.map_cons, PyData.canLayAll0, pD_lay fl]
    simp [pD, PyData.canLay0, PyData.canLayAll0]
theorem pD_depth : ∀ fl : Flat, PyData.depthAll (fl.map pD) ≤ 2
  | [] => by simp [PyData.depthAll]
  | z :: fl => by
    rw [List.map_cons, PyData.depthAll]
    have h1 := pD_depth fl
    have h2 : PyData.depth (pD z) ≤ 2 := by simp [pD, PyData.depth, PyData.depthAll]
    exact Nat.max_le.mpr ⟨h2, h1⟩
theorem pD_shaped (fl : Flat) : SeqAt.shaped (.list (fl.map pD)) = true := by
  unfold SeqAt.shaped
  rw [Bool.and_eq_true]
  refine ⟨?_, decide_eq_true ?_⟩
  · rw [PyData.canLay0]; exact pD_lay fl
  · rw [PyData.depth]
    have := pD_depth fl
    omega
theorem pD_all {K : PySem.W.Frag} {H : Hp} : ∀ {ds : List Addr} {fl : Flat}, Paired (PairAt No H) ds fl → DpAll K H (ds.map V.ref) (fl.map pD)
  | _, _, .nil => .nil
  | _, _, .cons r t => .cons (.tup (SqT.of r) (.cons (.int _) (.cons (.int _) .nil))) (pD_all t)
def spHolds (C : Addr) : Sp := fun vs H Q _ => ∃ (p a : Addr) (F : Fo), vs = [.ref p, .ref a] ∧ ForestAt C No H p F ∧ OkF F ∧ TreesAt No H a (TL F) ∧ ∀ H' : Hp, Same H H' → Q (.bl true) H'
abbrev nHolds : List Str := ["_law_forest", "_law_trees_here", "_law_k", "_law_place", "_law_due", "_law_told", "_law_passed_here", "_law_number"]
theorem scHolds : FnScope nHolds ["_law_forest", "_law_trees_here"] (defScope sHolds) := ⟨rfl, rfl, rfl, by decide +kernel, rfl, by decide +kernel, by decide +kernel⟩
theorem ok_holds {f fT fU fS fI : Addr} {fd fdT fdU fdS fdI : FuncData} (Fn : Fun K "_law_holds" "_law_holds" sHolds f fd) (T : Txt K mg C)
    (GT : FnOk P w K mg base CX0 3 fT fdT ["self", "entry", "number"] (spTree C)) (bT : Binds K fdT ["self", "entry", "number"] []) (mT : Meth K C "tree" fT)
    (GU : FnOk P w K mg base CX0 3 fU fdU ["self", "tree"] (spNumber C)) (bU : Binds K fdU ["self", "tree"] []) (mU : Meth K C "number" fU)
    (FS : Fun K "_law_same_pairs" "_law_same_pairs" sSame fS fdS) (bS : Binds K fdS ["_law_told", "_law_due"] []) (gS : mg "_law_same_pairs" = some (.ref fS))
    (FI : Fun K "_law_is_integer" "_law_is_integer" sIsInt fI fdI) (bI : Binds K fdI ["_law_told"] []) (gI : mg "_law_is_integer" = some (.ref fI)) :
    FnOk P w K mg base CX0 4 f fd ["_law_forest", "_law_trees_here"] (spHolds C) := by
  have GS : FnOk P w K mg base CX0 2 fS fdS ["_law_told", "_law_due"] spSame := ok_same FS T FI bI gI
  have GI : FnOk P w K mg base CX0 1 fI fdI ["_law_told"] spIsInt := ok_isInt FI T
  refine Fn.ok scHolds (fun vs H Q E h => ?_) (fun cdv A outer s H vs Q E hr h => ?_)
  · obtain ⟨_, _, _, rfl, _⟩ := h
    rfl
  · obtain ⟨p, a, F, rfl, hF, okF, hT, k⟩ := h
    have hu : (A.deeper (PyProof.Rows.envOfC "_law_holds" (defScope sHolds) s.heap.objs.size f cdv)).units + 64 < cLine := hr.units
    have hr1 : Room 1 _ := hr.mono (by decide)
    have hr2 : Room 2 _ := hr.mono (by decide)
    have nd := scHolds.nd
    refine ⟨_, pss_cons (ps_for PassesOwn.never rfl (pi_range1 rfl T.range (pa_cons (pe_callB call_len_seq (by rfl) T.len PySem.boot_len (pa_cons (pv 1) pa_nil)) pa_nil)) (pg_name (i := 2) nd rfl (Or.inl rfl))
        (pss_one (ps_for PassesOwn.never rfl (pi_range1 rfl T.range (pa_cons (pe_callB call_len_seq (by rfl) T.len PySem.boot_len (pa_cons (pe_ix ix_list (pv 1) (pv 2) (fun _ _ => rfl)) pa_nil)) pa_nil)) (pg_name (i := 3) nd rfl (Or.inl rfl))
          (pss_cons (ps_set (i := 4) nd rfl (Or.inl rfl) (pe_ix ix_tup (pe_ix ix_list (pe_ix ix_list (pv 1) (pv 2) (fun _ _ => rfl)) (pv 3) (fun _ _ => rfl)) pe_int (fun _ _ => rfl)))
          (pss_cons (ps_set (i := 5) nd rfl (Or.inl rfl) (pe_meth (pv 0) T.cl mT GT hr bT .nil pass0 (pa_cons (pv 2) (pa_cons (pv 3) pa_nil))))
          (pss_cons (ps_if (pt_not (pt_val (pe_call GS hr2 rfl gS FS.kp bS .nil pass0 (pa_cons (pv 5) (pa_cons (pv 4) pa_nil))))) (pss_one (ps_ret pe_bl)) pss_nil)
          (pss_cons (ps_expr (pe_bm0 PySem.F.plainAttrs_list PySem.F.slot_list_pop PySem.F.type_list_pop mt_pop (pv 5)))
          (pss_cons (ps_expr (pe_bm PySem.F.plainAttrs_list PySem.F.slot_list_append PySem.F.type_list_append mt_append (pv 5) (pa_cons (pe_tup (pa_cons pe_int (pa_cons pe_int pa_nil))) pa_nil)))
          (pss_cons (ps_set (i := 6) nd rfl (Or.inl rfl) (pe_callTy call_list_of (by rfl) T.list (by decide +kernel) (pa_cons (pv 4) pa_nil)))
          (pss_cons (ps_set (i := 7) nd rfl (Or.inl rfl) (pe_meth (pv 0) T.cl mU GU hr bU .nil pass0 (pa_cons (pv 6) pa_nil)))
          (pss_one (ps_if (PW.pt (pw_or (pt_not (pt_val (pe_call GI hr1 rfl gI FI.kp bI .nil pass0 (pa_cons (pv 7) pa_nil))))
              (pw_or (pt_cmpR op_ne (pv 7) (pv 3) (nomark _))
              (pw_or1 (pt_cmpR (op_neD hu) (pv 6) (pv 4) (nomark _))))))
            (pss_one (ps_ret pe_bl)) pss_nil))))))))))))
      (pss_one (ps_ret pe_bl)), ?_⟩
    have b62 : (2015539 : Int) < 2 ^ 62 := by decide
    have hbig : (2015539 : Nat) + 100 < sizeLine := by decide
    obtain ⟨xs, hxs, hxl⟩ := hT.len
    rw [TL_length] at hxl
    refine ⟨_, rfl, a, _, rfl, .inl (SqL.of hxs), _, rfl, ?_, ?_, for_range (lo := 0) (n := xs.length) (fun i σ H' => Same H H' ∧ ∃ v2 v3 v4 v5 v6 v7 : Option V, σ = [some (.ref p), some (.ref a), v2, v3, v4, v5, v6, v7]) ⟨Same.refl H, _, _, _, _, _, _, rfl⟩ ?_ ?_⟩
    · have : (-(2 ^ 62) : Int) < 0 := by decide
      omega
    · have := okF.len
      omega
    · rintro e σ H1 he ⟨s1, v2, v3, v4, v5, v6, v7, rfl⟩
      rw [Int.zero_add]
      rw [hxl] at he
      have hen : F[e]? = some F[e] := List.getElem?_eq_getElem he
      obtain ⟨_, ta, x1, x2, _, x3⟩ := hT.ix (lk_get he)
      rw [hxs] at x1
      cases x1
      obtain ⟨ts, t1, tl⟩ := x3.len
      have hlen := okF.len_le hen
      refine ⟨_, rfl, _, rfl, a, _, _, .ref ta, rfl, rfl, SqL.of (s1 _ _ hxs), atI_nat x2, ta, _, rfl, .inl (SqL.of (s1 _ _ t1)), _, rfl, ?_, ?_, for_range (lo := 0) (n := ts.length) (fun n σ H' => Same H H' ∧ ∃ v3 v4 v5 v6 v7 : Option V, σ = [some (.ref p), some (.ref a), some (.int (e : Nat)), v3, v4, v5, v6, v7])
        ⟨s1, _, _, _, _, _, rfl⟩ ?_ ?_⟩
      · have : (-(2 ^ 62) : Int) < 0 := by decide
        omega
      · omega
      · rintro n σ H2 hn ⟨s2, v3, v4, v5, v6, v7, rfl⟩
        rw [Int.zero_add]
        rw [tl] at hn
        have hti : (lk (TL F) e)[n]? = some (lk (TL F) e)[n] := List.getElem?_eq_getElem hn
        generalize (lk (TL F) e)[n] = t at hti
        obtain ⟨c, fl⟩ := t
        obtain ⟨_, td, y1, y2, _, fb, y3, y4⟩ := x3.ix hti
        have y4 : FlatAt No H fb fl := y4
        have hfl : fl.length ≤ 2015539 := okF.flat_le hen (List.mem_of_getElem? hti)
        have hfl1 : 1 ≤ fl.length := (okF.size e _ hen _ (List.mem_of_getElem? hti)).2
        refine ⟨_, rfl, _, rfl, a, _, _, .ref ta, rfl, rfl, SqL.of (s2 _ _ hxs), atI_nat x2, _, rfl, ta, _, _, .ref td, rfl, rfl, SqL.of (s2 _ _ y1), atI_nat y2, td, _, 1, .ref fb, rfl, rfl, SqT.of (s2 _ _ y3), rfl, ?_⟩
        obtain ⟨_, dx, ae, ac, ar, h1, _⟩ := id hF
        refine ⟨_, rfl, p, dx, _, rfl, s2 _ _ h1, fF_no _ _ _ (by decide +kernel) (by decide +kernel) (by decide +kernel), _, rfl, _, rfl, ?_⟩
        refine ⟨p, e, n, F, (c, fl), rfl, (forestM C).same s2 hF, okF, he, hti, fun H3 r s3 hr3 => ?_⟩
        refine ⟨_, rfl, _, rfl, r, fb, fl, rfl, flatM.no hr3, flatM.same (s2.trans s3) y4, hfl, true, rfl, ?_⟩
        refine iteF ?_
        obtain ⟨nr, ds, d1, d2⟩ := id hr3
        have d2 : Paired (PairAt (Dom H2) H3) ds fl := d2
        have hne : fl ≠ [] := fun z => by rw [z] at hfl1; simp at hfl1
        have hdl : ds.length = fl.length := Paired.length d2
        obtain ⟨ds0, dl, rfl⟩ : ∃ ds0 dl, ds = ds0 ++ [dl] := by
          have : ds ≠ [] := fun z => by rw [z] at hdl; simp at hdl; omega
          exact ⟨ds.dropLast, ds.getLast this, (List.dropLast_concat_getLast this).symm⟩
        rw [List.map_append] at d1
        have d1 : H3 r = some (.lst (ds0.map V.ref ++ [V.ref dl])) := d1
        refine ⟨_, rfl, .inl ⟨rfl, _, SqL.of d1⟩, r, _, .ref dl, rfl, rfl, d1, by simp, ?_⟩
        refine ⟨_, rfl, .inl ⟨rfl, _, SqL.of upd_same⟩, (by show 2 ≤ sizeLine; decide), fun q hq => ⟨r, _, _, rfl, rfl, same_upd hq _ _ upd_same, ?_, ?_⟩⟩
        · rw [List.length_append] at hdl
          rw [List.dropLast_concat, List.length_map]
          omega
        have s4 : Same H2 (upd (upd (upd H3 r (.lst (ds0.map V.ref ++ [V.ref dl]).dropLast)) q (.tup [.int 0, .int 9])) r (.lst ((ds0.map V.ref ++ [V.ref dl]).dropLast ++ [.ref q]))) := fun b o e => by
          have nb : b ≠ r := fun z => by
            rw [z] at e
            exact nr (dom_some e)
          rw [upd_ne nb]
          refine same_upd hq _ _ ?_
          rw [upd_ne nb]
          exact s3 _ _ e
        generalize upd (upd (upd H3 r (.lst (ds0.map V.ref ++ [V.ref dl]).dropLast)) q (.tup [.int 0, .int 9])) r (.lst ((ds0.map V.ref ++ [V.ref dl]).dropLast ++ [.ref q])) = H4 at s4
        have s04 := s2.trans s4
        obtain ⟨_, fs, f1, f2⟩ := id y4
        refine ⟨_, rfl, fb, _, rfl, .inl (SqL.of (s04 _ _ f1)), fun l hl => ?_⟩
        have sl : Same H4 (upd H4 l (.lst (fs.map V.ref))) := same_upd hl
        have s05 := s04.trans sl
        have fl5 : FlatAt No (upd H4 l (.lst (fs.map V.ref))) l fl := ⟨fun z => z, fs, upd_same, Paired.imp (fun _ _ z => pairM.same s05 z) f2⟩
        generalize upd H4 l (.lst (fs.map V.ref)) = H5 at sl s05 fl5
        refine ⟨_, rfl, p, dx, _, rfl, s05 _ _ h1, fF_no _ _ _ (by decide +kernel) (by decide +kernel) (by decide +kernel), _, rfl, ?_⟩
        refine ⟨p, l, e, n, F, c, fl, rfl, (forestM C).same s05 hF, okF, he, fl5, hti, fun H6 s6 => ?_⟩
        have s06 := s05.trans s6
        refine ⟨_, rfl, _, rfl, true, rfl, ?_⟩
        refine iteF ⟨_, rfl, _, rfl, rfl, _, rfl, ?_⟩
        refine iteNS rfl ?_
        obtain ⟨_, ls, l1, l2⟩ := flatM.same s6 fl5
        obtain ⟨_, gs, g1, g2⟩ := flatM.same s06 y4
        refine ⟨_, rfl, _, rfl, _, _, .lst (SqL.of l1) (pD_all l2), .lst (SqL.of g1) (pD_all g2), pD_shaped _, pD_shaped _, _, rfl, ?_⟩
        rw [SeqAt.eqv_refl _ (SeqAt.canLay_of_shaped (pD_shaped fl))]
        exact iteF ⟨s06, _, _, _, _, _, rfl⟩
      · rintro σ H2 ⟨s2, v3, v4, v5, v6, v7, rfl⟩
        exact ⟨s2, _, _, _, _, _, _, rfl⟩
    · rintro σ H1 ⟨s1, v2, v3, v4, v5, v6, v7, rfl⟩
      exact k H1 s1
end
end K24
namespace K24
open PySem L2 K24R
section
variable {P : Program} {w : World} {K : PySem.W.Frag} {mg : Str → Option Value} {base : Heap} {C : Addr}
/-! ### the law -/
def spLaw (K : PySem.W.Frag) : Sp := fun vs H Q _ => ∃ (a : Addr) (ns : List Int), vs = [.ref a] ∧ SqL K H a (ns.map V.int) ∧ ns.length ≤ 63 ∧ ∀ H', Q (.bl true) H'
abbrev nLaw : List Str := ["_law_script", "_law_k", "_law_rows", "_law_forests", "_law_trees_here"]
theorem scLaw : FnScope nLaw ["_law_script"] (defScope sLaw) := ⟨rfl, rfl, rfl, by decide +kernel, rfl, by decide +kernel, by decide +kernel⟩
theorem keep_fresh {H H1 H2 : Hp} {t : Addr} (e : Same H H1) (ht : H t = none) (k : ∀ b o, H1 b = some o → b ≠ t → H2 b = some o) : Same H H2 := fun b o h => k b o (e b o h) (ne_of_none h ht)
theorem pick010 {i : Nat} {x : V} (h : ([.int 0, .int 1, .int 0] : List V)[i]? = some x) : ∃ m : Nat, m < 2 ∧ x = .int (m : Nat) := by
  match i, h with
  | 0, h => exact ⟨0, by omega, (Option.some.inj h).symm⟩
  | 1, h => exact ⟨1, by omega, (Option.some.inj h).symm⟩
  | 2, h => exact ⟨0, by omega, (Option.some.inj h).symm⟩
  | i + 3, h => cases h
theorem ok_law {f fTp fE fPa fTr fH fI : Addr} {fd fdTp fdE fdPa fdTr fdH fdI : FuncData} (Fn : Fun K "law" "law" sLaw f fd) (T : Txt K mg C) (M : Mk K C fI)
    (FTp : Fun K "_law_tape" "_law_tape" sTape fTp fdTp) (bTp : Binds K fdTp ["_law_script", "_law_k"] []) (gTp : mg "_law_tape" = some (.ref fTp))
    (FE : Fun K "_law_entries" "_law_entries" sEntries fE fdE) (GE : FnOk P w K mg base CX0 3 fE fdE ["_law_tape_here", "_law_most"] spEntries) (bE : Binds K fdE ["_law_tape_here", "_law_most"] []) (gE : mg "_law_entries" = some (.ref fE))
    (FPa : Fun K "_law_passed" "_law_passed" sPassed fPa fdPa) (bPa : Binds K fdPa ["_law_entries_here"] []) (gPa : mg "_law_passed" = some (.ref fPa))
    (GI : FnOk P w K mg base CX0 3 fI fdI ["self", "entries"] (spInit C)) (bI : Binds K fdI ["self", "entries"] [])
    (FTr : Fun K "_law_trees" "_law_trees" sTrees fTr fdTr) (GTr : FnOk P w K mg base CX0 2 fTr fdTr ["_law_entries_here"] spTrees) (bTr : Binds K fdTr ["_law_entries_here"] []) (gTr : mg "_law_trees" = some (.ref fTr))
    (FH : Fun K "_law_holds" "_law_holds" sHolds fH fdH) (GH : FnOk P w K mg base CX0 4 fH fdH ["_law_forest", "_law_trees_here"] (spHolds C)) (bH : Binds K fdH ["_law_forest", "_law_trees_here"] []) (gH : mg "_law_holds" = some (.ref fH)) :
    FnOk P w K mg base CX0 5 f fd ["_law_script"] (spLaw K) := by
  have GTp : FnOk P w K mg base CX0 1 fTp fdTp ["_law_script", "_law_k"] (spTape K) := ok_tape FTp T
  have GPa : FnOk P w K mg base CX0 1 fPa fdPa ["_law_entries_here"] spPassed := ok_passed FPa T
  refine Fn.ok scLaw (fun vs H Q E h => ?_) (fun cdv A outer s H vs Q E hr h => ?_)
  · obtain ⟨_, _, rfl, _⟩ := h
    rfl
  · obtain ⟨a, ns, rfl, hS, hlen, k⟩ := h
    have hr1 : Room 1 _ := hr.mono (by decide)
    have hr2 : Room 2 _ := hr.mono (by decide)
    have hr3 : Room 3 _ := hr.mono (by decide)
    have nd := scLaw.nd
    refine ⟨_, pss_cons (ps_set (i := 2) nd rfl (Or.inr rfl) (pe_lc (own := [("_law_k", 1)]) (g := gName 1) (tt := tYes) rfl nd (pi_range1 rfl T.range (pa_cons pe_int pa_nil)) (blkOk_by (N := nLaw) (sc := defScope sLaw) (by decide +kernel)) (fun _ _ _ _ _ => pg_name (i := 1) nd rfl (Or.inl rfl)) (fun _ _ _ _ _ => pts_nil)
          (fun _ _ _ _ _ => pe_call GE hr3 rfl gE FE.kp bE .nil pass0 (pa_cons (pe_call GTp hr1 rfl gTp FTp.kp bTp .nil pass0 (pa_cons (pv 0) (pa_cons (pv 1) pa_nil))) (pa_cons pe_int pa_nil)))))
      (pss_cons (ps_setLc (i := 3) (own := [("_law_k", 1)]) (g := gName 1) (tt := tYes) rfl nd rfl rfl (sw_true rfl rfl rfl (by decide +kernel)) (pi_range1 rfl T.range (pa_cons pe_int pa_nil)) (blkOk_by (N := nLaw) (sc := defScope sLaw) (by decide +kernel)) (fun _ _ _ _ _ => pg_name (i := 1) nd rfl (Or.inl rfl)) (fun _ _ _ _ _ => pts_nil)
          (fun _ _ _ _ _ => pe_make M GI hr rfl T.mgC bI .nil pass0 (pa_cons (pe_call GPa hr1 rfl gPa FPa.kp bPa .nil pass0 (pa_cons (pe_ix (ixl K) (pv 2) (pv 1) (fun _ _ => rfl)) pa_nil)) pa_nil)))
      (pss_cons (ps_setLc (i := 4) (own := [("_law_k", 1)]) (g := gName 1) (tt := tYes) rfl nd rfl rfl (sw_true rfl rfl rfl (by decide +kernel)) (pi_range1 rfl T.range (pa_cons pe_int pa_nil)) (blkOk_by (N := nLaw) (sc := defScope sLaw) (by decide +kernel)) (fun _ _ _ _ _ => pg_name (i := 1) nd rfl (Or.inl rfl)) (fun _ _ _ _ _ => pts_nil)
          (fun _ _ _ _ _ => pe_call GTr hr2 rfl gTr FTr.kp bTr .nil pass0 (pa_cons (pe_ix (ixl K) (pv 2) (pv 1) (fun _ _ => rfl)) pa_nil)))
      (pss_cons (ps_for PassesOwn.never rfl (pi_list (pe_lst (pa_cons pe_int (pa_cons pe_int (pa_cons pe_int pa_nil))))) (pg_name (i := 1) nd rfl (Or.inl rfl))
        (pss_one (ps_if (pt_not (pt_val (pe_call GH hr rfl gH FH.kp bH .nil pass0 (pa_cons (pe_ix ix_list (pv 3) (pv 1) (fun _ _ => rfl)) (pa_cons (pe_ix ix_list (pv 4) (pv 1) (fun _ _ => rfl)) pa_nil))))) (pss_one (ps_ret pe_bl)) pss_nil)))
      (pss_one (ps_ret pe_bl))))), ?_⟩
    have big := big20
    refine ⟨_, rfl, by decide, by decide, fun D hD => lc_range (lo := 0) (n := 2) (fun m H' => ∃ Fs : List Fo, Bld ForAt H D Fs H' ∧ Fs.length = m ∧ ∀ F ∈ Fs, OkF F) ⟨[], Bld.start hD, rfl, by simp⟩ ?_ ?_⟩
    · rintro m H1 hm ⟨Fs, b, hl, hok⟩
      rw [Int.zero_add]
      refine ⟨rfl, ?_⟩
      refine ⟨_, rfl, _, rfl, a, (m : Nat), ns, rfl, b.same.seq hS, by omega, fun H2 t s2 ht hT => ?_⟩
      refine ⟨t, rfl, hT, fun H3 p F k3 t3 okF hF => ?_⟩
      have s3 : Same H1 H3 := keep_fresh s2 ht k3
      have b3 := b.grow forM s3
      obtain ⟨acc, hacc, haccl⟩ := b3.at
      refine ⟨acc, hacc, by omega, Fs ++ [F], b3.push forM hD (forM.anti (fun c hc => ?_) hF) hacc, by rw [List.length_append, hl]; rfl, mem_snoc hok okF⟩
      exact Same.dom s2 (b.domX c hc)
    · rintro H1 ⟨Fs, bR, hl, hok⟩
      have rowAt : ∀ H', Same H1 H' → ∀ m (hm : m < Fs.length), ∃ (ds : List Addr) (p : Addr), H' D = some (.lst (ds.map V.ref)) ∧ (ds.map V.ref)[m]? = some (.ref p) ∧ ForAt No H' p Fs[m] := fun H' s' m hm => by
        obtain ⟨ds, d1, d2⟩ := (bR.grow forM s').lst
        obtain ⟨p, e1, e2⟩ := Paired.get d2 (List.getElem?_eq_getElem hm)
        exact ⟨ds, p, d1, by rw [List.getElem?_map, e1]; rfl, forM.no e2⟩
      refine ⟨_, rfl, by decide, by decide, fun D2 hD2 => lc_range (lo := 0) (n := 2) (fun m H' => Bld (ForestAt C) H1 D2 (Fs.take m) H') (Bld.start hD2) ?_ ?_⟩
      · intro m H2 hm b2
        rw [Int.zero_add]
        have hmF : m < Fs.length := by omega
        have okF := hok _ (List.getElem_mem hmF)
        obtain ⟨ds, p, d1, d2, d3⟩ := rowAt H2 b2.same m hmF
        refine ⟨rfl, ?_⟩
        refine ⟨_, rfl, _, rfl, D, _, _, .ref p, rfl, rfl, SqL.of d1, atI_nat d2, p, Fs[m], rfl, d3, okF.len, fun H3 pp s3 hpp => ?_⟩
        intro x dx nx ndx ne
        have sM : Same H3 (upd (upd H3 dx (.own x)) x (.ins C dx [])) := fun b o e => by
          rw [upd_ne (ne_of_none e nx), upd_ne (ne_of_none e ndx)]
          exact e
        refine ⟨x, dx, pp, Fs[m], rfl, upd_same, forM.no (forM.same sM hpp), okF, fun H4 kp hFA => ⟨rfl, ?_⟩⟩
        have s4 : Same H3 H4 := fun b o e => kp b o (sM b o e) (ne_of_none e nx)
        have b4 := (b2.grow (forestM C) s3).grow (forestM C) s4
        obtain ⟨acc, hacc, haccl⟩ := b4.at
        refine ⟨acc, hacc, ?_, ?_⟩
        · rw [haccl, List.length_take]
          omega
        · rw [take_snoc (List.getElem?_eq_getElem hmF)]
          refine b4.push (forestM C) hD2 ((forestM C).anti (fun c hc => ?_) hFA) hacc
          have h3 : Dom H3 c := Same.dom s3 (b2.domX c hc)
          refine ⟨Same.dom sM h3, fun z => ?_⟩
          rw [z] at h3
          exact h3 nx
      · intro H2 b2
        rw [← hl, List.take_length] at b2
        refine ⟨_, rfl, by decide, by decide, fun D3 hD3 => lc_range (lo := 0) (n := 2) (fun m H' => Bld TreesAt H2 D3 ((Fs.map TL).take m) H') (Bld.start hD3) ?_ ?_⟩
        · intro m H3 hm b3
          rw [Int.zero_add]
          have hmF : m < Fs.length := by omega
          have okF := hok _ (List.getElem_mem hmF)
          obtain ⟨ds, p, d1, d2, d3⟩ := rowAt H3 (b2.same.trans b3.same) m hmF
          refine ⟨rfl, ?_⟩
          refine ⟨_, rfl, _, rfl, D, _, _, .ref p, rfl, rfl, SqL.of d1, atI_nat d2, p, Fs[m], rfl, d3, okF, fun H4 q s4 hq => ?_⟩
          have b4 := b3.grow treesM s4
          obtain ⟨acc, hacc, haccl⟩ := b4.at
          refine ⟨acc, hacc, ?_, ?_⟩
          · rw [haccl, List.length_take]
            omega
          · have e : (Fs.map TL)[m]? = some (TL Fs[m]) := by rw [List.getElem?_map, List.getElem?_eq_getElem hmF]; rfl
            rw [take_snoc e]
            exact b4.push treesM hD3 (treesM.anti (fun c hc => b3.domX c hc) hq) hacc
        · intro H3 b3
          rw [← hl, ← List.length_map (f := TL), List.take_length] at b3
          refine ⟨(by show 3 ≤ sizeLine; decide), fun g hg => ?_⟩
          refine ⟨g, rfl, ⟨_, SqL.of upd_same⟩, for_list (K := K) (a := g) (xs := [.int 0, .int 1, .int 0]) (fun i σ H' => Same (upd H3 g (.lst [.int 0, .int 1, .int 0])) H' ∧ ∃ v1 : Option V, σ = [some (.ref a), v1, some (.ref D), some (.ref D2), some (.ref D3)])
            ⟨Same.refl _, _, rfl⟩ (fun i σ H' _ ⟨e, _⟩ => SqL.of (e _ _ upd_same)) ?_ ?_⟩
          · rintro i x σ H4 hx ⟨s4, v1, rfl⟩
            have s3 : Same H3 H4 := (same_upd hg).trans s4
            obtain ⟨m, hm, rfl⟩ := pick010 hx
            have hmF : m < Fs.length := by omega
            have okF := hok _ (List.getElem_mem hmF)
            have hFm : Fs[m]? = some Fs[m] := List.getElem?_eq_getElem hmF
            have hTm : (Fs.map TL)[m]? = some (TL Fs[m]) := by rw [List.getElem?_map, hFm]; rfl
            obtain ⟨fs, f1, f2⟩ := (b2.grow (forestM C) (b3.same.trans s3)).lst
            obtain ⟨ts, t1, t2⟩ := (b3.grow treesM s3).lst
            obtain ⟨x, e1, e2⟩ := Paired.get f2 hFm
            obtain ⟨y, g1, g2⟩ := Paired.get t2 hTm
            refine ⟨_, rfl, _, rfl, D2, _, _, .ref x, rfl, rfl, SqL.of f1, atI_nat (by rw [List.getElem?_map, e1]; rfl), _, rfl, _, rfl, D3, _, _, .ref y, rfl, rfl, SqL.of t1, atI_nat (by rw [List.getElem?_map, g1]; rfl), ?_⟩
            refine ⟨x, y, Fs[m], rfl, (forestM C).no e2, okF, treesM.no g2, fun H5 s5 => ?_⟩
            refine ⟨true, rfl, ?_⟩
            exact iteF ⟨s4.trans s5, _, rfl⟩
          · rintro σ H4 ⟨s4, v1, rfl⟩
            exact k H4
end
end K24
namespace K24
open PySem L2 K24R
/-! ### what the top has written, and the law's own head -/
theorem all_mk {l : PySem.W.OpenLaw} {w : World} {K : PySem.W.Frag} {h : Heap} {mg : Str → Option Value} {fa C f1 f2 f3 f4 f5 f6 f7 f8 f9 f10 f11 f12 f13 f14 f15 f16 f17 f18 f19 f20 f21 f22 f23 f24 : Addr} (X : K.In h) (G : h.Ns mainGlobals mg) (hfa : mg "law" = some (.ref fa))
    {od1 an1 od2 an2 od3 an3 od4 an4 od5 an5 od6 an6 od7 an7 od8 an8 od9 an9 od10 an10 od11 an11 od12 an12 od13 an13 od14 an14 od15 an15 od16 an16 od17 an17 od18 an18 od19 an19 od20 an20 od21 an21 od22 an22 od23 an23 od24 an24 : Option Addr} {sl1 sl2 sl3 sl4 sl5 sl6 sl7 sl8 sl9 sl10 sl11 sl12 sl13 sl14 sl15 sl16 sl17 sl18 sl19 sl20 sl21 sl22 sl23 sl24 : Array (Option Value)} {oc1 kV1 dc1 pm1 cd1 ct1 oc2 kV2 dc2 pm2 cd2 ct2 oc3 kV3 dc3 pm3 cd3 ct3 oc4 kV4 dc4 pm4 cd4 ct4 oc5 kV5 dc5 pm5 cd5 ct5 oc6 kV6 dc6 pm6 cd6 ct6 oc7 kV7 dc7 pm7 cd7 ct7 oc8 kV8 dc8 pm8 cd8 ct8 oc9 kV9 dc9 pm9 cd9 ct9 oc10 kV10 dc10 pm10 cd10 ct10 oc11 kV11 dc11 pm11 cd11 ct11 oc12 kV12 dc12 pm12 cd12 ct12 oc13 kV13 dc13 pm13 cd13 ct13 oc14 kV14 dc14 pm14 cd14 ct14 oc15 kV15 dc15 pm15 cd15 ct15 oc16 kV16 dc16 pm16 cd16 ct16 oc17 kV17 dc17 pm17 cd17 ct17 oc18 kV18 dc18 pm18 cd18 ct18 oc19 kV19 dc19 pm19 cd19 ct19 oc20 kV20 dc20 pm20 cd20 ct20 oc21 kV21 dc21 pm21 cd21 ct21 oc22 kV22 dc22 pm22 cd22 ct22 oc23 kV23 dc23 pm23 cd23 ct23 oc24 kV24 dc24 pm24 cd24 ct24 : Value}
    (aC : PySem.W.nsIn K mainGlobals "Forest" = some (some (.ref C)))
    (a1 : PySem.W.nsIn K mainGlobals "check_entries" = some (some (.ref f1))) (l1 : K.lookup f1 = some ⟨oc1, od1, .func (PySem.W.fnOf "check_entries" "check_entries" (defArgs sCheck) (defBody sCheck) (defScope sCheck) .none kV1 dc1 pm1 an1 cd1 ct1), sl1⟩) (c1 : PySem.W.codeIn K cd1 "check_entries" = true) (k1 : PySem.W.keepIn K (.ref f1) = true)
    (a2 : PySem.W.nsIn K mainGlobals "combined" = some (some (.ref f2))) (l2 : K.lookup f2 = some ⟨oc2, od2, .func (PySem.W.fnOf "combined" "combined" (defArgs sComb) (defBody sComb) (defScope sComb) .none kV2 dc2 pm2 an2 cd2 ct2), sl2⟩) (c2 : PySem.W.codeIn K cd2 "combined" = true) (k2 : PySem.W.keepIn K (.ref f2) = true)
    (a3 : PySem.W.nsIn K mainGlobals "_law_tape" = some (some (.ref f3))) (l3 : K.lookup f3 = some ⟨oc3, od3, .func (PySem.W.fnOf "_law_tape" "_law_tape" (defArgs sTape) (defBody sTape) (defScope sTape) .none kV3 dc3 pm3 an3 cd3 ct3), sl3⟩) (c3 : PySem.W.codeIn K cd3 "_law_tape" = true) (k3 : PySem.W.keepIn K (.ref f3) = true)
    (a4 : PySem.W.nsIn K mainGlobals "_law_take" = some (some (.ref f4))) (l4 : K.lookup f4 = some ⟨oc4, od4, .func (PySem.W.fnOf "_law_take" "_law_take" (defArgs sTake) (defBody sTake) (defScope sTake) .none kV4 dc4 pm4 an4 cd4 ct4), sl4⟩) (c4 : PySem.W.codeIn K cd4 "_law_take" = true) (k4 : PySem.W.keepIn K (.ref f4) = true)
    (a5 : PySem.W.nsIn K mainGlobals "_law_cost" = some (some (.ref f5))) (l5 : K.lookup f5 = some ⟨oc5, od5, .func (PySem.W.fnOf "_law_cost" "_law_cost" (defArgs sCost) (defBody sCost) (defScope sCost) .none kV5 dc5 pm5 an5 cd5 ct5), sl5⟩) (c5 : PySem.W.codeIn K cd5 "_law_cost" = true) (k5 : PySem.W.keepIn K (.ref f5) = true)
    (a6 : PySem.W.nsIn K mainGlobals "_law_sizes" = some (some (.ref f6))) (l6 : K.lookup f6 = some ⟨oc6, od6, .func (PySem.W.fnOf "_law_sizes" "_law_sizes" (defArgs sSizes) (defBody sSizes) (defScope sSizes) .none kV6 dc6 pm6 an6 cd6 ct6), sl6⟩) (c6 : PySem.W.codeIn K cd6 "_law_sizes" = true) (k6 : PySem.W.keepIn K (.ref f6) = true)
    (a7 : PySem.W.nsIn K mainGlobals "_law_caps" = some (some (.ref f7))) (l7 : K.lookup f7 = some ⟨oc7, od7, .func (PySem.W.fnOf "_law_caps" "_law_caps" (defArgs sCaps) (defBody sCaps) (defScope sCaps) .none kV7 dc7 pm7 an7 cd7 ct7), sl7⟩) (c7 : PySem.W.codeIn K cd7 "_law_caps" = true) (k7 : PySem.W.keepIn K (.ref f7) = true)
    (a8 : PySem.W.nsIn K mainGlobals "_law_entries" = some (some (.ref f8))) (l8 : K.lookup f8 = some ⟨oc8, od8, .func (PySem.W.fnOf "_law_entries" "_law_entries" (defArgs sEntries) (defBody sEntries) (defScope sEntries) .none kV8 dc8 pm8 an8 cd8 ct8), sl8⟩) (c8 : PySem.W.codeIn K cd8 "_law_entries" = true) (k8 : PySem.W.keepIn K (.ref f8) = true)
    (a9 : PySem.W.nsIn K mainGlobals "_law_passed" = some (some (.ref f9))) (l9 : K.lookup f9 = some ⟨oc9, od9, .func (PySem.W.fnOf "_law_passed" "_law_passed" (defArgs sPassed) (defBody sPassed) (defScope sPassed) .none kV9 dc9 pm9 an9 cd9 ct9), sl9⟩) (c9 : PySem.W.codeIn K cd9 "_law_passed" = true) (k9 : PySem.W.keepIn K (.ref f9) = true)
    (a10 : PySem.W.nsIn K mainGlobals "_law_picks" = some (some (.ref f10))) (l10 : K.lookup f10 = some ⟨oc10, od10, .func (PySem.W.fnOf "_law_picks" "_law_picks" (defArgs sPicks) (defBody sPicks) (defScope sPicks) .none kV10 dc10 pm10 an10 cd10 ct10), sl10⟩) (c10 : PySem.W.codeIn K cd10 "_law_picks" = true) (k10 : PySem.W.keepIn K (.ref f10) = true)
    (a11 : PySem.W.nsIn K mainGlobals "_law_trees" = some (some (.ref f11))) (l11 : K.lookup f11 = some ⟨oc11, od11, .func (PySem.W.fnOf "_law_trees" "_law_trees" (defArgs sTrees) (defBody sTrees) (defScope sTrees) .none kV11 dc11 pm11 an11 cd11 ct11), sl11⟩) (c11 : PySem.W.codeIn K cd11 "_law_trees" = true) (k11 : PySem.W.keepIn K (.ref f11) = true)
    (a12 : PySem.W.nsIn K mainGlobals "_law_is_integer" = some (some (.ref f12))) (l12 : K.lookup f12 = some ⟨oc12, od12, .func (PySem.W.fnOf "_law_is_integer" "_law_is_integer" (defArgs sIsInt) (defBody sIsInt) (defScope sIsInt) .none kV12 dc12 pm12 an12 cd12 ct12), sl12⟩) (c12 : PySem.W.codeIn K cd12 "_law_is_integer" = true) (k12 : PySem.W.keepIn K (.ref f12) = true)
    (a13 : PySem.W.nsIn K mainGlobals "_law_same_pairs" = some (some (.ref f13))) (l13 : K.lookup f13 = some ⟨oc13, od13, .func (PySem.W.fnOf "_law_same_pairs" "_law_same_pairs" (defArgs sSame) (defBody sSame) (defScope sSame) .none kV13 dc13 pm13 an13 cd13 ct13), sl13⟩) (c13 : PySem.W.codeIn K cd13 "_law_same_pairs" = true) (k13 : PySem.W.keepIn K (.ref f13) = true)
    (a14 : PySem.W.nsIn K mainGlobals "_law_holds" = some (some (.ref f14))) (l14 : K.lookup f14 = some ⟨oc14, od14, .func (PySem.W.fnOf "_law_holds" "_law_holds" (defArgs sHolds) (defBody sHolds) (defScope sHolds) .none kV14 dc14 pm14 an14 cd14 ct14), sl14⟩) (c14 : PySem.W.codeIn K cd14 "_law_holds" = true) (k14 : PySem.W.keepIn K (.ref f14) = true)
    (a15 : PySem.W.nsIn K mainGlobals "law" = some (some (.ref f15))) (l15 : K.lookup f15 = some ⟨oc15, od15, .func (PySem.W.fnOf "law" "law" (defArgs sLaw) (defBody sLaw) (defScope sLaw) .none kV15 dc15 pm15 an15 cd15 ct15), sl15⟩) (c15 : PySem.W.codeIn K cd15 "law" = true) (k15 : PySem.W.keepIn K (.ref f15) = true)
    (a16 : PySem.W.findIn K (.ref C) "__init__" = some (some (.ref f16))) (i16 : PySem.W.isFn K (.ref f16) = true) (l16 : K.lookup f16 = some ⟨oc16, od16, .func (PySem.W.fnOf "__init__" "Forest.__init__" (defArgs sInit) (defBody sInit) (defScope sInit) .none kV16 dc16 pm16 an16 cd16 ct16), sl16⟩) (c16 : PySem.W.codeIn K cd16 "Forest.__init__" = true) (k16 : PySem.W.keepIn K (.ref f16) = true)
    (a17 : PySem.W.findIn K (.ref C) "_rests_of" = some (some (.ref f17))) (i17 : PySem.W.isFn K (.ref f17) = true) (l17 : K.lookup f17 = some ⟨oc17, od17, .func (PySem.W.fnOf "_rests_of" "Forest._rests_of" (defArgs sRests) (defBody sRests) (defScope sRests) .none kV17 dc17 pm17 an17 cd17 ct17), sl17⟩) (c17 : PySem.W.codeIn K cd17 "Forest._rests_of" = true) (k17 : PySem.W.keepIn K (.ref f17) = true)
    (a18 : PySem.W.findIn K (.ref C) "counts" = some (some (.ref f18))) (i18 : PySem.W.isFn K (.ref f18) = true) (l18 : K.lookup f18 = some ⟨oc18, od18, .func (PySem.W.fnOf "counts" "Forest.counts" (defArgs sCounts) (defBody sCounts) (defScope sCounts) .none kV18 dc18 pm18 an18 cd18 ct18), sl18⟩) (c18 : PySem.W.codeIn K cd18 "Forest.counts" = true) (k18 : PySem.W.keepIn K (.ref f18) = true)
    (a19 : PySem.W.findIn K (.ref C) "total" = some (some (.ref f19))) (i19 : PySem.W.isFn K (.ref f19) = true) (l19 : K.lookup f19 = some ⟨oc19, od19, .func (PySem.W.fnOf "total" "Forest.total" (defArgs sTotal) (defBody sTotal) (defScope sTotal) .none kV19 dc19 pm19 an19 cd19 ct19), sl19⟩) (c19 : PySem.W.codeIn K cd19 "Forest.total" = true) (k19 : PySem.W.keepIn K (.ref f19) = true)
    (a20 : PySem.W.findIn K (.ref C) "_count_by" = some (some (.ref f20))) (i20 : PySem.W.isFn K (.ref f20) = true) (l20 : K.lookup f20 = some ⟨oc20, od20, .func (PySem.W.fnOf "_count_by" "Forest._count_by" (defArgs sCountBy) (defBody sCountBy) (defScope sCountBy) .none kV20 dc20 pm20 an20 cd20 ct20), sl20⟩) (c20 : PySem.W.codeIn K cd20 "Forest._count_by" = true) (k20 : PySem.W.keepIn K (.ref f20) = true)
    (a21 : PySem.W.findIn K (.ref C) "tree" = some (some (.ref f21))) (i21 : PySem.W.isFn K (.ref f21) = true) (l21 : K.lookup f21 = some ⟨oc21, od21, .func (PySem.W.fnOf "tree" "Forest.tree" (defArgs sTree) (defBody sTree) (defScope sTree) .none kV21 dc21 pm21 an21 cd21 ct21), sl21⟩) (c21 : PySem.W.codeIn K cd21 "Forest.tree" = true) (k21 : PySem.W.keepIn K (.ref f21) = true)
    (a22 : PySem.W.findIn K (.ref C) "_split" = some (some (.ref f22))) (i22 : PySem.W.isFn K (.ref f22) = true) (l22 : K.lookup f22 = some ⟨oc22, od22, .func (PySem.W.fnOf "_split" "Forest._split" (defArgs sSplit) (defBody sSplit) (defScope sSplit) .none kV22 dc22 pm22 an22 cd22 ct22), sl22⟩) (c22 : PySem.W.codeIn K cd22 "Forest._split" = true) (k22 : PySem.W.keepIn K (.ref f22) = true)
    (a23 : PySem.W.findIn K (.ref C) "number" = some (some (.ref f23))) (i23 : PySem.W.isFn K (.ref f23) = true) (l23 : K.lookup f23 = some ⟨oc23, od23, .func (PySem.W.fnOf "number" "Forest.number" (defArgs sNumber) (defBody sNumber) (defScope sNumber) .none kV23 dc23 pm23 an23 cd23 ct23), sl23⟩) (c23 : PySem.W.codeIn K cd23 "Forest.number" = true) (k23 : PySem.W.keepIn K (.ref f23) = true)
    (a24 : PySem.W.findIn K (.ref C) "_placed" = some (some (.ref f24))) (i24 : PySem.W.isFn K (.ref f24) = true) (l24 : K.lookup f24 = some ⟨oc24, od24, .func (PySem.W.fnOf "_placed" "Forest._placed" (defArgs sPlaced) (defBody sPlaced) (defScope sPlaced) .none kV24 dc24 pm24 an24 cd24 ct24), sl24⟩) (c24 : PySem.W.codeIn K cd24 "Forest._placed" = true) (k24 : PySem.W.keepIn K (.ref f24) = true)
    (pgC : PySem.W.plainGet K C Str.empty = true) (hdC : PySem.W.hasDictIn K C = true) (poC : PySem.W.plainOver K C = true) (saC : PySem.W.findIn K (.ref C) "__setattr__" = some (some (.builtin "object.__setattr__"))) (mkC : PySem.W.makesIn K C = true) (kcC : PySem.W.keepIn K (.ref C) = true)
    (nE : PySem.W.findIn K (.ref C) "_entries" = some none) (nC : PySem.W.findIn K (.ref C) "_counts" = some none) (nR : PySem.W.findIn K (.ref C) "_rests" = some none)
    (z1 : PySem.W.nsIn K mainGlobals "len" = some none)    (z2 : PySem.W.nsIn K mainGlobals "range" = some none)    (z3 : PySem.W.nsIn K mainGlobals "sorted" = some none)    (z4 : PySem.W.nsIn K mainGlobals "list" = some none)    (z5 : PySem.W.nsIn K mainGlobals "tuple" = some none)    (z6 : PySem.W.nsIn K mainGlobals "reversed" = some none)    (z7 : PySem.W.nsIn K mainGlobals "enumerate" = some none)    (z8 : PySem.W.nsIn K mainGlobals "zip" = some none)    (z9 : PySem.W.nsIn K mainGlobals "sum" = some none)    (z10 : PySem.W.nsIn K mainGlobals "max" = some none)    (z11 : PySem.W.nsIn K mainGlobals "abs" = some none)    (z12 : PySem.W.nsIn K mainGlobals "int" = some none)    (z13 : PySem.W.nsIn K mainGlobals "isinstance" = some none)    (z14 : PySem.W.nsIn K mainGlobals "bool" = some none) :
    ∃ fd : FuncData, (∀ (s : Shared) (v : Value), BindsTo s fd ⟨[v], []⟩ [("_law_script", v)]) ∧ ∀ base : Heap, K.In base → base.Ns mainGlobals mg → FnOk l.prog w K mg base CX0 5 fa fd ["_law_script"] (spLaw K) := by
  have e := hfa.symm.trans (PySem.W.mg_of X G a15)
  cases e
  have T : Txt K mg C := ⟨⟨pgC, hdC, poC, saC⟩, nE, nC, nR, PySem.W.mg_of X G aC, PySem.W.mg_none_of X G z1, PySem.W.mg_none_of X G z2, PySem.W.mg_none_of X G z3, PySem.W.mg_none_of X G z4, PySem.W.mg_none_of X G z5, PySem.W.mg_none_of X G z6, PySem.W.mg_none_of X G z7, PySem.W.mg_none_of X G z8, PySem.W.mg_none_of X G z9, PySem.W.mg_none_of X G z10, PySem.W.mg_none_of X G z11, PySem.W.mg_none_of X G z12, PySem.W.mg_none_of X G z13, PySem.W.mg_none_of X G z14⟩
  have F1 := fun_mk (st := sCheck) l1 c1 k1
  have F2 := fun_mk (st := sComb) l2 c2 k2
  have F3 := fun_mk (st := sTape) l3 c3 k3
  have F4 := fun_mk (st := sTake) l4 c4 k4
  have F5 := fun_mk (st := sCost) l5 c5 k5
  have F6 := fun_mk (st := sSizes) l6 c6 k6
  have F7 := fun_mk (st := sCaps) l7 c7 k7
  have F8 := fun_mk (st := sEntries) l8 c8 k8
  have F9 := fun_mk (st := sPassed) l9 c9 k9
  have F10 := fun_mk (st := sPicks) l10 c10 k10
  have F11 := fun_mk (st := sTrees) l11 c11 k11
  have F12 := fun_mk (st := sIsInt) l12 c12 k12
  have F13 := fun_mk (st := sSame) l13 c13 k13
  have F14 := fun_mk (st := sHolds) l14 c14 k14
  have F15 := fun_mk (st := sLaw) l15 c15 k15
  have F16 := fun_mk (st := sInit) l16 c16 k16
  have F17 := fun_mk (st := sRests) l17 c17 k17
  have F18 := fun_mk (st := sCounts) l18 c18 k18
  have F19 := fun_mk (st := sTotal) l19 c19 k19
  have F20 := fun_mk (st := sCountBy) l20 c20 k20
  have F21 := fun_mk (st := sTree) l21 c21 k21
  have F22 := fun_mk (st := sSplit) l22 c22 k22
  have F23 := fun_mk (st := sNumber) l23 c23 k23
  have F24 := fun_mk (st := sPlaced) l24 c24 k24
  have b1 := F1.binds (ps := ["entries"]) fun _ _ _ _ _ _ us hl => match us, hl with | [_], _ => rfl
  have b2 := F2.binds (ps := ["counts", "others"]) fun _ _ _ _ _ _ us hl => match us, hl with | [_, _], _ => rfl
  have b3 := F3.binds (ps := ["_law_script", "_law_k"]) fun _ _ _ _ _ _ us hl => match us, hl with | [_, _], _ => rfl
  have b4 := F4.binds (ps := ["_law_tape_here", "_law_many"]) fun _ _ _ _ _ _ us hl => match us, hl with | [_, _], _ => rfl
  have b5 := F5.binds (ps := ["_law_tape_here"]) fun _ _ _ _ _ _ us hl => match us, hl with | [_], _ => rfl
  have b6 := F6.binds (ps := ["_law_entries_here"]) fun _ _ _ _ _ _ us hl => match us, hl with | [_], _ => rfl
  have b7 := F7.binds (ps := ["_law_entries_here"]) fun _ _ _ _ _ _ us hl => match us, hl with | [_], _ => rfl
  have b8 := F8.binds (ps := ["_law_tape_here", "_law_most"]) fun _ _ _ _ _ _ us hl => match us, hl with | [_, _], _ => rfl
  have b9 := F9.binds (ps := ["_law_entries_here"]) fun _ _ _ _ _ _ us hl => match us, hl with | [_], _ => rfl
  have b10 := F10.binds (ps := ["_law_sizes_here"]) fun _ _ _ _ _ _ us hl => match us, hl with | [_], _ => rfl
  have b11 := F11.binds (ps := ["_law_entries_here"]) fun _ _ _ _ _ _ us hl => match us, hl with | [_], _ => rfl
  have b12 := F12.binds (ps := ["_law_told"]) fun _ _ _ _ _ _ us hl => match us, hl with | [_], _ => rfl
  have b13 := F13.binds (ps := ["_law_told", "_law_due"]) fun _ _ _ _ _ _ us hl => match us, hl with | [_, _], _ => rfl
  have b14 := F14.binds (ps := ["_law_forest", "_law_trees_here"]) fun _ _ _ _ _ _ us hl => match us, hl with | [_, _], _ => rfl
  have b16 := F16.binds (ps := ["self", "entries"]) fun _ _ _ _ _ _ us hl => match us, hl with | [_, _], _ => rfl
  have b17 := F17.binds (ps := ["self", "children"]) fun _ _ _ _ _ _ us hl => match us, hl with | [_, _], _ => rfl
  have b18 := F18.binds (ps := ["self", "entry"]) fun _ _ _ _ _ _ us hl => match us, hl with | [_, _], _ => rfl
  have b19 := F19.binds (ps := ["self", "entry"]) fun _ _ _ _ _ _ us hl => match us, hl with | [_, _], _ => rfl
  have b20 := F20.binds (ps := ["self", "entry", "way", "cost"]) fun _ _ _ _ _ _ us hl => match us, hl with | [_, _, _, _], _ => rfl
  have b21 := F21.binds (ps := ["self", "entry", "number"]) fun _ _ _ _ _ _ us hl => match us, hl with | [_, _, _], _ => rfl
  have b22 := F22.binds (ps := ["self", "entry", "way", "cost", "place"]) fun _ _ _ _ _ _ us hl => match us, hl with | [_, _, _, _, _], _ => rfl
  have b23 := F23.binds (ps := ["self", "tree"]) fun _ _ _ _ _ _ us hl => match us, hl with | [_, _], _ => rfl
  have b24 := F24.binds (ps := ["self", "entry", "way", "below"]) fun _ _ _ _ _ _ us hl => match us, hl with | [_, _, _, _], _ => rfl
  have g1 := PySem.W.mg_of X G a1
  have g2 := PySem.W.mg_of X G a2
  have g3 := PySem.W.mg_of X G a3
  have g4 := PySem.W.mg_of X G a4
  have g5 := PySem.W.mg_of X G a5
  have g6 := PySem.W.mg_of X G a6
  have g7 := PySem.W.mg_of X G a7
  have g8 := PySem.W.mg_of X G a8
  have g9 := PySem.W.mg_of X G a9
  have g10 := PySem.W.mg_of X G a10
  have g11 := PySem.W.mg_of X G a11
  have g12 := PySem.W.mg_of X G a12
  have g13 := PySem.W.mg_of X G a13
  have g14 := PySem.W.mg_of X G a14
  have m16 : Meth K C "__init__" f16 := ⟨a16, i16, k16⟩
  have m17 : Meth K C "_rests_of" f17 := ⟨a17, i17, k17⟩
  have m18 : Meth K C "counts" f18 := ⟨a18, i18, k18⟩
  have m19 : Meth K C "total" f19 := ⟨a19, i19, k19⟩
  have m20 : Meth K C "_count_by" f20 := ⟨a20, i20, k20⟩
  have m21 : Meth K C "tree" f21 := ⟨a21, i21, k21⟩
  have m22 : Meth K C "_split" f22 := ⟨a22, i22, k22⟩
  have m23 : Meth K C "number" f23 := ⟨a23, i23, k23⟩
  have m24 : Meth K C "_placed" f24 := ⟨a24, i24, k24⟩
  refine ⟨PySem.W.fnOf "law" "law" (defArgs sLaw) (defBody sLaw) (defScope sLaw) .none kV15 dc15 pm15 an15 cd15 ct15, fun s v => .of_eq rfl, fun base _ _ => ?_⟩
  have GE := ok_entries (P := l.prog) (w := w) (base := base) F8 T F4 b4 g4 F5 b5 g5 F7 b7 g7 F6 b6 g6
  have GI := ok_init (P := l.prog) (w := w) (base := base) F16 T F1 b1 g1 F2 b2 g2 F17 b17 m17
  have GTr := ok_trees (P := l.prog) (w := w) (base := base) F11 T F10 b10 g10
  have GT := ok_tree (P := l.prog) (w := w) (base := base) F21 T F18 b18 m18 F19 b19 m19 F20 b20 m20 F22 b22 m22
  have GU := ok_number (P := l.prog) (w := w) (base := base) F23 T F18 b18 m18 F20 b20 m20 F24 b24 m24
  have GH := ok_holds (P := l.prog) (w := w) (base := base) F14 T GT b21 m21 GU b23 m23 F13 b13 g13 F12 b12 g12
  exact ok_law F15 T ⟨mkC, a16, i16, kcC⟩ F3 b3 g3 F8 GE b8 g8 F9 b9 g9 GI b16 F11 GTr b11 g11 F14 GH b14 g14
theorem walk {l : PySem.W.OpenLaw} {q : Program} {loose : List Str} {XP : (Str → Option Value) → Heap → Prop} {YP : World → Heap → Prop} {d : DefRec} {K : Params → PySem.W.Frag} (hn : l.most = some 63) (hdf : d.params.defaults = [])
    (hY : ∀ (w : World) (h : Heap), YP w h → (K w.params).In h)
    (F : ∀ (w : World) (mg : Str → Option Value) (fa : Addr) (h : Heap), (K w.params).In h → h.Ns mainGlobals mg → mg d.name = some (.ref fa) →
      ∃ fd : FuncData, (∀ (s : Shared) (u : Value), BindsTo s fd ⟨[u], []⟩ [("_law_script", u)]) ∧ ∀ base : Heap, (K w.params).In base → base.Ns mainGlobals mg → FnOk l.prog w (K w.params) mg base CX0 5 fa fd ["_law_script"] (spLaw (K w.params))) :
    PySem.W.WalkO q loose XP YP l.row.toRowW d [] (fun f vs => PySem.call f vs) :=
  L2.walk_of (n := 63) (k := 5) (x := "_law_script") (CX := fun _ => CX0) (sp := fun w => spLaw (K w.params)) hn (by decide) hdf ⟨rfl, by decide, by decide⟩ hY F (fun _ _ a ns hl _ hS => ⟨a, ns, rfl, hS, hl, fun _ => rfl⟩) fun _ _ _ _ _ z => z
end K24
open PySem PySem.W PyProof.Rows
set_option maxRecDepth 100000 in
set_option maxHeartbeats 0 in
theorem PySem.Challenge.cw_readingsall_k24_whole_trees_have_numbers_holds : PySem.Challenge.rw_readingsall_k24_whole_trees_have_numbers.Holds := by
  w_on; o_law; k_head; (case hw => w_witness2)
  k_fill
  refine K24.walk (l := PySem.Challenge.rw_readingsall_k24_whole_trees_have_numbers) rfl rfl (fun w h Y => PySem.W.kIn_of Y) ?F
  case F =>
    intro w mg fa h KX G hmg
    refine' K24.all_mk KX G hmg ?aC ?a1 ?l1 ?c1 ?k1 ?a2 ?l2 ?c2 ?k2 ?a3 ?l3 ?c3 ?k3 ?a4 ?l4 ?c4 ?k4 ?a5 ?l5 ?c5 ?k5 ?a6 ?l6 ?c6 ?k6 ?a7 ?l7 ?c7 ?k7 ?a8 ?l8 ?c8 ?k8 ?a9 ?l9 ?c9 ?k9 ?a10 ?l10 ?c10 ?k10 ?a11 ?l11 ?c11 ?k11 ?a12 ?l12 ?c12 ?k12 ?a13 ?l13 ?c13 ?k13 ?a14 ?l14 ?c14 ?k14 ?a15 ?l15 ?c15 ?k15 ?a16 ?i16 ?l16 ?c16 ?k16 ?a17 ?i17 ?l17 ?c17 ?k17 ?a18 ?i18 ?l18 ?c18 ?k18 ?a19 ?i19 ?l19 ?c19 ?k19 ?a20 ?i20 ?l20 ?c20 ?k20 ?a21 ?i21 ?l21 ?c21 ?k21 ?a22 ?i22 ?l22 ?c22 ?k22 ?a23 ?i23 ?l23 ?c23 ?k23 ?a24 ?i24 ?l24 ?c24 ?k24 ?pgC ?hdC ?poC ?saC ?mkC ?kcC ?nE ?nC ?nR ?z1 ?z2 ?z3 ?z4 ?z5 ?z6 ?z7 ?z8 ?z9 ?z10 ?z11 ?z12 ?z13 ?z14
    (case aC => k_is)
    (case a1 => k_is)
    (case l1 => k_is)
    (case c1 => k_is)
    (case k1 => k_is)
    (case a2 => k_is)
    (case l2 => k_is)
    (case c2 => k_is)
    (case k2 => k_is)
    (case a3 => k_is)
    (case l3 => k_is)
    (case c3 => k_is)
    (case k3 => k_is)
    (case a4 => k_is)
    (case l4 => k_is)
    (case c4 => k_is)
    (case k4 => k_is)
    (case a5 => k_is)
    (case l5 => k_is)
    (case c5 => k_is)
    (case k5 => k_is)
    (case a6 => k_is)
    (case l6 => k_is)
    (case c6 => k_is)
    (case k6 => k_is)
    (case a7 => k_is)
    (case l7 => k_is)
    (case c7 => k_is)
    (case k7 => k_is)
    (case a8 => k_is)
    (case l8 => k_is)
    (case c8 => k_is)
    (case k8 => k_is)
    (case a9 => k_is)
    (case l9 => k_is)
    (case c9 => k_is)
    (case k9 => k_is)
    (case a10 => k_is)
    (case l10 => k_is)
    (case c10 => k_is)
    (case k10 => k_is)
    (case a11 => k_is)
    (case l11 => k_is)
    (case c11 => k_is)
    (case k11 => k_is)
    (case a12 => k_is)
    (case l12 => k_is)
    (case c12 => k_is)
    (case k12 => k_is)
    (case a13 => k_is)
    (case l13 => k_is)
    (case c13 => k_is)
    (case k13 => k_is)
    (case a14 => k_is)
    (case l14 => k_is)
    (case c14 => k_is)
    (case k14 => k_is)
    (case a15 => k_is)
    (case l15 => k_is)
    (case c15 => k_is)
    (case k15 => k_is)
    (case a16 => k_is)
    (case i16 => k_is)
    (case l16 => k_is)
    (case c16 => k_is)
    (case k16 => k_is)
    (case a17 => k_is)
    (case i17 => k_is)
    (case l17 => k_is)
    (case c17 => k_is)
    (case k17 => k_is)
    (case a18 => k_is)
    (case i18 => k_is)
    (case l18 => k_is)
    (case c18 => k_is)
    (case k18 => k_is)
    (case a19 => k_is)
    (case i19 => k_is)
    (case l19 => k_is)
    (case c19 => k_is)
    (case k19 => k_is)
    (case a20 => k_is)
    (case i20 => k_is)
    (case l20 => k_is)
    (case c20 => k_is)
    (case k20 => k_is)
    (case a21 => k_is)
    (case i21 => k_is)
    (case l21 => k_is)
    (case c21 => k_is)
    (case k21 => k_is)
    (case a22 => k_is)
    (case i22 => k_is)
    (case l22 => k_is)
    (case c22 => k_is)
    (case k22 => k_is)
    (case a23 => k_is)
    (case i23 => k_is)
    (case l23 => k_is)
    (case c23 => k_is)
    (case k23 => k_is)
    (case a24 => k_is)
    (case i24 => k_is)
    (case l24 => k_is)
    (case c24 => k_is)
    (case k24 => k_is)
    (case pgC => k_is)
    (case hdC => k_is)
    (case poC => k_is)
    (case saC => k_is)
    (case mkC => k_is)
    (case kcC => k_is)
    (case nE => k_is)
    (case nC => k_is)
    (case nR => k_is)
    (case z1 => k_is)
    (case z2 => k_is)
    (case z3 => k_is)
    (case z4 => k_is)
    (case z5 => k_is)
    (case z6 => k_is)
    (case z7 => k_is)
    (case z8 => k_is)
    (case z9 => k_is)
    (case z10 => k_is)
    (case z11 => k_is)
    (case z12 => k_is)
    (case z13 => k_is)
    (case z14 => k_is)
