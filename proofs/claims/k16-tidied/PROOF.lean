import PyProof.Rows.All
import Wide.All
import OpenK.AllK
import Wide.FinOn
import HandS.ForMost
import HandS.Conv
import HandS.RevRange
import HandS.IsInst
import HandS.SetKeys
import HandS.Zip
import HandS.Codes
import PySem.Challenge.RW_fewjoins_k16_whole_tidied_makes_the_same
set_option Elab.async false
set_option linter.all false
set_option maxRecDepth 100000
set_option maxHeartbeats 8000000
/-! ### the mathematics: nets as plain lists -/
namespace K16
/-- the rows of the givens -/
def gvn (m : Nat) : List Nat := (List.range m).map fun k => 2 ^ k
def jnR (R : List Nat) (ab : Nat × Nat) : List Nat := R ++ [R.getD ab.1 0 ^^^ R.getD ab.2 0]
def rowsOf (m : Nat) (js : List (Nat × Nat)) : List Nat := js.foldl jnR (gvn m)
def row (m : Nat) (js : List (Nat × Nat)) (t : Nat) : Nat := (rowsOf m js).getD t 0
/-- a joining's things stand ahead of it -/
def Idx (m : Nat) (js : List (Nat × Nat)) : Prop := ∀ (i : Nat) (ab : Nat × Nat), js[i]? = some ab → ab.1 < m + i ∧ ab.2 < m + i
structure Net (m : Nat) (js : List (Nat × Nat)) (os : List Nat) : Prop where
  m1 : 1 ≤ m
  m12 : m ≤ 12
  jl : js.length ≤ 132
  lt : ∀ (i : Nat) (ab : Nat × Nat), js[i]? = some ab → ab.1 < ab.2 ∧ ab.2 < m + i
  ne : ∀ (i : Nat) (ab : Nat × Nat), js[i]? = some ab → row m js ab.1 ≠ row m js ab.2
  o1 : 1 ≤ os.length
  o24 : os.length ≤ 24
  ol : ∀ o ∈ os, o < m + js.length
theorem Net.idx {m : Nat} {js : List (Nat × Nat)} {os : List Nat} (n : Net m js os) : Idx m js := fun i ab h => by
  obtain ⟨h1, h2⟩ := n.lt i ab h
  exact ⟨by omega, h2⟩
theorem gvn_len (m : Nat) : (gvn m).length = m := by unfold gvn; rw [List.length_map, List.length_range]
theorem jnR_len (R : List Nat) (ab : Nat × Nat) : (jnR R ab).length = R.length + 1 := by unfold jnR; rw [List.length_append]; rfl
theorem foldl_len : ∀ (js : List (Nat × Nat)) (R : List Nat), (js.foldl jnR R).length = R.length + js.length
  | [], R => rfl
  | ab :: r, R => by rw [List.foldl_cons, foldl_len r, jnR_len, List.length_cons]; omega
theorem rows_len (m : Nat) (js : List (Nat × Nat)) : (rowsOf m js).length = m + js.length := by unfold rowsOf; rw [foldl_len, gvn_len]
theorem rows_snoc (m : Nat) (js : List (Nat × Nat)) (ab : Nat × Nat) : rowsOf m (js ++ [ab]) = jnR (rowsOf m js) ab := by
  unfold rowsOf; rw [List.foldl_append]; rfl
theorem foldl_pre : ∀ (ex : List (Nat × Nat)) (R : List Nat), ∃ l, ex.foldl jnR R = R ++ l
  | [], R => ⟨[], by rw [List.append_nil]; rfl⟩
  | ab :: r, R => by
    obtain ⟨l, e⟩ := foldl_pre r (jnR R ab)
    refine ⟨(R.getD ab.1 0 ^^^ R.getD ab.2 0) :: l, ?_⟩
    rw [List.foldl_cons, e]
    unfold jnR
    rw [List.append_assoc]
    rfl
theorem rows_pre (m : Nat) (js : List (Nat × Nat)) (ex : List (Nat × Nat)) : ∃ l, rowsOf m (js ++ ex) = rowsOf m js ++ l := by
  unfold rowsOf
  rw [List.foldl_append]
  exact foldl_pre ex _
theorem getD_of {α : Type} {l : List α} {i : Nat} {x d : α} (h : l[i]? = some x) : l.getD i d = x := by rw [List.getD_eq_getElem?_getD, h]; rfl
theorem get_row {m : Nat} {js : List (Nat × Nat)} {t : Nat} (h : t < m + js.length) : (rowsOf m js)[t]? = some (row m js t) := by
  have h' : t < (rowsOf m js).length := by rw [rows_len]; exact h
  unfold row
  rw [List.getD_eq_getElem?_getD, List.getElem?_eq_getElem h']
  rfl
theorem row_app {m : Nat} {js ex : List (Nat × Nat)} {t : Nat} (h : t < m + js.length) : row m (js ++ ex) t = row m js t := by
  obtain ⟨l, e⟩ := rows_pre m js ex
  unfold row
  rw [e, List.getD_eq_getElem?_getD, List.getD_eq_getElem?_getD, List.getElem?_append_left (by rw [rows_len]; exact h)]
theorem row_take {m : Nat} {js : List (Nat × Nat)} {i t : Nat} (h : t < m + i) (hi : i ≤ js.length) : row m (js.take i) t = row m js t := by
  have e : js = js.take i ++ js.drop i := (List.take_append_drop i js).symm
  conv => rhs; rw [e]
  rw [row_app (by rw [List.length_take]; omega)]
theorem take_succ {α : Type} {l : List α} {i : Nat} {x : α} (h : l[i]? = some x) : l.take (i + 1) = l.take i ++ [x] := by
  rw [List.take_add_one, h]; rfl
theorem lt_of_get {α : Type} {l : List α} {i : Nat} {x : α} (h : l[i]? = some x) : i < l.length := (List.getElem?_eq_some_iff.mp h).1
/-- the row of a joining -/
theorem row_join {m : Nat} {js : List (Nat × Nat)} (hx : Idx m js) {i : Nat} {ab : Nat × Nat} (h : js[i]? = some ab) : row m js (m + i) = row m js ab.1 ^^^ row m js ab.2 := by
  have hi := lt_of_get h
  obtain ⟨h1, h2⟩ := hx i ab h
  rw [← row_take (i := i + 1) (t := m + i) (by omega) (by omega), take_succ h, ← row_take (i := i) h1 (by omega), ← row_take (i := i) h2 (by omega)]
  unfold row
  rw [rows_snoc]
  unfold jnR
  have e : (rowsOf m (js.take i)).length = m + i := by rw [rows_len, List.length_take]; omega
  rw [List.getD_eq_getElem?_getD, List.getElem?_append_right (by omega), e, Nat.sub_self]
  rfl
theorem row_given {m : Nat} {js : List (Nat × Nat)} {t : Nat} (h : t < m) : row m js t = 2 ^ t := by
  rw [← row_take (i := 0) (by omega) (Nat.zero_le _)]
  show (gvn m).getD t 0 = 2 ^ t
  unfold gvn
  refine getD_of ?_
  rw [List.getElem?_map, List.getElem?_range h]
  rfl

/-! the first thing with a row -/
def fstR (R : List Nat) (t : Nat) : Nat := R.idxOf (R.getD t 0)
theorem mem_getD {R : List Nat} {t : Nat} (h : t < R.length) : R.getD t 0 ∈ R := by
  rw [List.getD_eq_getElem?_getD, List.getElem?_eq_getElem h]
  exact List.getElem_mem h
theorem getD_idx {R : List Nat} {x : Nat} (h : x ∈ R) : R.getD (R.idxOf x) 0 = x := by
  have h' := List.idxOf_lt_length_iff.mpr h
  rw [List.getD_eq_getElem?_getD, List.getElem?_eq_getElem h']
  exact List.getElem_idxOf h'
theorem fst_row {R : List Nat} {t : Nat} (h : t < R.length) : R.getD (fstR R t) 0 = R.getD t 0 := getD_idx (mem_getD h)
theorem idx_le : ∀ {R : List Nat} {t x : Nat}, R[t]? = some x → R.idxOf x ≤ t
  | [], t, x, h => by simp at h
  | y :: r, t, x, h => by
    rw [List.idxOf_cons]
    by_cases e : y = x
    · subst e; simp
    · rw [show (y == x) = false from beq_eq_false_iff_ne.mpr e]
      cases t with
      | zero => exact absurd (Option.some.inj h) e
      | succ t =>
        have := idx_le (R := r) (t := t) (x := x) h
        simp only [cond_false]
        omega
theorem fst_le {R : List Nat} {t : Nat} (h : t < R.length) : fstR R t ≤ t := by
  refine idx_le ?_
  rw [List.getD_eq_getElem?_getD, List.getElem?_eq_getElem h]
  rfl
theorem fst_fst {R : List Nat} {t : Nat} (h : t < R.length) : fstR R (fstR R t) = fstR R t := by
  show R.idxOf (R.getD (fstR R t) 0) = R.idxOf (R.getD t 0)
  rw [fst_row h]
theorem idx_app {R l : List Nat} {x : Nat} (h : x ∈ R) : (R ++ l).idxOf x = R.idxOf x := by
  rw [List.idxOf_append, if_pos h]
theorem fst_app {R l : List Nat} {t : Nat} (h : t < R.length) : fstR (R ++ l) t = fstR R t := by
  unfold fstR
  have e : (R ++ l).getD t 0 = R.getD t 0 := by
    rw [List.getD_eq_getElem?_getD, List.getD_eq_getElem?_getD, List.getElem?_append_left h]
  rw [e, idx_app (mem_getD h)]
def jF (R : List Nat) (ab : Nat × Nat) : Nat × Nat := (min (fstR R ab.1) (fstR R ab.2), max (fstR R ab.1) (fstR R ab.2))

/-! on which things an out leans -/
inductive Leans (m : Nat) (js : List (Nat × Nat)) (os : List Nat) : Nat → Prop where
  | out {t : Nat} (h : t ∈ os) : Leans m js os t
  | lft {at' : Nat} {ab : Nat × Nat} (h : Leans m js os (m + at')) (e : js[at']? = some ab) : Leans m js os ab.1
  | rgt {at' : Nat} {ab : Nat × Nat} (h : Leans m js os (m + at')) (e : js[at']? = some ab) : Leans m js os ab.2
theorem Leans.inv {m : Nat} {js : List (Nat × Nat)} {os : List Nat} {t : Nat} (h : Leans m js os t) : t ∈ os ∨ ∃ at' ab, Leans m js os (m + at') ∧ js[at']? = some ab ∧ (t = ab.1 ∨ t = ab.2) := by
  cases h with
  | out h => exact .inl h
  | lft h e => exact .inr ⟨_, _, h, e, .inl rfl⟩
  | rgt h e => exact .inr ⟨_, _, h, e, .inr rfl⟩
theorem Leans.lt {m : Nat} {js : List (Nat × Nat)} {os : List Nat} (hx : Idx m js) (ho : ∀ o ∈ os, o < m + js.length) {t : Nat} (h : Leans m js os t) : t < m + js.length := by
  rcases h.inv with h | ⟨i, ab, _, e, h⟩
  · exact ho t h
  · have := lt_of_get e
    have := hx i ab e
    rcases h with h | h <;> omega

/-! the things numbered anew -/
def cnt (k : Nat → Bool) (i : Nat) : Nat := ((List.range i).filter k).length
def num (m : Nat) (k : Nat → Bool) (t : Nat) : Nat := if t < m then t else m + cnt k (t - m)
def nj (m : Nat) (k : Nat → Bool) (js : List (Nat × Nat)) (i : Nat) : Nat × Nat := (num m k (js.getD i (0, 0)).1, num m k (js.getD i (0, 0)).2)
def newJ (m : Nat) (k : Nat → Bool) (js : List (Nat × Nat)) (i : Nat) : List (Nat × Nat) := ((List.range i).filter k).map (nj m k js)
theorem newJ_len (m : Nat) (k : Nat → Bool) (js : List (Nat × Nat)) (i : Nat) : (newJ m k js i).length = cnt k i := by unfold newJ cnt; rw [List.length_map]
theorem filter_succ (k : Nat → Bool) (i : Nat) : (List.range (i + 1)).filter k = (List.range i).filter k ++ if k i = true then [i] else [] := by
  rw [List.range_succ, List.filter_append]
  congr 1
  by_cases h : k i = true
  · rw [if_pos h]; simp [List.filter_cons, h]
  · rw [if_neg h]; simp [List.filter_cons, h]
theorem cnt_t {k : Nat → Bool} {i : Nat} (h : k i = true) : cnt k (i + 1) = cnt k i + 1 := by
  unfold cnt; rw [filter_succ, if_pos h, List.length_append]; rfl
theorem cnt_f {k : Nat → Bool} {i : Nat} (h : k i = false) : cnt k (i + 1) = cnt k i := by
  unfold cnt; rw [filter_succ, if_neg (by rw [h]; exact Bool.false_ne_true), List.append_nil]
theorem newJ_t {m : Nat} {k : Nat → Bool} {js : List (Nat × Nat)} {i : Nat} (h : k i = true) : newJ m k js (i + 1) = newJ m k js i ++ [nj m k js i] := by
  unfold newJ; rw [filter_succ, if_pos h, List.map_append]; rfl
theorem newJ_f {m : Nat} {k : Nat → Bool} {js : List (Nat × Nat)} {i : Nat} (h : k i = false) : newJ m k js (i + 1) = newJ m k js i := by
  unfold newJ; rw [filter_succ, if_neg (by rw [h]; exact Bool.false_ne_true), List.append_nil]
theorem cnt_mono (k : Nat → Bool) {i j : Nat} (h : i ≤ j) : cnt k i ≤ cnt k j := by
  induction h with
  | refl => exact Nat.le_refl _
  | step h ih =>
    refine Nat.le_trans ih ?_
    rename_i j
    cases q : k j with
    | true => rw [cnt_t q]; omega
    | false => rw [cnt_f q]; omega
theorem cnt_lt {k : Nat → Bool} {i j : Nat} (h : i < j) (hk : k i = true) : cnt k i < cnt k j := by
  have := cnt_mono k (show i + 1 ≤ j from h)
  rw [cnt_t hk] at this
  omega
theorem cnt_le (k : Nat → Bool) (i : Nat) : cnt k i ≤ i := by
  have := List.length_filter_le k (List.range i)
  rw [List.length_range] at this
  exact this
theorem kept_at {k : Nat → Bool} {j : Nat} (hk : k j = true) : ∀ {i : Nat}, j < i → ((List.range i).filter k)[cnt k j]? = some j
  | 0, h => absurd h (Nat.not_lt_zero _)
  | i + 1, h => by
    rw [filter_succ]
    by_cases e : j = i
    · subst e
      rw [if_pos hk]
      show ((List.range j).filter k ++ [j])[((List.range j).filter k).length]? = some j
      rw [List.getElem?_append_right (Nat.le_refl _), Nat.sub_self]
      rfl
    · have := kept_at hk (i := i) (by omega)
      rw [List.getElem?_append_left (lt_of_get this)]
      exact this
theorem kept_of {k : Nat → Bool} : ∀ {n i a : Nat}, ((List.range n).filter k)[i]? = some a → a < n ∧ k a = true ∧ cnt k a = i
  | 0, i, a, h => by simp at h
  | n + 1, i, a, h => by
    have hm := List.mem_of_getElem? h
    rw [List.mem_filter, List.mem_range] at hm
    have h2 := kept_at hm.2 hm.1
    refine ⟨hm.1, hm.2, ?_⟩
    have nd : ((List.range (n + 1)).filter k).Nodup := List.Pairwise.filter _ List.nodup_range
    exact L2.nd_ix nd h2 h
/-- a given, or a kept joining -/
def Good (m : Nat) (k : Nat → Bool) (t : Nat) : Prop := t < m ∨ ∃ i, t = m + i ∧ k i = true
theorem num_lt {m : Nat} {k : Nat → Bool} {s t : Nat} (h : s < t) (g : Good m k s) : num m k s < num m k t := by
  unfold num
  rcases g with g | ⟨i, rfl, hi⟩
  · rw [if_pos g]
    by_cases ht : t < m
    · rw [if_pos ht]; exact h
    · rw [if_neg ht]; omega
  · rw [if_neg (by omega), if_neg (by omega), Nat.add_sub_cancel_left]
    have := cnt_lt (k := k) (i := i) (j := t - m) (by omega) hi
    omega
theorem num_join {m : Nat} {k : Nat → Bool} (i : Nat) : num m k (m + i) = m + cnt k i := by
  unfold num
  rw [if_neg (by omega), Nat.add_sub_cancel_left]
def th (m : Nat) (k : Nat → Bool) (i : Nat) : List Nat := List.range m ++ ((List.range i).filter k).map (m + ·)
theorem th_at {m : Nat} {k : Nat → Bool} {i t : Nat} (g : Good m k t) (h : t < m + i) : (th m k i)[num m k t]? = some t := by
  unfold th
  rcases g with g | ⟨j, rfl, hj⟩
  · unfold num
    rw [if_pos g, List.getElem?_append_left (by rw [List.length_range]; exact g), List.getElem?_range g]
  · rw [num_join, List.getElem?_append_right (by rw [List.length_range]; omega), List.length_range, Nat.add_sub_cancel_left, List.getElem?_map, kept_at hj (by omega)]
    rfl
theorem th_pair (m : Nat) (k : Nat → Bool) (i : Nat) : (th m k i).Pairwise (· < ·) := by
  unfold th
  rw [List.pairwise_append]
  refine ⟨List.pairwise_lt_range, ?_, fun a ha b hb => ?_⟩
  · rw [List.pairwise_map]
    have h : ((List.range i).filter k).Pairwise (· < ·) := List.Pairwise.filter _ List.pairwise_lt_range
    exact h.imp fun h => by omega
  · rw [List.mem_range] at ha
    rw [List.mem_map] at hb
    obtain ⟨c, _, rfl⟩ := hb
    omega
theorem th_mem {m : Nat} {k : Nat → Bool} {i t : Nat} (h : t ∈ th m k i) : Good m k t ∧ t < m + i := by
  unfold th at h
  rw [List.mem_append] at h
  rcases h with h | h
  · rw [List.mem_range] at h
    exact ⟨.inl h, by omega⟩
  · rw [List.mem_map] at h
    obtain ⟨c, hc, rfl⟩ := h
    rw [List.mem_filter, List.mem_range] at hc
    exact ⟨.inr ⟨c, rfl, hc.2⟩, by omega⟩
/-- the rows of the net numbered anew -/
theorem rows_newJ {m : Nat} {k : Nat → Bool} {js : List (Nat × Nat)} {r : Nat → Nat} (hb : ∀ t, t < m → r t = 2 ^ t)
    (hk : ∀ i, k i = true → ∃ ab, js[i]? = some ab ∧ Good m k ab.1 ∧ ab.1 < m + i ∧ Good m k ab.2 ∧ ab.2 < m + i ∧ r ab.1 ^^^ r ab.2 = r (m + i)) : ∀ i, rowsOf m (newJ m k js i) = (th m k i).map r
  | 0 => by
    show gvn m = (List.range m ++ List.map (m + ·) []).map r
    rw [List.map_nil, List.append_nil]
    unfold gvn
    exact List.map_congr_left fun t ht => (hb t (List.mem_range.mp ht)).symm
  | i + 1 => by
    have ih := rows_newJ hb hk i
    cases q : k i with
    | false =>
      rw [newJ_f q, ih]
      unfold th
      rw [filter_succ, if_neg (by rw [q]; exact Bool.false_ne_true), List.append_nil]
    | true =>
      obtain ⟨ab, e, g1, l1, g2, l2, hr⟩ := hk i q
      rw [newJ_t q, rows_snoc, ih]
      have en : nj m k js i = (num m k ab.1, num m k ab.2) := by unfold nj; rw [getD_of e]
      rw [en]
      unfold jnR
      have e1 : ((th m k i).map r).getD (num m k ab.1) 0 = r ab.1 := getD_of (by rw [List.getElem?_map, th_at g1 l1]; rfl)
      have e2 : ((th m k i).map r).getD (num m k ab.2) 0 = r ab.2 := getD_of (by rw [List.getElem?_map, th_at g2 l2]; rfl)
      show (th m k i).map r ++ [((th m k i).map r).getD (num m k ab.1) 0 ^^^ ((th m k i).map r).getD (num m k ab.2) 0] = _
      rw [e1, e2, hr]
      unfold th
      rw [filter_succ, if_pos q]
      simp [List.map_append]

/-! ### tidied -/
open Classical in
noncomputable def tk (m : Nat) (js : List (Nat × Nat)) (os : List Nat) (i : Nat) : Bool := decide (Leans m (js.map (jF (rowsOf m js))) (os.map (fstR (rowsOf m js))) (m + i))
noncomputable def tJ (m : Nat) (js : List (Nat × Nat)) (os : List Nat) : List (Nat × Nat) := newJ m (tk m js os) (js.map (jF (rowsOf m js))) js.length
noncomputable def tO (m : Nat) (js : List (Nat × Nat)) (os : List Nat) : List Nat := (os.map (fstR (rowsOf m js))).map (num m (tk m js os))
theorem tk_iff {m : Nat} {js : List (Nat × Nat)} {os : List Nat} {i : Nat} : tk m js os i = true ↔ Leans m (js.map (jF (rowsOf m js))) (os.map (fstR (rowsOf m js))) (m + i) := by
  unfold tk
  exact @decide_eq_true_iff _ (Classical.propDecidable _)
theorem jmap {js : List (Nat × Nat)} {R : List Nat} {i : Nat} {cd : Nat × Nat} (h : (js.map (jF R))[i]? = some cd) : ∃ ab, js[i]? = some ab ∧ cd = jF R ab := by
  rw [List.getElem?_map] at h
  cases q : js[i]? with
  | none => rw [q] at h; cases h
  | some ab => rw [q] at h; exact ⟨ab, rfl, (Option.some.inj h).symm⟩
theorem jF_idx {m : Nat} {js : List (Nat × Nat)} (hx : Idx m js) : Idx m (js.map (jF (rowsOf m js))) := fun i cd h => by
  obtain ⟨ab, e, rfl⟩ := jmap h
  have h0 := lt_of_get e
  obtain ⟨h1, h2⟩ := hx i ab e
  have f1 := fst_le (R := rowsOf m js) (t := ab.1) (by rw [rows_len]; omega)
  have f2 := fst_le (R := rowsOf m js) (t := ab.2) (by rw [rows_len]; omega)
  unfold jF
  simp only
  omega
theorem fO_lt {m : Nat} {js : List (Nat × Nat)} {os : List Nat} (ho : ∀ o ∈ os, o < m + js.length) : ∀ o ∈ os.map (fstR (rowsOf m js)), o < m + js.length := fun o h => by
  rw [List.mem_map] at h
  obtain ⟨t, ht, rfl⟩ := h
  have h1 := ho t ht
  have := fst_le (R := rowsOf m js) (t := t) (by rw [rows_len]; exact h1)
  omega
section
variable {m : Nat} {js : List (Nat × Nat)} {os : List Nat}
/-- a thing that is leaned on is the first one with its row -/
theorem leans_first (hx : Idx m js) (ho : ∀ o ∈ os, o < m + js.length) {t : Nat} (h : Leans m (js.map (jF (rowsOf m js))) (os.map (fstR (rowsOf m js))) t) : fstR (rowsOf m js) t = t := by
  rcases h.inv with h | ⟨i, cd, _, e, h⟩
  · rw [List.mem_map] at h
    obtain ⟨o, hm, rfl⟩ := h
    exact fst_fst (by rw [rows_len]; exact ho o hm)
  · obtain ⟨ab, e0, rfl⟩ := jmap e
    have h0 := lt_of_get e0
    obtain ⟨h1, h2⟩ := hx i ab e0
    have f1 := fst_fst (R := rowsOf m js) (t := ab.1) (by rw [rows_len]; omega)
    have f2 := fst_fst (R := rowsOf m js) (t := ab.2) (by rw [rows_len]; omega)
    unfold jF at h
    simp only at h
    rcases Nat.le_total (fstR (rowsOf m js) ab.1) (fstR (rowsOf m js) ab.2) with q | q
    · rw [Nat.min_eq_left q, Nat.max_eq_right q] at h
      rcases h with h | h
      · rw [h]; exact f1
      · rw [h]; exact f2
    · rw [Nat.min_eq_right q, Nat.max_eq_left q] at h
      rcases h with h | h
      · rw [h]; exact f2
      · rw [h]; exact f1
theorem leans_good {t : Nat} (h : Leans m (js.map (jF (rowsOf m js))) (os.map (fstR (rowsOf m js))) t) : Good m (tk m js os) t := by
  by_cases q : t < m
  · exact .inl q
  · refine .inr ⟨t - m, by omega, tk_iff.mpr ?_⟩
    rw [show m + (t - m) = t by omega]
    exact h
/-- the two things of a joining by their firsts -/
theorem jF_rows (hx : Idx m js) {i : Nat} {ab : Nat × Nat} (e : js[i]? = some ab) :
    (row m js (jF (rowsOf m js) ab).1 = row m js ab.1 ∧ row m js (jF (rowsOf m js) ab).2 = row m js ab.2) ∨ (row m js (jF (rowsOf m js) ab).1 = row m js ab.2 ∧ row m js (jF (rowsOf m js) ab).2 = row m js ab.1) := by
  have h0 := lt_of_get e
  obtain ⟨h1, h2⟩ := hx i ab e
  have f1 : row m js (fstR (rowsOf m js) ab.1) = row m js ab.1 := fst_row (R := rowsOf m js) (t := ab.1) (by rw [rows_len]; omega)
  have f2 : row m js (fstR (rowsOf m js) ab.2) = row m js ab.2 := fst_row (R := rowsOf m js) (t := ab.2) (by rw [rows_len]; omega)
  unfold jF
  simp only
  rcases Nat.le_total (fstR (rowsOf m js) ab.1) (fstR (rowsOf m js) ab.2) with q | q
  · rw [Nat.min_eq_left q, Nat.max_eq_right q]
    exact .inl ⟨f1, f2⟩
  · rw [Nat.min_eq_right q, Nat.max_eq_left q]
    exact .inr ⟨f2, f1⟩
theorem kept_fact (hx : Idx m js) (ho : ∀ o ∈ os, o < m + js.length) : ∀ i, tk m js os i = true →
    ∃ ab, (js.map (jF (rowsOf m js)))[i]? = some ab ∧ Good m (tk m js os) ab.1 ∧ ab.1 < m + i ∧ Good m (tk m js os) ab.2 ∧ ab.2 < m + i ∧ row m js ab.1 ^^^ row m js ab.2 = row m js (m + i) := fun i hi => by
  have L := tk_iff.mp hi
  have lt := L.lt (jF_idx hx) (by rw [List.length_map]; exact fO_lt ho)
  rw [List.length_map] at lt
  have hi2 : i < js.length := by omega
  have e := List.getElem?_eq_getElem hi2
  have e' : (js.map (jF (rowsOf m js)))[i]? = some (jF (rowsOf m js) js[i]) := by rw [List.getElem?_map, e]; rfl
  obtain ⟨l1, l2⟩ := jF_idx hx i _ e'
  refine ⟨_, e', leans_good (.lft L e'), l1, leans_good (.rgt L e'), l2, ?_⟩
  rw [row_join hx e]
  rcases jF_rows hx e with ⟨a, b⟩ | ⟨a, b⟩
  · rw [a, b]
  · rw [a, b, Nat.xor_comm]
theorem tJ_rows (hx : Idx m js) (ho : ∀ o ∈ os, o < m + js.length) : rowsOf m (tJ m js os) = (th m (tk m js os) js.length).map (row m js) :=
  rows_newJ (fun t h => row_given h) (kept_fact hx ho) _
theorem tJ_row (hx : Idx m js) (ho : ∀ o ∈ os, o < m + js.length) {t : Nat} (g : Good m (tk m js os) t) (h : t < m + js.length) : row m (tJ m js os) (num m (tk m js os) t) = row m js t := by
  unfold row
  rw [tJ_rows hx ho]
  exact getD_of (by rw [List.getElem?_map, th_at g h]; rfl)
theorem tJ_at (hx : Idx m js) (ho : ∀ o ∈ os, o < m + js.length) {i : Nat} {xy : Nat × Nat} (h : (tJ m js os)[i]? = some xy) :
    ∃ a ab cd, js[a]? = some ab ∧ cd = jF (rowsOf m js) ab ∧ tk m js os a = true ∧ cnt (tk m js os) a = i ∧ Good m (tk m js os) cd.1 ∧ cd.1 < m + a ∧ Good m (tk m js os) cd.2 ∧ cd.2 < m + a ∧ xy = (num m (tk m js os) cd.1, num m (tk m js os) cd.2) := by
  unfold tJ newJ at h
  rw [List.getElem?_map] at h
  cases q : ((List.range js.length).filter (tk m js os))[i]? with
  | none => rw [q] at h; cases h
  | some a =>
    rw [q] at h
    obtain ⟨h1, h2, h3⟩ := kept_of q
    obtain ⟨cd, e, g1, l1, g2, l2, _⟩ := kept_fact hx ho a h2
    obtain ⟨ab, e2, rfl⟩ := jmap e
    refine ⟨a, ab, _, e2, rfl, h2, h3, g1, l1, g2, l2, ?_⟩
    rw [← Option.some.inj h]
    show nj _ _ _ _ = _
    unfold nj
    rw [getD_of e]
theorem tJ_len : (tJ m js os).length ≤ js.length := by
  unfold tJ
  rw [newJ_len]
  exact cnt_le _ _
theorem num_bound {k : Nat → Bool} {t n : Nat} (g : Good m k t) (h : t < m + n) : num m k t < m + cnt k n := by
  rcases g with g | ⟨i, rfl, hi⟩
  · unfold num; rw [if_pos g]; omega
  · rw [num_join]
    have := cnt_lt (k := k) (i := i) (j := n) (by omega) hi
    omega
theorem tO_good (ho : ∀ o ∈ os, o < m + js.length) {o : Nat} (h : o ∈ os) : Good m (tk m js os) (fstR (rowsOf m js) o) ∧ fstR (rowsOf m js) o < m + js.length :=
  ⟨leans_good (.out (List.mem_map_of_mem h)), fO_lt ho _ (List.mem_map_of_mem h)⟩
/-- the tidied net is a net -/
theorem tidy_net (n : Net m js os) : Net m (tJ m js os) (tO m js os) := by
  refine ⟨n.m1, n.m12, Nat.le_trans tJ_len n.jl, fun i xy h => ?_, fun i xy h => ?_, ?_, ?_, fun o h => ?_⟩
  · obtain ⟨a, ab, cd, e, rfl, hk, hc, g1, l1, g2, l2, rfl⟩ := tJ_at n.idx n.ol h
    have hne := n.ne a ab e
    have hlt : (jF (rowsOf m js) ab).1 < (jF (rowsOf m js) ab).2 := by
      have h3 : (jF (rowsOf m js) ab).1 ≠ (jF (rowsOf m js) ab).2 := fun q => by
        rcases jF_rows n.idx e with ⟨x, y⟩ | ⟨x, y⟩
        · rw [q, y] at x; exact hne x.symm
        · rw [q, y] at x; exact hne x
      have h4 : (jF (rowsOf m js) ab).1 ≤ (jF (rowsOf m js) ab).2 := by unfold jF; simp only; omega
      omega
    refine ⟨num_lt hlt g1, ?_⟩
    have := num_lt l2 g2
    rw [num_join, hc] at this
    exact this
  · obtain ⟨a, ab, cd, e, rfl, hk, hc, g1, l1, g2, l2, rfl⟩ := tJ_at n.idx n.ol h
    have h0 := lt_of_get e
    show row m (tJ m js os) (num m (tk m js os) _) ≠ row m (tJ m js os) (num m (tk m js os) _)
    rw [tJ_row n.idx n.ol g1 (by omega), tJ_row n.idx n.ol g2 (by omega)]
    have hne := n.ne a ab e
    rcases jF_rows n.idx e with ⟨x, y⟩ | ⟨x, y⟩
    · rw [x, y]; exact hne
    · rw [x, y]; exact fun q => hne q.symm
  · unfold tO; rw [List.length_map, List.length_map]; exact n.o1
  · unfold tO; rw [List.length_map, List.length_map]; exact n.o24
  · unfold tO at h
    rw [List.map_map, List.mem_map] at h
    obtain ⟨t, ht, rfl⟩ := h
    obtain ⟨g, l⟩ := tO_good n.ol ht
    have := num_bound g l
    unfold tJ
    rw [newJ_len]
    exact this
/-- it makes the same -/
theorem tidy_made (n : Net m js os) : (tO m js os).map (row m (tJ m js os)) = os.map (row m js) := by
  unfold tO
  rw [List.map_map, List.map_map]
  refine List.map_congr_left fun o h => ?_
  obtain ⟨g, l⟩ := tO_good n.ol h
  show row m (tJ m js os) (num m (tk m js os) (fstR (rowsOf m js) o)) = row m js o
  rw [tJ_row n.idx n.ol g l]
  exact fst_row (R := rowsOf m js) (t := o) (by rw [rows_len]; exact n.ol o h)
/-- unlike rows -/
theorem tidy_nodup (n : Net m js os) (hg : ∀ t, t < m → fstR (rowsOf m js) t = t) : (rowsOf m (tJ m js os)).Nodup := by
  rw [tJ_rows n.idx n.ol, List.nodup_iff_pairwise_ne, List.pairwise_map]
  refine (th_pair m (tk m js os) js.length).imp_of_mem fun {a b} ha hb hab q => ?_
  have first : ∀ t, t ∈ th m (tk m js os) js.length → (rowsOf m js).idxOf (row m js t) = t := fun t ht => by
    obtain ⟨g, l⟩ := th_mem ht
    rcases g with g | ⟨i, rfl, hi⟩
    · exact hg t g
    · exact leans_first n.idx n.ol (tk_iff.mp hi)
  have e1 := first a ha
  have e2 := first b hb
  rw [q, e2] at e1
  omega
/-- an out leans on each joining -/
theorem tidy_leans (n : Net m js os) {i : Nat} (h : i < (tJ m js os).length) : m + i ∈ tO m js os ∨ ∃ j xy, i < j ∧ (tJ m js os)[j]? = some xy ∧ (m + i = xy.1 ∨ m + i = xy.2) := by
  obtain ⟨a, ab, cd, e, rfl, hk, hc, g1, l1, g2, l2, _⟩ := tJ_at n.idx n.ol (List.getElem?_eq_getElem h)
  have hnum : num m (tk m js os) (m + a) = m + i := by rw [num_join, hc]
  rcases (tk_iff.mp hk).inv with q | ⟨b, cd, hb, eb, q⟩
  · left
    unfold tO
    rw [List.mem_map]
    exact ⟨m + a, q, hnum⟩
  · right
    have kb : tk m js os b = true := tk_iff.mpr hb
    have hb0 := lt_of_get eb
    rw [List.length_map] at hb0
    obtain ⟨x1, x2⟩ := jF_idx n.idx b cd eb
    refine ⟨cnt (tk m js os) b, nj m (tk m js os) (js.map (jF (rowsOf m js))) b, ?_, ?_, ?_⟩
    · rw [← hc]
      refine cnt_lt ?_ hk
      rcases q with q | q <;> omega
    · unfold tJ newJ
      rw [List.getElem?_map, kept_at kb hb0]
      rfl
    · unfold nj
      rw [getD_of eb]
      rcases q with q | q
      · left; show m + i = num m _ cd.1; rw [← q, hnum]
      · right; show m + i = num m _ cd.2; rw [← q, hnum]
def cleanB (m : Nat) (js : List (Nat × Nat)) : Bool := js.all fun ab => decide (row m js ab.1 &&& row m js ab.2 = 0)
theorem tidy_clean (n : Net m js os) (h : cleanB m js = true) : cleanB m (tJ m js os) = true := by
  unfold cleanB at h ⊢
  rw [List.all_eq_true] at h ⊢
  intro xy hxy
  obtain ⟨i, hi⟩ := List.getElem?_of_mem hxy
  obtain ⟨a, ab, cd, e, rfl, hk, hc, g1, l1, g2, l2, rfl⟩ := tJ_at n.idx n.ol hi
  have h0 := lt_of_get e
  have hz := of_decide_eq_true (h ab (List.mem_of_getElem? e))
  refine decide_eq_true ?_
  show row m (tJ m js os) (num m (tk m js os) _) &&& row m (tJ m js os) (num m (tk m js os) _) = 0
  rw [tJ_row n.idx n.ol g1 (by omega), tJ_row n.idx n.ol g2 (by omega)]
  rcases jF_rows n.idx e with ⟨x, y⟩ | ⟨x, y⟩
  · rw [x, y]; exact hz
  · rw [x, y, Nat.and_comm]; exact hz
end
/-- things more behind it, each with a row that is there already -/
structure More (m : Nat) (js ex : List (Nat × Nat)) : Prop where
  lt : ∀ (i : Nat) (ab : Nat × Nat), ex[i]? = some ab → ab.1 < m + js.length + i ∧ ab.2 < m + js.length + i
  old : ∀ i, i < ex.length → row m (js ++ ex) (m + js.length + i) ∈ rowsOf m js
section
variable {m : Nat} {js ex : List (Nat × Nat)} {os : List Nat}
theorem More.idx (hx : Idx m js) (h : More m js ex) : Idx m (js ++ ex) := fun i ab e => by
  by_cases q : i < js.length
  · rw [List.getElem?_append_left q] at e
    exact hx i ab e
  · rw [List.getElem?_append_right (by omega)] at e
    have := h.lt _ ab e
    omega
theorem fst_more {t : Nat} (h : t < m + js.length) : fstR (rowsOf m (js ++ ex)) t = fstR (rowsOf m js) t := by
  obtain ⟨l, e⟩ := rows_pre m js ex
  rw [e]
  exact fst_app (by rw [rows_len]; exact h)
theorem jF_more {ab : Nat × Nat} (h1 : ab.1 < m + js.length) (h2 : ab.2 < m + js.length) : jF (rowsOf m (js ++ ex)) ab = jF (rowsOf m js) ab := by
  unfold jF
  rw [fst_more h1, fst_more h2]
theorem more_js (hx : Idx m js) : js.map (jF (rowsOf m (js ++ ex))) = js.map (jF (rowsOf m js)) := by
  refine List.map_congr_left fun ab h => ?_
  obtain ⟨i, hi⟩ := List.getElem?_of_mem h
  have h0 := lt_of_get hi
  obtain ⟨h1, h2⟩ := hx i ab hi
  exact jF_more (by omega) (by omega)
theorem more_os (ho : ∀ o ∈ os, o < m + js.length) : os.map (fstR (rowsOf m (js ++ ex))) = os.map (fstR (rowsOf m js)) :=
  List.map_congr_left fun o h => fst_more (ho o h)
/-- on the things more no out leans -/
theorem more_leans (hx : Idx m js) (ho : ∀ o ∈ os, o < m + js.length) (h : More m js ex) {t : Nat} :
    Leans m ((js ++ ex).map (jF (rowsOf m (js ++ ex)))) (os.map (fstR (rowsOf m (js ++ ex)))) t ↔ Leans m (js.map (jF (rowsOf m js))) (os.map (fstR (rowsOf m js))) t := by
  have ix := h.idx hx
  rw [more_os ho, List.map_append, more_js hx]
  have low : ∀ {i : Nat} {cd : Nat × Nat}, m + i < m + js.length → (js.map (jF (rowsOf m js)) ++ ex.map (jF (rowsOf m (js ++ ex))))[i]? = some cd → (js.map (jF (rowsOf m js)))[i]? = some cd := fun {i cd} hi e => by
    rw [List.getElem?_append_left (by rw [List.length_map]; omega)] at e
    exact e
  constructor
  · intro q
    have all : ∀ {t : Nat}, Leans m (js.map (jF (rowsOf m js)) ++ ex.map (jF (rowsOf m (js ++ ex)))) (os.map (fstR (rowsOf m js))) t → t < m + js.length ∧ Leans m (js.map (jF (rowsOf m js))) (os.map (fstR (rowsOf m js))) t := by
      intro t q
      induction q with
      | out h => exact ⟨fO_lt ho _ h, .out h⟩
      | lft _ e ih =>
        have e := low ih.1 e
        have := jF_idx hx _ _ e
        exact ⟨by omega, .lft ih.2 e⟩
      | rgt _ e ih =>
        have e := low ih.1 e
        have := jF_idx hx _ _ e
        exact ⟨by omega, .rgt ih.2 e⟩
    exact (all q).2
  · intro q
    have up : ∀ {i : Nat} {cd : Nat × Nat}, (js.map (jF (rowsOf m js)))[i]? = some cd → (js.map (jF (rowsOf m js)) ++ ex.map (jF (rowsOf m (js ++ ex))))[i]? = some cd := fun {i cd} e => by
      rw [List.getElem?_append_left (lt_of_get e)]
      exact e
    induction q with
    | out h => exact .out h
    | lft _ e ih => exact .lft ih (up e)
    | rgt _ e ih => exact .rgt ih (up e)
theorem more_tk (hx : Idx m js) (ho : ∀ o ∈ os, o < m + js.length) (h : More m js ex) : tk m (js ++ ex) os = tk m js os := by
  funext i
  rw [Bool.eq_iff_iff, tk_iff, tk_iff]
  exact more_leans hx ho h
theorem more_J (hx : Idx m js) (ho : ∀ o ∈ os, o < m + js.length) (h : More m js ex) : tJ m (js ++ ex) os = tJ m js os := by
  unfold tJ
  rw [more_tk hx ho h, List.map_append, more_js hx, List.length_append]
  have nk : ∀ i, tk m js os i = true → i < js.length := fun i hi => by
    have := (tk_iff.mp hi).lt (jF_idx hx) (by rw [List.length_map]; exact fO_lt ho)
    rw [List.length_map] at this
    omega
  have fil : ∀ e, (List.range (js.length + e)).filter (tk m js os) = (List.range js.length).filter (tk m js os) := by
    intro e
    induction e with
    | zero => rfl
    | succ e ih =>
      rw [← Nat.add_assoc, filter_succ, if_neg (fun q => by have := nk _ q; omega), List.append_nil, ih]
  unfold newJ
  rw [fil]
  refine List.map_congr_left fun i hi => ?_
  rw [List.mem_filter, List.mem_range] at hi
  unfold nj
  have e : (js.map (jF (rowsOf m js)) ++ ex.map (jF (rowsOf m (js ++ ex)))).getD i (0, 0) = (js.map (jF (rowsOf m js))).getD i (0, 0) := by
    rw [List.getD_eq_getElem?_getD, List.getD_eq_getElem?_getD, List.getElem?_append_left (by rw [List.length_map]; exact hi.1)]
  rw [e]
theorem more_O (hx : Idx m js) (ho : ∀ o ∈ os, o < m + js.length) (h : More m js ex) : tO m (js ++ ex) os = tO m js os := by
  unfold tO
  rw [more_tk hx ho h, more_os ho]
end
/-- the givens are the first with their rows -/
theorem fst_given {m : Nat} {js : List (Nat × Nat)} {t : Nat} (h : t < m) : fstR (rowsOf m js) t = t := by
  have hl : t < (rowsOf m js).length := by rw [rows_len]; omega
  have h1 := fst_le hl
  have h2 : row m js (fstR (rowsOf m js) t) = row m js t := fst_row hl
  rw [row_given (by omega), row_given h] at h2
  exact (Nat.pow_right_inj (by decide)).mp h2
end K16
/-! ### the text by places, heaps, nets in the heap -/
namespace K16
open PySem PySem.Spec PyProof.Rows L2
def topS (i : Nat) : Stmt := PySem.Challenge.pw_fewjoins_k16_whole_tidied_makes_the_same.main.body.getD i (.Pass ⟨0, 0, 0, 0⟩)
/-! numbers -/
def nv (n : Nat) : V := .int (n : Int)
theorem nv_inj {a b : Nat} (h : nv a = nv b) : a = b := Int.ofNat.inj (V.int.inj h)
theorem nv_dec (a b : Nat) : decide (nv a = nv b) = decide (a = b) := by
  by_cases h : a = b
  · subst h; simp
  · rw [decide_eq_false h, decide_eq_false fun q => h (nv_inj q)]
theorem nvs_ints (ns : List Nat) : ns.map nv = (ns.map fun n : Nat => (n : Int)).map V.int := by rw [List.map_map]; rfl
theorem shl_nv (k : Nat) : V.int ((1 : Int) * 2 ^ ((k : Int)).toNat) = nv (2 ^ k) := by
  unfold nv
  rw [Int.one_mul, Int.toNat_natCast]
  exact congrArg V.int (by rw [Int.natCast_pow]; rfl)
theorem xor_nv (a b : Nat) : V.int (Builtin.bitXor (a : Int) (b : Int)) = nv (a ^^^ b) := by
  rw [Bits.bitXor_pp (Int.natCast_nonneg a) (Int.natCast_nonneg b), Int.toNat_natCast, Int.toNat_natCast]
  rfl
theorem and_nv (a b : Nat) : V.int (Builtin.bitAnd (a : Int) (b : Int)) = nv (a &&& b) := by
  rw [bitAnd_pp (Int.natCast_nonneg a) (Int.natCast_nonneg b), Int.toNat_natCast, Int.toNat_natCast]
  rfl
theorem at_nv {ns : List Nat} {i x : Nat} (h : ns[i]? = some x) : atI (ns.map nv) (i : Int) = some (nv x) := atI_nat (by rw [List.getElem?_map, h]; rfl)
theorem sz {n : Nat} (h : n ≤ 1000) : n < sizeLine := small1000 h
theorem sz' {n : Nat} (h : n ≤ 1000) : n ≤ sizeLine := Nat.le_of_lt (small1000 h)
/-! heaps -/
theorem same_new {H : Hp} {p : Addr} (h : H p = none) (o : HO) : Same H (upd H p o) := fun b u e => by
  rw [upd_ne (ne_of_none e h)]
  exact e
theorem sOwn {H H' : Hp} {p : Addr} (s : Same H H') (h : H p = none) (o : HO) : Same H (upd H' p o) := fun b u e => by
  rw [upd_ne (ne_of_none e h)]
  exact s b u e
/-- the tuples stay -/
def Tups (H H' : Hp) : Prop := ∀ b xs, H b = some (.tup xs) → H' b = some (.tup xs)
theorem Tups.of {H H' : Hp} (s : Same H H') : Tups H H' := fun b xs e => s b _ e
theorem Tups.trans {H H1 H2 : Hp} (a : Tups H H1) (b : Tups H1 H2) : Tups H H2 := fun c xs e => b c xs (a c xs e)
theorem Tups.refl (H : Hp) : Tups H H := fun _ _ e => e
/-- all but t stays -/
def SameX (t : Addr) (H H' : Hp) : Prop := ∀ b o, b ≠ t → H b = some o → H' b = some o
theorem SameX.of {t : Addr} {H H' : Hp} (s : Same H H') : SameX t H H' := fun b o _ e => s b o e
theorem SameX.trans {t : Addr} {H H1 H2 : Hp} (a : SameX t H H1) (b : SameX t H1 H2) : SameX t H H2 := fun c o n e => b c o n (a c o n e)
theorem SameX.refl (t : Addr) (H : Hp) : SameX t H H := fun _ _ _ e => e
theorem SameX.upd (t : Addr) (H : Hp) (o : HO) : SameX t H (upd H t o) := fun b u n e => by rw [upd_ne n]; exact e
theorem xOwn {t : Addr} {H H' : Hp} {p : Addr} (s : SameX t H H') (h : H p = none) (o : HO) : SameX t H (L2.upd H' p o) := fun b u n e => by
  rw [upd_ne (ne_of_none e h)]
  exact s b u n e
theorem SameX.tups {t : Addr} {H H' : Hp} (s : SameX t H H') (h : ∀ xs, H t ≠ some (.tup xs)) : Tups H H' := fun b xs e => s b _ (fun q => h xs (q ▸ e)) e
/-! nets in the heap -/
def Prs (H : Hp) (rs : List Addr) (js : List (Nat × Nat)) : Prop := rs.length = js.length ∧ ∀ (i : Nat) (r : Addr) (ab : Nat × Nat), rs[i]? = some r → js[i]? = some ab → H r = some (.tup [nv ab.1, nv ab.2])
theorem Prs.mono {H H' : Hp} {rs : List Addr} {js : List (Nat × Nat)} (p : Prs H rs js) (t : Tups H H') : Prs H' rs js := ⟨p.1, fun i r ab e1 e2 => t _ _ (p.2 i r ab e1 e2)⟩
theorem Prs.nil (H : Hp) : Prs H [] [] := ⟨rfl, fun i r ab e => by simp at e⟩
theorem Prs.snoc {H : Hp} {rs : List Addr} {js : List (Nat × Nat)} {r : Addr} {ab : Nat × Nat} (p : Prs H rs js) (h : H r = some (.tup [nv ab.1, nv ab.2])) : Prs H (rs ++ [r]) (js ++ [ab]) := by
  refine ⟨by rw [List.length_append, List.length_append, p.1]; rfl, fun i q cd e1 e2 => ?_⟩
  by_cases hi : i < js.length
  · rw [List.getElem?_append_left (by rw [p.1]; exact hi)] at e1
    rw [List.getElem?_append_left hi] at e2
    exact p.2 i q cd e1 e2
  · rw [List.getElem?_append_right (by rw [p.1]; omega), p.1] at e1
    rw [List.getElem?_append_right (by omega)] at e2
    have h0 := lt_of_get e2
    have : i - js.length = 0 := by simp at h0; omega
    rw [this] at e1 e2
    cases e1
    cases e2
    exact h
theorem Prs.get {H : Hp} {rs : List Addr} {js : List (Nat × Nat)} (p : Prs H rs js) {i : Nat} (h : i < js.length) : ∃ r ab, rs[i]? = some r ∧ js[i]? = some ab ∧ H r = some (.tup [nv ab.1, nv ab.2]) := by
  have e1 := List.getElem?_eq_getElem (l := rs) (i := i) (by rw [p.1]; exact h)
  have e2 := List.getElem?_eq_getElem h
  exact ⟨_, _, e1, e2, p.2 i _ _ e1 e2⟩
def NetAt (H : Hp) (p : Addr) (m : Nat) (js : List (Nat × Nat)) (os : List Nat) : Prop :=
  ∃ (j o : Addr) (rs : List Addr), H p = some (.tup [nv m, .ref j, .ref o]) ∧ H j = some (.tup (rs.map V.ref)) ∧ Prs H rs js ∧ H o = some (.tup (os.map nv))
theorem NetAt.mono {H H' : Hp} {p : Addr} {m : Nat} {js : List (Nat × Nat)} {os : List Nat} (n : NetAt H p m js os) (t : Tups H H') : NetAt H' p m js os := by
  obtain ⟨j, o, rs, h1, h2, h3, h4⟩ := n
  exact ⟨j, o, rs, t _ _ h1, t _ _ h2, h3.mono t, t _ _ h4⟩
theorem SqT_of {K : PySem.W.Frag} {H : Hp} {a : Addr} {xs : List V} (h : H a = some (.tup xs)) : SqT K H a xs := SqT.of h
/-! lists of rows, one more -/
theorem rows_take_snoc {m : Nat} {js : List (Nat × Nat)} {i : Nat} {ab : Nat × Nat} (e : js[i]? = some ab) :
    rowsOf m (js.take (i + 1)) = rowsOf m (js.take i) ++ [(rowsOf m (js.take i)).getD ab.1 0 ^^^ (rowsOf m (js.take i)).getD ab.2 0] := by
  rw [take_succ e, rows_snoc]; rfl
theorem get_take {m : Nat} {js : List (Nat × Nat)} {i t : Nat} (h : t < m + i) (hi : i ≤ js.length) : (rowsOf m (js.take i))[t]? = some ((rowsOf m (js.take i)).getD t 0) :=
  get_row (js := js.take i) (by rw [List.length_take]; omega)
theorem map_snoc {α β : Type} (f : α → β) (l : List α) (x : α) : (l ++ [x]).map f = l.map f ++ [f x] := by rw [List.map_append]; rfl
theorem range_map_succ (f : Nat → V) (i : Nat) : (List.range (i + 1)).map f = (List.range i).map f ++ [f i] := by rw [List.range_succ, List.map_append]; rfl
theorem gvn_snoc (i : Nat) : (gvn (i + 1)).map nv = (gvn i).map nv ++ [V.int ((1 : Int) * 2 ^ ((i : Int)).toNat)] := by
  rw [shl_nv]
  unfold gvn
  rw [List.range_succ, map_snoc, map_snoc]
end K16
/-! ### rows_of -/
namespace K16
open PySem PySem.Spec PyProof.Rows L2
abbrev sRows : Stmt := topS 8
theorem scRows : FnScope ["net", "rows", "a", "b", "k"] ["net"] (defScope sRows) := ⟨rfl, rfl, rfl, by decide +kernel, rfl, by decide +kernel, by decide +kernel⟩
section
variable {P : Program} {w : World} {K : PySem.W.Frag} {mg : Str → Option Value} {base : Heap}
/-- a new list of the rows -/
def spRows : Sp := fun vs H Q _ => ∃ (p : Addr) (m : Nat) (js : List (Nat × Nat)) (os : List Nat), vs = [.ref p] ∧ NetAt H p m js os ∧ Idx m js ∧ m ≤ 12 ∧ js.length ≤ 140 ∧
  ∀ H' r, Same H H' → H r = none → H' r = some (.lst ((rowsOf m js).map nv)) → Q (.ref r) H'
theorem ok_rows {f : Addr} {fd : FuncData} (F : Fun K "rows_of" "rows_of" sRows f fd) (mr : mg "range" = none) : FnOk P w K mg base CX0 1 f fd ["net"] spRows := by
  refine F.ok scRows (fun vs H Q E h => ?_) (fun cdv A outer s H vs Q E hr h => ?_)
  · obtain ⟨p, m, js, os, rfl, _⟩ := h
    rfl
  obtain ⟨p, m, js, os, rfl, hN, hx, hm, hl, q⟩ := h
  refine ⟨_, pss_cons (ps_setLc (i := 1) (own := [("k", 4)]) (g := gName 4) (tt := tYes) rfl scRows.nd rfl rfl (sw_true rfl rfl rfl (by decide +kernel))
        (pi_range1 rfl mr (pa_cons (pe_ix ix_tup (pv 0) pe_int (fun _ _ => rfl)) pa_nil))
        (blkOk_by (N := ["net", "rows", "a", "b", "k"]) (sc := defScope sRows) (by decide +kernel))
        (fun _ _ _ _ _ => pg_name (i := 4) scRows.nd rfl (Or.inl rfl)) (fun _ _ _ _ _ => pts_nil) (fun _ _ _ _ _ => pe_op op_shl pe_int (pv 4)))
    (pss_cons (ps_for PassesOwn.never rfl (pi_tup (pe_ix ix_tup (pv 0) pe_int (fun _ _ => rfl)))
        (pg_tup rfl (pgs_cons (pg_name (i := 2) scRows.nd rfl (Or.inl rfl)) (pgs_cons (pg_name (i := 3) scRows.nd rfl (Or.inl rfl)) pgs_nil)))
        (pss_one (ps_expr (pe_bm PySem.F.plainAttrs_list PySem.F.slot_list_append PySem.F.type_list_append mt_append (pv 1)
          (pa_cons (pe_op op_xor (pe_ix ix_list (pv 1) (pv 2) (fun _ _ => rfl)) (pe_ix ix_list (pv 1) (pv 3) (fun _ _ => rfl))) pa_nil)))))
    (pss_one (ps_ret (pv 1)))), ?_⟩
  obtain ⟨jt, ot, rs, h1, h2, h3, h4⟩ := hN
  -- rows = [1 << k for k in range(net[0])]
  refine ⟨.ref p, rfl, p, _, 0, nv m, rfl, rfl, SqT.of h1, atI_nat (j := 0) rfl, (m : Int), rfl, by omega, by omega, fun D hD => ?_⟩
  rw [Int.toNat_natCast]
  refine lc_range (lo := 0) (n := m) (fun i H' => Same H H' ∧ H' D = some (.lst ((gvn i).map nv))) ⟨same_new hD _, upd_same⟩ (fun i H' hi ⟨s1, e1⟩ => ?_) (fun H1 ⟨s1, e1⟩ => ?_)
  · refine ⟨rfl, ?_⟩
    refine ⟨.int (0 + (i : Int)), rfl, 1, (0 + (i : Int)), rfl, rfl, ⟨by omega, by omega, by decide⟩, ?_⟩
    refine ⟨_, e1, by rw [List.length_map, gvn_len]; exact sz (by omega), sOwn s1 hD _, ?_⟩
    rw [upd_same, Int.zero_add, gvn_snoc]
  -- for a, b in net[1]
  refine ⟨.ref p, rfl, p, _, 1, .ref jt, rfl, rfl, SqT.of (s1 _ _ h1), atI_nat (j := 1) rfl, jt, rfl, ⟨_, SqT.of (s1 _ _ h2)⟩, ?_⟩
  refine for_tup (xs := rs.map V.ref) (fun i σ H' => ∃ y2 y3, σ = [some (.ref p), some (.ref D), y2, y3, none] ∧ Same H H' ∧ H' D = some (.lst ((rowsOf m (js.take i)).map nv)))
    ⟨none, none, rfl, s1, e1⟩ (fun i σ H' hi ⟨y2, y3, _, s2, e2⟩ => SqT.of (s2 _ _ h2)) ?_ ?_
  · rintro i x σ H' hi ⟨y2, y3, rfl, s2, e2⟩
    rw [List.getElem?_map] at hi
    obtain ⟨r, er, rfl⟩ := Option.map_eq_some_iff.mp hi
    have hij : i < js.length := by rw [← h3.1]; exact lt_of_get er
    obtain ⟨r', ab, er', ej, hrr⟩ := h3.get hij
    rw [er] at er'
    cases er'
    obtain ⟨l1, l2⟩ := hx i ab ej
    refine ⟨r, _, rfl, SqT.of (s2 _ _ hrr), rfl, nv ab.1, [nv ab.2], rfl, nv ab.2, [], rfl, rfl, ?_⟩
    have g1 := get_take l1 (Nat.le_of_lt hij)
    have g2 := get_take l2 (Nat.le_of_lt hij)
    refine ⟨.ref D, rfl, .inl ⟨rfl, _, SqL.of e2⟩, .ref D, rfl, nv ab.1, rfl, D, _, (ab.1 : Int), _, rfl, rfl, SqL.of e2, at_nv g1, .ref D, rfl, nv ab.2, rfl, D, _, (ab.2 : Int), _, rfl, rfl, SqL.of e2, at_nv g2, _, _, rfl, rfl, ?_⟩
    refine ⟨D, _, _, rfl, rfl, e2, by rw [List.length_map, rows_len, List.length_take]; exact sz (by omega), ?_⟩
    refine ⟨_, _, rfl, sOwn s2 hD _, ?_⟩
    rw [upd_same, rows_take_snoc ej, map_snoc, ← xor_nv]
  · rintro σ H' ⟨y2, y3, rfl, s2, e2⟩
    rw [List.length_map, h3.1, List.take_length] at e2
    exact ⟨.ref D, rfl, q H' D s2 hD e2⟩
end
end K16
/-! ### made_by, is_clean, first_with -/
namespace K16
open PySem PySem.Spec PyProof.Rows L2
abbrev sMade : Stmt := topS 9
abbrev sClean : Stmt := topS 10
abbrev sFirst : Stmt := topS 12
theorem scMade : FnScope ["net", "rows", "out"] ["net"] (defScope sMade) := ⟨rfl, rfl, rfl, by decide +kernel, rfl, by decide +kernel, by decide +kernel⟩
theorem scClean : FnScope ["net", "rows", "a", "b"] ["net"] (defScope sClean) := ⟨rfl, rfl, rfl, by decide +kernel, rfl, by decide +kernel, by decide +kernel⟩
theorem scFirst : FnScope ["rows", "first", "found", "thing"] ["rows"] (defScope sFirst) := ⟨rfl, rfl, rfl, by decide +kernel, rfl, by decide +kernel, by decide +kernel⟩
section
variable {P : Program} {w : World} {K : PySem.W.Frag} {mg : Str → Option Value} {base : Heap}
/-- a new list of the outs' rows -/
def spMade : Sp := fun vs H Q _ => ∃ (p : Addr) (m : Nat) (js : List (Nat × Nat)) (os : List Nat), vs = [.ref p] ∧ NetAt H p m js os ∧ Idx m js ∧ m ≤ 12 ∧ js.length ≤ 140 ∧ (∀ o ∈ os, o < m + js.length) ∧ os.length ≤ 24 ∧
  ∀ H' r, Same H H' → H r = none → H' r = some (.lst ((os.map (row m js)).map nv)) → Q (.ref r) H'
theorem ok_made {f fR : Addr} {fd fdR : FuncData} (F : Fun K "made_by" "made_by" sMade f fd) (FR : Fun K "rows_of" "rows_of" sRows fR fdR) (bR : Binds K fdR ["net"] []) (gR : mg "rows_of" = some (.ref fR)) (mr : mg "range" = none) : FnOk P w K mg base CX0 2 f fd ["net"] spMade := by
  have GR : FnOk P w K mg base CX0 1 fR fdR ["net"] spRows := ok_rows FR mr
  refine F.ok scMade (fun vs H Q E h => ?_) (fun cdv A outer s H vs Q E hr h => ?_)
  · obtain ⟨p, m, js, os, rfl, _⟩ := h
    rfl
  obtain ⟨p, m, js, os, rfl, hN, hx, hm, hl, ho, hol, q⟩ := h
  refine ⟨_, pss_cons (ps_set (i := 1) scMade.nd rfl (Or.inr rfl) (pe_call GR hr rfl gR FR.kp bR .nil pass0 (pa_cons (pv 0) pa_nil)))
    (pss_one (ps_ret (pe_lc (own := [("out", 2)]) (g := gName 2) (tt := tYes) rfl scMade.nd (pi_tup (pe_ix ix_tup (pv 0) pe_int (fun _ _ => rfl)))
        (blkOk_by (N := ["net", "rows", "out"]) (sc := defScope sMade) (by decide +kernel))
        (fun _ _ _ _ _ => pg_name (i := 2) scMade.nd rfl (Or.inl rfl)) (fun _ _ _ _ _ => pts_nil) (fun _ _ _ _ _ => pe_ix (r := rIxL K) ix_list (pv 1) (pv 2) (fun _ _ => rfl))))), ?_⟩
  -- rows = rows_of(net)
  refine ⟨.ref p, rfl, p, m, js, os, rfl, hN, hx, hm, hl, fun H1 r s1 hr1 e1 => ?_⟩
  obtain ⟨jt, ot, rs, h1, h2, h3, h4⟩ := hN
  refine ⟨.ref p, rfl, p, _, 2, .ref ot, rfl, rfl, SqT.of (s1 _ _ h1), atI_nat (j := 2) rfl, ot, rfl, ⟨_, SqT.of (s1 _ _ h4)⟩, fun D hD => ?_⟩
  refine lc_tup (xs := os.map nv) (fun i H' => Same H1 H' ∧ H' D = some (.lst (((os.take i).map (row m js)).map nv))) ⟨same_new hD _, upd_same⟩ (fun i H' hi ⟨s2, _⟩ => SqT.of (s2 _ _ (s1 _ _ h4))) ?_ ?_
  · rintro i x H' hi ⟨s2, e2⟩
    rw [List.getElem?_map] at hi
    obtain ⟨o, eo, rfl⟩ := Option.map_eq_some_iff.mp hi
    have hio := lt_of_get eo
    refine ⟨rfl, ?_⟩
    refine ⟨.ref r, rfl, nv o, rfl, r, _, (o : Int), _, rfl, rfl, SqL.of (s2 _ _ e1), at_nv (get_row (ho o (List.mem_of_getElem? eo))), _, e2, by rw [List.length_map, List.length_map, List.length_take]; exact sz (by omega), sOwn s2 hD _, ?_⟩
    rw [upd_same, take_succ eo, map_snoc, map_snoc]
  · rintro H' ⟨s2, e2⟩
    rw [List.length_map, List.take_length] at e2
    exact q H' D (s1.trans s2) (s1.free hD) e2
/-- without taking out or not -/
def spClean : Sp := fun vs H Q _ => ∃ (p : Addr) (m : Nat) (js : List (Nat × Nat)) (os : List Nat), vs = [.ref p] ∧ NetAt H p m js os ∧ Idx m js ∧ m ≤ 12 ∧ js.length ≤ 140 ∧
  ∀ H', Same H H' → Q (.bl (cleanB m js)) H'
theorem ok_clean {f fR : Addr} {fd fdR : FuncData} (F : Fun K "is_clean" "is_clean" sClean f fd) (FR : Fun K "rows_of" "rows_of" sRows fR fdR) (bR : Binds K fdR ["net"] []) (gR : mg "rows_of" = some (.ref fR)) (mr : mg "range" = none) (ma : mg "all" = none) : FnOk P w K mg base CX0 2 f fd ["net"] spClean := by
  have GR : FnOk P w K mg base CX0 1 fR fdR ["net"] spRows := ok_rows FR mr
  refine F.ok scClean (fun vs H Q E h => ?_) (fun cdv A outer s H vs Q E hr h => ?_)
  · obtain ⟨p, m, js, os, rfl, _⟩ := h
    rfl
  obtain ⟨p, m, js, os, rfl, hN, hx, hm, hl, q⟩ := h
  refine ⟨_, pss_cons (ps_set (i := 1) scClean.nd rfl (Or.inr rfl) (pe_call GR hr rfl gR FR.kp bR .nil pass0 (pa_cons (pv 0) pa_nil)))
    (pss_one (ps_ret (pe_callB (cr_all rfl) (by rfl) ma (by decide +kernel) (pa_cons (pe_lc (own := [("a", 2), ("b", 3)]) (g := gTup K 2 (gCons (gName 2) (gCons (gName 3) gNil))) (tt := tYes) rfl scClean.nd (pi_tup (pe_ix ix_tup (pv 0) pe_int (fun _ _ => rfl)))
        (blkOk_by (N := ["net", "rows", "a", "b"]) (sc := defScope sClean) (by decide +kernel))
        (fun _ _ _ _ _ => pg_tup rfl (pgs_cons (pg_name (i := 2) scClean.nd rfl (Or.inl rfl)) (pgs_cons (pg_name (i := 3) scClean.nd rfl (Or.inl rfl)) pgs_nil))) (fun _ _ _ _ _ => pts_nil)
        (fun _ _ _ _ _ => pe_cmpR op_eq (pe_op op_and (pe_ix (r := rIxL K) ix_list (pv 1) (pv 2) (fun _ _ => rfl)) (pe_ix (r := rIxL K) ix_list (pv 1) (pv 3) (fun _ _ => rfl))) pe_int (nomark _))) pa_nil)))), ?_⟩
  refine ⟨.ref p, rfl, p, m, js, os, rfl, hN, hx, hm, hl, fun H1 r s1 hr1 e1 => ?_⟩
  obtain ⟨jt, ot, rs, h1, h2, h3, h4⟩ := hN
  refine ⟨.ref p, rfl, p, _, 1, .ref jt, rfl, rfl, SqT.of (s1 _ _ h1), atI_nat (j := 1) rfl, jt, rfl, ⟨_, SqT.of (s1 _ _ h2)⟩, fun D hD => ?_⟩
  refine lc_tup (xs := rs.map V.ref) (fun i H' => Same H1 H' ∧ H' D = some (.lst (((js.take i).map fun ab => decide (row m js ab.1 &&& row m js ab.2 = 0)).map V.bl))) ⟨same_new hD _, upd_same⟩ (fun i H' hi ⟨s2, _⟩ => SqT.of (s2 _ _ (s1 _ _ h2))) ?_ ?_
  · rintro i x H' hi ⟨s2, e2⟩
    rw [List.getElem?_map] at hi
    obtain ⟨r', er, rfl⟩ := Option.map_eq_some_iff.mp hi
    have hij : i < js.length := by rw [← h3.1]; exact lt_of_get er
    obtain ⟨r'', ab, er', ej, hrr⟩ := h3.get hij
    rw [er] at er'
    cases er'
    obtain ⟨l1, l2⟩ := hx i ab ej
    refine ⟨r', _, rfl, SqT.of (s2 _ _ (s1 _ _ hrr)), rfl, nv ab.1, [nv ab.2], rfl, nv ab.2, [], rfl, rfl, rfl, ?_⟩
    refine ⟨.ref r, rfl, nv ab.1, rfl, r, _, (ab.1 : Int), _, rfl, rfl, SqL.of (s2 _ _ e1), at_nv (get_row (by omega)), .ref r, rfl, nv ab.2, rfl, r, _, (ab.2 : Int), _, rfl, rfl, SqL.of (s2 _ _ e1), at_nv (get_row (by omega)), _, _, rfl, rfl, rfl, ?_⟩
    refine ⟨_, e2, by rw [List.length_map, List.length_map, List.length_take]; exact sz (by omega), sOwn s2 hD _, ?_⟩
    rw [upd_same, take_succ ej, map_snoc, map_snoc]
    refine congrArg (fun z => some (HO.lst (_ ++ [V.bl z]))) ?_
    show decide (V.int (Builtin.bitAnd (row m js ab.1 : Int) (row m js ab.2 : Int)) = V.int 0) = _
    rw [and_nv]
    exact nv_dec _ 0
  · rintro H' ⟨s2, e2⟩
    rw [List.length_map, h3.1, List.take_length] at e2
    refine ⟨D, _, rfl, SqL.of e2, ?_⟩
    rw [List.all_map]
    exact q H' (s1.trans s2)
/-- for each row its first place -/
def spFirst : Sp := fun vs H Q _ => ∃ (a : Addr) (R : List Nat), vs = [.ref a] ∧ H a = some (.lst (R.map nv)) ∧ R.length ≤ 160 ∧
  ∀ H' r, Same H H' → H r = none → H' r = some (.lst ((R.map fun x => R.idxOf x).map nv)) → Q (.ref r) H'
theorem take_mem {R : List Nat} {i x : Nat} (h : R[i]? = some x) (y : Nat) : y ∈ R.take (i + 1) ↔ y ∈ R.take i ∨ y = x := by
  rw [take_succ h, List.mem_append, List.mem_singleton]
theorem idx_new {R : List Nat} {i x : Nat} (h : R[i]? = some x) (hn : x ∉ R.take i) : R.idxOf x = i := by
  have hi := lt_of_get h
  have e : R = R.take i ++ R.drop i := (List.take_append_drop i R).symm
  have e2 : R.drop i = x :: R.drop (i + 1) := by rw [List.drop_eq_getElem_cons hi, (List.getElem?_eq_some_iff.mp h).2]
  rw [e, List.idxOf_append, if_neg hn, e2, List.idxOf_cons_self, List.length_take]
  omega
theorem ok_first {f : Addr} {fd : FuncData} (F : Fun K "first_with" "first_with" sFirst f fd) (mr : mg "range" = none) (ml : mg "len" = none) : FnOk P w K mg base CX0 1 f fd ["rows"] spFirst := by
  refine F.ok scFirst (fun vs H Q E h => ?_) (fun cdv A outer s H vs Q E hr h => ?_)
  · obtain ⟨p, R, rfl, _⟩ := h
    rfl
  obtain ⟨a, R, rfl, hR, hl, q⟩ := h
  refine ⟨_, pss_cons (ps_set (i := 1) scFirst.nd rfl (Or.inl rfl) pe_dnewK) (pss_cons (ps_set (i := 2) scFirst.nd rfl (Or.inl rfl) (pe_lst pa_nil))
    (pss_cons (ps_for PassesOwn.never rfl (pi_range1 rfl mr (pa_cons (pe_callB call_len_seq (by rfl) ml PySem.boot_len (pa_cons (pv 0) pa_nil)) pa_nil)) (pg_name (i := 3) scFirst.nd rfl (Or.inl rfl))
        (pss_one (ps_expr (pe_bm PySem.F.plainAttrs_list PySem.F.slot_list_append PySem.F.type_list_append mt_append (pv 2)
          (pa_cons (pe_dsetd (pv 1) (pe_ix ix_list (pv 0) (pv 3) (fun _ _ => rfl)) (pv 3) ⟨rfl, rfl, rfl, rfl⟩) pa_nil)))))
    (pss_one (ps_ret (pv 2))))), ?_⟩
  intro d hd
  refine ⟨Nat.zero_le _, fun l hl' => ?_⟩
  have ndl : d ≠ l := fun e => by rw [e, upd_same] at hl'; cases hl'
  have l0 : H l = none := by rw [upd_ne ndl.symm] at hl'; exact hl'
  have had : a ≠ d := ne_of_none hR hd
  have hal : a ≠ l := ne_of_none hR l0
  have s0 : Same H (upd (upd H d (.dK [])) l (.lst [])) := sOwn (same_new hd _) l0 _
  refine ⟨.ref a, rfl, a, _, rfl, .inl (SqL.of (s0 _ _ hR)), ((R.map nv).length : Int), rfl, by omega, by rw [List.length_map]; omega, ?_⟩
  rw [Int.toNat_natCast, List.length_map]
  refine for_range (lo := 0) (n := R.length) (fun i σ H' => ∃ (y : Option V) (kvs : List (Key × V)), σ = [some (.ref a), some (.ref d), some (.ref l), y] ∧ Same H H' ∧ kvs.length ≤ i ∧ H' d = some (.dK kvs) ∧
      (∀ x : Nat, valV kvs (Sum.inl (x : Int)) = if x ∈ R.take i then some (nv (R.idxOf x)) else none) ∧ H' l = some (.lst (((R.take i).map fun x => R.idxOf x).map nv)))
    ⟨none, [], rfl, s0, Nat.le_refl _, by rw [upd_ne ndl]; exact upd_same, fun x => by simp [valV_nil], upd_same⟩ ?_ ?_
  · rintro i σ H' hi ⟨y, kvs, rfl, s1, hk, e1, hv, e2⟩
    have gi := List.getElem?_eq_getElem hi
    rw [Int.zero_add]
    refine ⟨.ref l, rfl, .inl ⟨rfl, _, SqL.of e2⟩, .ref d, rfl, d, rfl, .inl ⟨kvs, .inl e1⟩, .ref a, rfl, nv i, rfl, a, _, (i : Int), _, rfl, rfl, SqL.of (s1 _ _ hR), at_nv gi, nv i, rfl, kvs, Sum.inl ((R[i] : Nat) : Int), e1, rfl, sz (by omega), fun v hvv => ?_, fun hvn => ?_⟩
    · have hvx := hv R[i]
      rw [hvv] at hvx
      by_cases hm : R[i] ∈ R.take i
      · rw [if_pos hm] at hvx
        cases hvx
        refine ⟨l, _, _, rfl, rfl, e2, by rw [List.length_map, List.length_map, List.length_take]; exact sz (by omega), ?_⟩
        refine ⟨_, kvs, rfl, sOwn s1 l0 _, by omega, by rw [upd_ne ndl]; exact e1, fun x => ?_, ?_⟩
        · rw [hv x]
          by_cases hx : x ∈ R.take i
          · rw [if_pos hx, if_pos ((take_mem gi x).mpr (.inl hx))]
          · rw [if_neg hx, if_neg fun z => ((take_mem gi x).mp z).elim hx fun z => hx (z ▸ hm)]
        · rw [upd_same, take_succ gi, map_snoc, map_snoc]
      · rw [if_neg hm] at hvx
        cases hvx
    · have hvx := hv R[i]
      rw [hvn] at hvx
      by_cases hm : R[i] ∈ R.take i
      · rw [if_pos hm] at hvx
        cases hvx
      · have ei := idx_new gi hm
        refine ⟨l, _, _, rfl, rfl, by rw [upd_ne ndl.symm]; exact e2, by rw [List.length_map, List.length_map, List.length_take]; exact sz (by omega), ?_⟩
        refine ⟨_, _, rfl, sOwn (sOwn s1 hd _) l0 _, ?_, by rw [upd_ne ndl]; exact upd_same, fun x => ?_, ?_⟩
        · have := length_putK kvs (Sum.inl ((R[i] : Nat) : Int)) (nv i)
          omega
        · rw [valV_put, hv x]
          by_cases hx : x = R[i]
          · rw [if_pos (by rw [hx]), if_pos ((take_mem gi x).mpr (.inr hx)), hx, ei]
          · rw [if_neg (show ¬ (Sum.inl (x : Int) : Key) = Sum.inl ((R[i] : Nat) : Int) from fun z => hx (Int.ofNat.inj (Sum.inl.inj z)))]
            by_cases hx2 : x ∈ R.take i
            · rw [if_pos hx2, if_pos ((take_mem gi x).mpr (.inl hx2))]
            · rw [if_neg hx2, if_neg fun z => ((take_mem gi x).mp z).elim hx2 hx]
        · rw [upd_same, take_succ gi, map_snoc, map_snoc, ei]
  · rintro σ H' ⟨y, kvs, rfl, s1, hk, e1, hv, e2⟩
    rw [List.take_length] at e2
    exact ⟨.ref l, rfl, q H' l s1 l0 e2⟩
end
end K16
/-! ### leaned_on, numbered -/
namespace K16
open PySem PySem.Spec PyProof.Rows L2
abbrev sLean : Stmt := topS 13
abbrev sNumb : Stmt := topS 14
theorem scLean : FnScope ["many", "joins", "outs", "found", "out", "at"] ["many", "joins", "outs"] (defScope sLean) := ⟨rfl, rfl, rfl, by decide +kernel, rfl, by decide +kernel, by decide +kernel⟩
theorem scNumb : FnScope ["many", "joins", "outs", "kept", "numbers", "found", "at", "a", "b", "out"] ["many", "joins", "outs", "kept"] (defScope sNumb) := ⟨rfl, rfl, rfl, by decide +kernel, rfl, by decide +kernel, by decide +kernel⟩
theorem ixN_nat {n j : Nat} (h : j < n) : ixN n (j : Int) = some j := by
  unfold ixN
  rw [if_pos (Int.natCast_nonneg j), if_pos (by omega), Int.toNat_natCast]
theorem set_true {bs : List Bool} {o t : Nat} (h : o < bs.length) : (bs.set o true)[t]? = some true ↔ t = o ∨ bs[t]? = some true := by
  by_cases e : t = o
  · subst e
    rw [List.getElem?_set_self h]
    exact ⟨fun _ => .inl rfl, fun _ => rfl⟩
  · rw [List.getElem?_set_ne (Ne.symm e)]
    exact ⟨.inr, fun z => z.elim (fun q => absurd q e) id⟩
theorem set_bl (bs : List Bool) (o : Nat) : (bs.map V.bl).set o (V.bl true) = (bs.set o true).map V.bl := (List.map_set).symm
theorem at_bl {bs : List Bool} {i : Nat} {b : Bool} (h : bs[i]? = some b) : atI (bs.map V.bl) (i : Int) = some (V.bl b) := atI_nat (by rw [List.getElem?_map, h]; rfl)
theorem at_ref {rs : List Addr} {i : Nat} {r : Addr} (h : rs[i]? = some r) : atI (rs.map V.ref) (i : Int) = some (V.ref r) := atI_nat (by rw [List.getElem?_map, h]; rfl)
theorem rep_bl (n : Nat) : (List.replicate n [V.bl false]).flatten = (List.replicate n false).map V.bl := by
  induction n with
  | zero => rfl
  | succ n ih => rw [List.replicate_succ, List.flatten_cons, ih, List.replicate_succ]; rfl
section
variable {P : Program} {w : World} {K : PySem.W.Frag} {mg : Str → Option Value} {base : Heap}
/-- a new list that tells of each thing whether an out leans on it -/
def spLean : Sp := fun vs H Q _ => ∃ (a o : Addr) (m : Nat) (rs : List Addr) (js : List (Nat × Nat)) (os : List Nat), vs = [nv m, .ref a, .ref o] ∧ H a = some (.lst (rs.map V.ref)) ∧ Prs H rs js ∧ H o = some (.lst (os.map nv)) ∧
  Idx m js ∧ m ≤ 12 ∧ js.length ≤ 140 ∧ (∀ o ∈ os, o < m + js.length) ∧
  ∀ (H' : Hp) (r : Addr) (bs : List Bool), Same H H' → H r = none → H' r = some (.lst (bs.map V.bl)) → bs.length = m + js.length → (∀ t, bs[t]? = some true ↔ Leans m js os t) → Q (.ref r) H'
theorem ok_lean {f : Addr} {fd : FuncData} (F : Fun K "leaned_on" "leaned_on" sLean f fd) (mr : mg "range" = none) (ml : mg "len" = none) (mv : mg "reversed" = none) : FnOk P w K mg base CX0 1 f fd ["many", "joins", "outs"] spLean := by
  refine F.ok scLean (fun vs H Q E h => ?_) (fun cdv A outer s H vs Q E hr h => ?_)
  · obtain ⟨a, o, m, rs, js, os, rfl, _⟩ := h
    rfl
  obtain ⟨a, o, m, rs, js, os, rfl, hA, hP, hO, hx, hm, hl, ho, q⟩ := h
  refine ⟨_, pss_cons (ps_set (i := 3) scLean.nd rfl (Or.inl rfl) (pe_op op_rep (pe_lst (pa_cons pe_bl pa_nil)) (pe_op op_add (pv 0) (pe_callB call_len_seq (by rfl) ml PySem.boot_len (pa_cons (pv 1) pa_nil)))))
    (pss_cons (ps_for PassesOwn.never rfl (pi_list (pv 2)) (pg_name (i := 4) scLean.nd rfl (Or.inl rfl)) (pss_one (ps_asg pe_bl (pg_sub (pv 3) (pv 4) set_list))))
    (pss_cons (ps_for PassesOwn.never rfl (pi_revR rfl mv (prg_1 rfl mr (pe_callB call_len_seq (by rfl) ml PySem.boot_len (pa_cons (pv 1) pa_nil)))) (pg_name (i := 5) scLean.nd rfl (Or.inl rfl))
        (pss_one (ps_if (pt_val (pe_ix ix_list (pv 3) (pe_op op_add (pv 0) (pv 5)) (fun _ _ => rfl)))
          (pss_cons (ps_asg pe_bl (pg_sub (pv 3) (pe_ix ix_tup (pe_ix ix_list (pv 1) (pv 5) (fun _ _ => rfl)) pe_int (fun _ _ => rfl)) set_list))
            (pss_one (ps_asg pe_bl (pg_sub (pv 3) (pe_ix ix_tup (pe_ix ix_list (pv 1) (pv 5) (fun _ _ => rfl)) pe_int (fun _ _ => rfl)) set_list)))) pss_nil)))
    (pss_one (ps_ret (pv 3))))), ?_⟩
  -- found = [False] * (many + len(joins))
  refine ⟨by decide, fun u hu => ?_⟩
  have sU := same_new hu (.lst [V.bl false])
  refine ⟨nv m, rfl, .ref a, rfl, a, _, rfl, .inl (SqL.of (sU _ _ hA)), (m : Int), ((rs.map V.ref).length : Int), rfl, rfl, ?_⟩
  have hlen : ((rs.map V.ref).length : Int) = (js.length : Int) := by rw [List.length_map, hP.1]
  rw [hlen]
  have hmn : (m : Int) + (js.length : Int) = ((m + js.length : Nat) : Int) := by omega
  refine ⟨u, _, _, rfl, rfl, upd_same, by omega, by omega, ?_, fun l hl0 => ?_⟩
  · rw [hmn, Int.toNat_natCast]
    show 1 * (m + js.length) ≤ sizeLine
    rw [Nat.one_mul]
    exact sz' (by omega)
  rw [hmn, Int.toNat_natCast, rep_bl]
  have l0 : H l = none := sU.free hl0
  have sL : Same H (upd (upd H u (.lst [V.bl false])) l (.lst ((List.replicate (m + js.length) false).map V.bl))) := sOwn sU l0 _
  -- for out in outs
  refine ⟨.ref o, rfl, o, rfl, ⟨_, SqL.of (sL _ _ hO)⟩, ?_⟩
  refine for_list (xs := os.map nv) (fun i σ H' => ∃ (y : Option V) (bs : List Bool), σ = [some (nv m), some (.ref a), some (.ref o), some (.ref l), y, none] ∧ Same H H' ∧ H' l = some (.lst (bs.map V.bl)) ∧ bs.length = m + js.length ∧ ∀ t, bs[t]? = some true ↔ t ∈ os.take i)
    ⟨none, _, rfl, sL, upd_same, List.length_replicate, fun t => ?_⟩ (fun i σ H' _ ⟨_, _, _, s1, _⟩ => SqL.of (s1 _ _ hO)) ?_ ?_
  · rw [List.getElem?_replicate]
    constructor
    · intro z
      split at z <;> cases z
    · intro z
      simp at z
  · rintro i x σ H' hi ⟨y, bs, rfl, s1, e1, hb, ht⟩
    rw [List.getElem?_map] at hi
    obtain ⟨v, ev, rfl⟩ := Option.map_eq_some_iff.mp hi
    have hv := ho v (List.mem_of_getElem? ev)
    refine ⟨.ref l, rfl, nv v, rfl, l, _, (v : Int), v, rfl, rfl, e1, by rw [List.length_map]; exact ixN_nat (by omega), ?_⟩
    refine ⟨_, bs.set v true, rfl, sOwn s1 l0 _, by rw [upd_same, set_bl], by rw [List.length_set]; exact hb, fun t => ?_⟩
    rw [set_true (by omega), ht t, take_succ ev, List.mem_append, List.mem_singleton]
    exact ⟨fun z => z.elim .inr .inl, fun z => z.elim .inr .inl⟩
  rintro σ H1 ⟨y, bs, rfl, s1, e1, hb, ht⟩
  rw [List.length_map, List.take_length] at ht
  -- for at in reversed(range(len(joins)))
  refine ⟨.ref a, rfl, a, _, rfl, .inl (SqL.of (s1 _ _ hA)), ((rs.map V.ref).length : Int), rfl, by decide, by decide, by omega, by omega, ?_⟩
  rw [hlen]
  have e0 : ((js.length : Int) - 0).toNat = js.length := by omega
  rw [e0]
  refine for_rangeC (n := js.length) (fun i σ H' => ∃ (y z : Option V) (bs : List Bool), σ = [some (nv m), some (.ref a), some (.ref o), some (.ref l), y, z] ∧ Same H H' ∧ H' l = some (.lst (bs.map V.bl)) ∧ bs.length = m + js.length ∧
      ∀ t, bs[t]? = some true ↔ t ∈ os ∨ ∃ (c : Nat) (ab : Nat × Nat), js.length - i ≤ c ∧ Leans m js os (m + c) ∧ js[c]? = some ab ∧ (t = ab.1 ∨ t = ab.2))
    ⟨y, none, bs, rfl, s1, e1, hb, fun t => ?_⟩ ?_ ?_
  · rw [ht t]
    refine ⟨.inl, fun z => z.elim id ?_⟩
    rintro ⟨c, ab, h1, _, h2, _⟩
    have := lt_of_get h2
    omega
  · rintro i σ H' hi ⟨y, z, bs, rfl, s2, e2, hb, ht⟩
    have ec : (0 : Int) + (js.length : Int) - 1 + (i : Int) * -1 = ((js.length - 1 - i : Nat) : Int) := by omega
    rw [ec]
    generalize hc : js.length - 1 - i = c at *
    have hcn : c < js.length := by omega
    obtain ⟨r, ab, er, ej, hrr⟩ := hP.get hcn
    obtain ⟨l1, l2⟩ := hx c ab ej
    obtain ⟨b, eb⟩ : ∃ b, bs[m + c]? = some b := ⟨_, List.getElem?_eq_getElem (by omega)⟩
    have hlean : bs[m + c]? = some true ↔ Leans m js os (m + c) := by
      rw [ht]
      constructor
      · rintro (q | ⟨d, cd, _, h2, h3, h4⟩)
        · exact .out q
        · rcases h4 with h4 | h4
          · rw [h4]; exact .lft h2 h3
          · rw [h4]; exact .rgt h2 h3
      · intro q
        rcases q.inv with q | ⟨d, cd, h2, h3, h4⟩
        · exact .inl q
        · refine .inr ⟨d, cd, ?_, h2, h3, h4⟩
          have := hx d cd h3
          rcases h4 with h4 | h4 <;> omega
    have eix : (m : Int) + (c : Int) = ((m + c : Nat) : Int) := by omega
    refine ⟨.ref l, rfl, nv m, rfl, nv c, rfl, (m : Int), (c : Int), rfl, rfl, l, _, _, _, rfl, rfl, SqL.of e2, by rw [eix]; exact at_bl eb, b, rfl, ?_⟩
    cases b with
    | true =>
      have hL := hlean.mp eb
      refine ⟨.ref l, rfl, .ref a, rfl, nv c, rfl, a, _, (c : Int), _, rfl, rfl, SqL.of (s2 _ _ hA), at_ref er, r, _, 0, nv ab.1, rfl, rfl, SqT.of (s2 _ _ hrr), atI_nat (j := 0) rfl, l, _, (ab.1 : Int), ab.1, rfl, rfl, e2, by rw [List.length_map]; exact ixN_nat (by omega), ?_⟩
      have s3 : Same H (upd H' l (.lst ((bs.map V.bl).set ab.1 (V.bl true)))) := sOwn s2 l0 _
      refine ⟨.ref l, rfl, .ref a, rfl, nv c, rfl, a, _, (c : Int), _, rfl, rfl, SqL.of (s3 _ _ hA), at_ref er, r, _, 1, nv ab.2, rfl, rfl, SqT.of (s3 _ _ hrr), atI_nat (j := 1) rfl, l, _, (ab.2 : Int), ab.2, rfl, rfl, upd_same, by rw [List.length_set, List.length_map]; exact ixN_nat (by omega), ?_⟩
      refine ⟨_, _, (bs.set ab.1 true).set ab.2 true, rfl, sOwn s3 l0 _, by rw [upd_same, set_bl, set_bl], by rw [List.length_set, List.length_set]; exact hb, fun t => ?_⟩
      rw [set_true (by rw [List.length_set]; omega), set_true (by omega), ht t]
      constructor
      · rintro (h | h | h | ⟨d, cd, h1, h2, h3, h4⟩)
        · exact .inr ⟨c, ab, by omega, hL, ej, .inr h⟩
        · exact .inr ⟨c, ab, by omega, hL, ej, .inl h⟩
        · exact .inl h
        · exact .inr ⟨d, cd, by omega, h2, h3, h4⟩
      · rintro (h | ⟨d, cd, h1, h2, h3, h4⟩)
        · exact .inr (.inr (.inl h))
        · by_cases hd : d = c
          · subst hd
            rw [ej] at h3
            cases h3
            rcases h4 with h4 | h4
            · exact .inr (.inl h4)
            · exact .inl h4
          · exact .inr (.inr (.inr ⟨d, cd, by omega, h2, h3, h4⟩))
    | false =>
      have hL : ¬ Leans m js os (m + c) := fun z => by
        have := hlean.mpr z
        rw [eb] at this
        cases this
      refine ⟨_, _, bs, rfl, s2, e2, hb, fun t => ?_⟩
      rw [ht t]
      constructor
      · rintro (h | ⟨d, cd, h1, h2, h3, h4⟩)
        · exact .inl h
        · exact .inr ⟨d, cd, by omega, h2, h3, h4⟩
      · rintro (h | ⟨d, cd, h1, h2, h3, h4⟩)
        · exact .inl h
        · refine .inr ⟨d, cd, ?_, h2, h3, h4⟩
          have : d ≠ c := fun z => hL (z ▸ h2)
          omega
  · rintro σ H' ⟨y, z, bs, rfl, s2, e2, hb, ht⟩
    refine ⟨.ref l, rfl, q H' l bs s2 l0 e2 hb fun t => ?_⟩
    rw [ht t]
    constructor
    · rintro (q | ⟨d, cd, _, h2, h3, h4⟩)
      · exact .out q
      · rcases h4 with h4 | h4
        · rw [h4]; exact .lft h2 h3
        · rw [h4]; exact .rgt h2 h3
    · intro q
      rcases q.inv with q | ⟨d, cd, h2, h3, h4⟩
      · exact .inl q
      · exact .inr ⟨d, cd, by omega, h2, h3, h4⟩
end
end K16
/-! ### numbered -/
namespace K16
open PySem PySem.Spec PyProof.Rows L2
/-- a list changes, the tuples stay -/
theorem tups_lst {H : Hp} {p : Addr} {xs : List V} (h : H p = some (.lst xs)) (o : HO) : Tups H (upd H p o) := fun b ys e => by
  rw [upd_ne (ne_of e h (by intro z; cases z))]
  exact e
theorem tups_new {H : Hp} {p : Addr} (h : H p = none) (o : HO) : Tups H (upd H p o) := Tups.of (same_new h o)
theorem rgV_num (m : Nat) (k : Nat → Bool) : rgV 0 (m : Int) = ((List.range (m + 0)).map (num m k)).map nv := by
  unfold rgV
  rw [List.map_map, Nat.add_zero, show ((m : Int) - 0).toNat = m by omega]
  refine List.map_congr_left fun i hi => ?_
  rw [List.mem_range] at hi
  show V.int (0 + (i : Int)) = nv (num m k i)
  unfold num nv
  rw [if_pos hi, Int.zero_add]
theorem num_get {m i t : Nat} {k : Nat → Bool} (h : t < i) : ((List.range i).map (num m k))[t]? = some (num m k t) := by
  rw [List.getElem?_map, List.getElem?_range h]; rfl
section
variable {P : Program} {w : World} {K : PySem.W.Frag} {mg : Str → Option Value} {base : Heap}
/-- the net of the kept joinings -/
def spNumb : Sp := fun vs H Q _ => ∃ (a o kp : Addr) (m : Nat) (rs : List Addr) (js : List (Nat × Nat)) (os : List Nat) (bs : List Bool), vs = [nv m, .ref a, .ref o, .ref kp] ∧ H a = some (.lst (rs.map V.ref)) ∧ Prs H rs js ∧ H o = some (.lst (os.map nv)) ∧
  H kp = some (.lst (bs.map V.bl)) ∧ bs.length = m + js.length ∧ Idx m js ∧ m ≤ 12 ∧ js.length ≤ 140 ∧ (∀ o ∈ os, o < m + js.length) ∧ os.length ≤ 24 ∧
  ∀ (H' : Hp) (r : Addr), Same H H' → NetAt H' r m (newJ m (fun i => bs.getD (m + i) false) js js.length) (os.map (num m fun i => bs.getD (m + i) false)) → Q (.ref r) H'
theorem ok_numb {f : Addr} {fd : FuncData} (F : Fun K "numbered" "numbered" sNumb f fd) (mr : mg "range" = none) (ml : mg "len" = none) (mi : mg "list" = none) (mt : mg "tuple" = none) : FnOk P w K mg base CX0 1 f fd ["many", "joins", "outs", "kept"] spNumb := by
  refine F.ok scNumb (fun vs H Q E h => ?_) (fun cdv A outer s H vs Q E hr h => ?_)
  · obtain ⟨a, o, kp, m, rs, js, os, bs, rfl, _⟩ := h
    rfl
  obtain ⟨a, o, kp, m, rs, js, os, bs, rfl, hA, hP, hO, hK, hb, hx, hm, hl, ho, hol, q⟩ := h
  generalize hk : (fun i => bs.getD (m + i) false) = k at q
  refine ⟨_, pss_cons (ps_set (i := 4) scNumb.nd rfl (Or.inr rfl) (pe_listRg rfl rfl mi (prg_1 rfl mr (pv 0))))
    (pss_cons (ps_set (i := 5) scNumb.nd rfl (Or.inl rfl) (pe_lst pa_nil))
    (pss_cons (ps_for PassesOwn.never rfl (pi_range1 rfl mr (pa_cons (pe_callB call_len_seq (by rfl) ml PySem.boot_len (pa_cons (pv 1) pa_nil)) pa_nil)) (pg_name (i := 6) scNumb.nd rfl (Or.inl rfl))
        (pss_cons (ps_expr (pe_bm PySem.F.plainAttrs_list PySem.F.slot_list_append PySem.F.type_list_append mt_append (pv 4) (pa_cons (pe_op op_add (pv 0) (pe_callB call_len_seq (by rfl) ml PySem.boot_len (pa_cons (pv 5) pa_nil))) pa_nil)))
        (pss_one (ps_if (pt_val (pe_ix ix_list (pv 3) (pe_op op_add (pv 0) (pv 6)) (fun _ _ => rfl)))
          (pss_cons (ps_asg (pe_ix ix_list (pv 1) (pv 6) (fun _ _ => rfl)) (pg_tup rfl (pgs_cons (pg_name (i := 7) scNumb.nd rfl (Or.inl rfl)) (pgs_cons (pg_name (i := 8) scNumb.nd rfl (Or.inl rfl)) pgs_nil))))
            (pss_one (ps_expr (pe_bm PySem.F.plainAttrs_list PySem.F.slot_list_append PySem.F.type_list_append mt_append (pv 5)
              (pa_cons (pe_tup (pa_cons (pe_ix ix_list (pv 4) (pv 7) (fun _ _ => rfl)) (pa_cons (pe_ix ix_list (pv 4) (pv 8) (fun _ _ => rfl)) pa_nil))) pa_nil))))) pss_nil))))
    (pss_one (ps_ret (pe_tup (pa_cons (pv 0) (pa_cons (pe_callTy call_tuple_of (by rfl) mt (by decide +kernel) (pa_cons (pv 5) pa_nil))
      (pa_cons (pe_callTy call_tuple_of (by rfl) mt (by decide +kernel) (pa_cons (pe_lc (own := [("out", 9)]) (g := gName 9) (tt := tYes) rfl scNumb.nd (pi_list (pv 2))
          (blkOk_by (N := ["many", "joins", "outs", "kept", "numbers", "found", "at", "a", "b", "out"]) (sc := defScope sNumb) (by decide +kernel))
          (fun _ _ _ _ _ => pg_name (i := 9) scNumb.nd rfl (Or.inl rfl)) (fun _ _ _ _ _ => pts_nil) (fun _ _ _ _ _ => pe_ix (r := rIxL K) ix_list (pv 4) (pv 9) (fun _ _ => rfl))) pa_nil)) pa_nil)))))))), ?_⟩
  -- numbers = list(range(many)); found = []
  refine ⟨nv m, rfl, (m : Int), rfl, RgOk.of_le (by decide) (by omega) (by decide) (by omega), fun nm hnm => ?_⟩
  refine ⟨Nat.zero_le _, fun fl hfl => ?_⟩
  have nnf : nm ≠ fl := fun e => by rw [e, upd_same] at hfl; cases hfl
  have f0 : H fl = none := by rw [upd_ne nnf.symm] at hfl; exact hfl
  have s0 : Same H (upd (upd H nm (.lst (rgV 0 (m : Int)))) fl (.lst [])) := sOwn (same_new hnm _) f0 _
  -- for at in range(len(joins))
  have hlen : ((rs.map V.ref).length : Int) = (js.length : Int) := by rw [List.length_map, hP.1]
  refine ⟨.ref a, rfl, a, _, rfl, .inl (SqL.of (s0 _ _ hA)), ((rs.map V.ref).length : Int), rfl, by omega, by omega, ?_⟩
  rw [hlen, Int.toNat_natCast]
  refine for_range (lo := 0) (n := js.length) (fun i σ H' => ∃ (y6 y7 y8 : Option V) (qs : List Addr), σ = [some (nv m), some (.ref a), some (.ref o), some (.ref kp), some (.ref nm), some (.ref fl), y6, y7, y8, none] ∧ Same H H' ∧
      H' nm = some (.lst (((List.range (m + i)).map (num m k)).map nv)) ∧ H' fl = some (.lst (qs.map V.ref)) ∧ Prs H' qs (newJ m k js i))
    ⟨none, none, none, [], rfl, s0, by rw [upd_ne nnf, upd_same, rgV_num], upd_same, Prs.nil _⟩ ?_ ?_
  · rintro i σ H' hi ⟨y6, y7, y8, qs, rfl, s1, e1, e2, hQ⟩
    rw [Int.zero_add]
    have hql : qs.length = cnt k i := by rw [hQ.1, newJ_len]
    have hcl := cnt_le k i
    -- numbers.append(many + len(found))
    refine ⟨.ref nm, rfl, .inl ⟨rfl, _, SqL.of e1⟩, nv m, rfl, .ref fl, rfl, fl, _, rfl, .inl (SqL.of e2), (m : Int), _, rfl, rfl, nm, _, _, rfl, rfl, e1, by rw [List.length_map, List.length_map, List.length_range]; exact sz (by omega), ?_⟩
    have eapp : ((List.range (m + i)).map (num m k)).map nv ++ [V.int ((m : Int) + ((qs.map V.ref).length : Int))] = ((List.range (m + (i + 1))).map (num m k)).map nv := by
      rw [← Nat.add_assoc, List.range_succ, map_snoc, map_snoc, num_join]
      refine congrArg (fun z => _ ++ [z]) ?_
      unfold nv
      rw [List.length_map, hql]
      exact congrArg V.int (by omega)
    have s2 : Same H (upd H' nm (.lst (((List.range (m + i)).map (num m k)).map nv ++ [V.int ((m : Int) + ((qs.map V.ref).length : Int))]))) := sOwn s1 hnm _
    have t2 := tups_lst e1 (.lst (((List.range (m + i)).map (num m k)).map nv ++ [V.int ((m : Int) + ((qs.map V.ref).length : Int))]))
    have e2' : (upd H' nm (.lst (((List.range (m + i)).map (num m k)).map nv ++ [V.int ((m : Int) + ((qs.map V.ref).length : Int))]))) fl = some (.lst (qs.map V.ref)) := by rw [upd_ne nnf.symm]; exact e2
    have e1' : (upd H' nm (.lst (((List.range (m + i)).map (num m k)).map nv ++ [V.int ((m : Int) + ((qs.map V.ref).length : Int))]))) nm = some (.lst (((List.range (m + (i + 1))).map (num m k)).map nv)) := by rw [upd_same, eapp]
    have hQ' := hQ.mono t2
    -- if kept[many + at]
    obtain ⟨b, eb⟩ : ∃ b, bs[m + i]? = some b := ⟨_, List.getElem?_eq_getElem (by omega)⟩
    have kb : k i = b := by rw [← hk]; exact getD_of eb
    have eix : (m : Int) + (i : Int) = ((m + i : Nat) : Int) := by omega
    refine ⟨.ref kp, rfl, nv m, rfl, nv i, rfl, (m : Int), (i : Int), rfl, rfl, kp, _, _, _, rfl, rfl, SqL.of (s2 _ _ hK), by rw [eix]; exact at_bl eb, b, rfl, ?_⟩
    cases b with
    | false => exact ⟨_, _, _, qs, rfl, s2, e1', e2', by rw [newJ_f kb]; exact hQ'⟩
    | true =>
      obtain ⟨r, ab, er, ej, hrr⟩ := hP.get hi
      obtain ⟨l1, l2⟩ := hx i ab ej
      refine ⟨.ref a, rfl, nv i, rfl, a, _, (i : Int), _, rfl, rfl, SqL.of (s2 _ _ hA), at_ref er, ?_⟩
      refine ⟨r, _, rfl, SqT.of (s2 _ _ hrr), rfl, nv ab.1, [nv ab.2], rfl, nv ab.2, [], rfl, rfl, ?_⟩
      -- found.append((numbers[a], numbers[b]))
      refine ⟨.ref fl, rfl, .inl ⟨rfl, _, SqL.of e2'⟩, .ref nm, rfl, nv ab.1, rfl, nm, _, (ab.1 : Int), _, rfl, rfl, SqL.of e1', at_nv (num_get (by omega)), .ref nm, rfl, nv ab.2, rfl, nm, _, (ab.2 : Int), _, rfl, rfl, SqL.of e1', at_nv (num_get (by omega)), (by show 2 ≤ sizeLine; decide), fun t ht => ?_⟩
      have ntf : fl ≠ t := ne_of_none e2' ht
      have ntn : nm ≠ t := ne_of_none e1' ht
      refine ⟨fl, _, _, rfl, rfl, by rw [upd_ne ntf]; exact e2', by rw [List.length_map, hql]; exact sz (by omega), ?_⟩
      have ht0 : H t = none := s2.free ht
      refine ⟨_, _, _, qs ++ [t], rfl, sOwn (sOwn s2 ht0 _) f0 _, by rw [upd_ne nnf, upd_ne ntn]; exact e1', by rw [upd_same, map_snoc], ?_⟩
      rw [newJ_t kb]
      have ej' : nj m k js i = (num m k ab.1, num m k ab.2) := by unfold nj; rw [getD_of ej]
      rw [ej']
      refine Prs.snoc (hQ'.mono ((tups_new ht _).trans (tups_lst (by rw [upd_ne ntf]; exact e2') _))) ?_
      rw [upd_ne ntf.symm]
      exact upd_same
  · rintro σ H1 ⟨y6, y7, y8, qs, rfl, s1, e1, e2, hQ⟩
    -- return (many, tuple(found), tuple([numbers[out] for out in outs]))
    refine ⟨nv m, rfl, .ref fl, rfl, fl, _, rfl, .inl ⟨SqL.of e2, fun jt hjt => ?_⟩⟩
    have s2 := same_new hjt (.tup (qs.map V.ref))
    have hsj : Same H (upd H1 jt (.tup (qs.map V.ref))) := s1.trans s2
    refine ⟨.ref o, rfl, o, rfl, ⟨_, SqL.of (hsj _ _ hO)⟩, fun D hD => ?_⟩
    refine lc_list (xs := os.map nv) (fun i H' => Same (upd H1 jt (.tup (qs.map V.ref))) H' ∧ H' D = some (.lst (((os.take i).map (num m k)).map nv))) ⟨same_new hD _, upd_same⟩ (fun i H' hi ⟨s3, _⟩ => SqL.of (s3 _ _ (hsj _ _ hO))) ?_ ?_
    · rintro i x H' hi ⟨s3, e3⟩
      rw [List.getElem?_map] at hi
      obtain ⟨v, ev, rfl⟩ := Option.map_eq_some_iff.mp hi
      have hio := lt_of_get ev
      refine ⟨rfl, ?_⟩
      refine ⟨.ref nm, rfl, nv v, rfl, nm, _, (v : Int), _, rfl, rfl, SqL.of (s3 _ _ (s2 _ _ e1)), at_nv (num_get (ho v (List.mem_of_getElem? ev))), _, e3, by rw [List.length_map, List.length_map, List.length_take]; exact sz (by omega), sOwn s3 hD _, ?_⟩
      rw [upd_same, take_succ ev, map_snoc, map_snoc]
    · rintro H' ⟨s3, e3⟩
      rw [List.length_map, List.take_length] at e3
      refine ⟨D, _, rfl, .inl ⟨SqL.of e3, fun ot hot => ?_⟩⟩
      refine ⟨(by show 3 ≤ sizeLine; decide), fun p hp => ?_⟩
      have s4 := same_new hot (.tup ((os.map (num m k)).map nv))
      have s5 := same_new hp (.tup [nv m, V.ref jt, V.ref ot])
      have hjt2 := s5 _ _ (s4 _ _ (s3 _ _ (upd_same (H := H1) (a := jt) (o := .tup (qs.map V.ref)))))
      have hot2 := s5 _ _ (upd_same (H := H') (a := ot) (o := .tup ((os.map (num m k)).map nv)))
      refine q _ p (hsj.trans (s3.trans (s4.trans s5))) ⟨jt, ot, qs, upd_same, hjt2, ?_, hot2⟩
      exact hQ.mono (Tups.of (s2.trans (s3.trans (s4.trans s5))))
end
end K16
/-! ### tidied -/
namespace K16
open PySem PySem.Spec PyProof.Rows L2
abbrev sTidy : Stmt := topS 15
theorem scTidy : FnScope ["net", "many", "first", "joins", "outs", "a", "b", "out"] ["net"] (defScope sTidy) := ⟨rfl, rfl, rfl, by decide +kernel, rfl, by decide +kernel, by decide +kernel⟩
theorem min_nv (a b : Nat) : V.int (if ((b : Int)) < (a : Int) then (b : Int) else (a : Int)) = nv (min a b) := by
  unfold nv
  by_cases h : b < a
  · rw [if_pos (by omega)]; exact congrArg V.int (by omega)
  · rw [if_neg (by omega)]; exact congrArg V.int (by omega)
theorem max_nv (a b : Nat) : V.int (if ((b : Int)) > (a : Int) then (b : Int) else (a : Int)) = nv (max a b) := by
  unfold nv
  by_cases h : b > a
  · rw [if_pos (by omega)]; exact congrArg V.int (by omega)
  · rw [if_neg (by omega)]; exact congrArg V.int (by omega)
theorem first_get {R : List Nat} {t : Nat} (h : t < R.length) : (R.map fun x => R.idxOf x)[t]? = some (fstR R t) := by
  rw [List.getElem?_map, List.getElem?_eq_getElem h]
  unfold fstR
  rw [List.getD_eq_getElem?_getD, List.getElem?_eq_getElem h]
  rfl
/-- what leaned_on told, as tk says it -/
theorem bs_tk {m : Nat} {js : List (Nat × Nat)} {os : List Nat} {bs : List Bool} (hb : bs.length = m + js.length) (hx : Idx m js) (ho : ∀ o ∈ os, o < m + js.length)
    (ht : ∀ t, bs[t]? = some true ↔ Leans m (js.map (jF (rowsOf m js))) (os.map (fstR (rowsOf m js))) t) : (fun i => bs.getD (m + i) false) = tk m js os := by
  funext i
  rw [Bool.eq_iff_iff, tk_iff, ← ht, List.getD_eq_getElem?_getD]
  cases bs[m + i]? with
  | none => simp
  | some b => simp
section
variable {P : Program} {w : World} {K : PySem.W.Frag} {mg : Str → Option Value} {base : Heap}
/-- the tidied net -/
def spTidy : Sp := fun vs H Q _ => ∃ (p : Addr) (m : Nat) (js : List (Nat × Nat)) (os : List Nat), vs = [.ref p] ∧ NetAt H p m js os ∧ Idx m js ∧ m ≤ 12 ∧ js.length ≤ 140 ∧ (∀ o ∈ os, o < m + js.length) ∧ os.length ≤ 24 ∧
  ∀ (H' : Hp) (r : Addr), Same H H' → NetAt H' r m (tJ m js os) (tO m js os) → Q (.ref r) H'
theorem ok_tidy {f fR fF fL fN : Addr} {fd fdR fdF fdL fdN : FuncData} (F : Fun K "tidied" "tidied" sTidy f fd)
    (FR : Fun K "rows_of" "rows_of" sRows fR fdR) (bR : Binds K fdR ["net"] []) (gR : mg "rows_of" = some (.ref fR))
    (FF : Fun K "first_with" "first_with" sFirst fF fdF) (bF : Binds K fdF ["rows"] []) (gF : mg "first_with" = some (.ref fF))
    (FL : Fun K "leaned_on" "leaned_on" sLean fL fdL) (bL : Binds K fdL ["many", "joins", "outs"] []) (gL : mg "leaned_on" = some (.ref fL))
    (FN : Fun K "numbered" "numbered" sNumb fN fdN) (bN : Binds K fdN ["many", "joins", "outs", "kept"] []) (gN : mg "numbered" = some (.ref fN))
    (mr : mg "range" = none) (ml : mg "len" = none) (mv : mg "reversed" = none) (mi : mg "list" = none) (mt : mg "tuple" = none) (mmin : mg "min" = none) (mmax : mg "max" = none) : FnOk P w K mg base CX0 2 f fd ["net"] spTidy := by
  have GR : FnOk P w K mg base CX0 1 fR fdR ["net"] spRows := ok_rows FR mr
  have GF : FnOk P w K mg base CX0 1 fF fdF ["rows"] spFirst := ok_first FF mr ml
  have GL : FnOk P w K mg base CX0 1 fL fdL ["many", "joins", "outs"] spLean := ok_lean FL mr ml mv
  have GN : FnOk P w K mg base CX0 1 fN fdN ["many", "joins", "outs", "kept"] spNumb := ok_numb FN mr ml mi mt
  refine F.ok scTidy (fun vs H Q E h => ?_) (fun cdv A outer s H vs Q E hr h => ?_)
  · obtain ⟨p, m, js, os, rfl, _⟩ := h
    rfl
  obtain ⟨p, m, js, os, rfl, hN, hx, hm, hl, ho, hol, q⟩ := h
  refine ⟨_, pss_cons (ps_set (i := 1) scTidy.nd rfl (Or.inl rfl) (pe_ix ix_tup (pv 0) pe_int (fun _ _ => rfl)))
    (pss_cons (ps_set (i := 2) scTidy.nd rfl (Or.inr rfl) (pe_call GF hr rfl gF FF.kp bF .nil pass0 (pa_cons (pe_call GR hr rfl gR FR.kp bR .nil pass0 (pa_cons (pv 0) pa_nil)) pa_nil)))
    (pss_cons (ps_setLc (i := 3) (own := [("a", 5), ("b", 6)]) (g := gTup K 2 (gCons (gName 5) (gCons (gName 6) gNil))) (tt := tYes) rfl scTidy.nd rfl rfl (sw_true rfl rfl rfl (by decide +kernel))
        (pi_tup (pe_ix ix_tup (pv 0) pe_int (fun _ _ => rfl)))
        (blkOk_by (N := ["net", "many", "first", "joins", "outs", "a", "b", "out"]) (sc := defScope sTidy) (by decide +kernel))
        (fun _ _ _ _ _ => pg_tup rfl (pgs_cons (pg_name (i := 5) scTidy.nd rfl (Or.inl rfl)) (pgs_cons (pg_name (i := 6) scTidy.nd rfl (Or.inl rfl)) pgs_nil))) (fun _ _ _ _ _ => pts_nil)
        (fun _ _ _ _ _ => pe_tup (pa_cons (pe_callB (call_min2 rfl) (by rfl) mmin (by decide +kernel) (pa_cons (pe_ix (r := rIxL K) ix_list (pv 2) (pv 5) (fun _ _ => rfl)) (pa_cons (pe_ix (r := rIxL K) ix_list (pv 2) (pv 6) (fun _ _ => rfl)) pa_nil)))
          (pa_cons (pe_callB (call_max2 rfl) (by rfl) mmax (by decide +kernel) (pa_cons (pe_ix (r := rIxL K) ix_list (pv 2) (pv 5) (fun _ _ => rfl)) (pa_cons (pe_ix (r := rIxL K) ix_list (pv 2) (pv 6) (fun _ _ => rfl)) pa_nil))) pa_nil))))
    (pss_cons (ps_setLc (i := 4) (own := [("out", 7)]) (g := gName 7) (tt := tYes) rfl scTidy.nd rfl rfl (sw_true rfl rfl rfl (by decide +kernel))
        (pi_tup (pe_ix ix_tup (pv 0) pe_int (fun _ _ => rfl)))
        (blkOk_by (N := ["net", "many", "first", "joins", "outs", "a", "b", "out"]) (sc := defScope sTidy) (by decide +kernel))
        (fun _ _ _ _ _ => pg_name (i := 7) scTidy.nd rfl (Or.inl rfl)) (fun _ _ _ _ _ => pts_nil) (fun _ _ _ _ _ => pe_ix (r := rIxL K) ix_list (pv 2) (pv 7) (fun _ _ => rfl)))
    (pss_one (ps_ret (pe_call GN hr rfl gN FN.kp bN .nil pass0 (pa_cons (pv 1) (pa_cons (pv 3) (pa_cons (pv 4) (pa_cons (pe_call GL hr rfl gL FL.kp bL .nil pass0 (pa_cons (pv 1) (pa_cons (pv 3) (pa_cons (pv 4) pa_nil)))) pa_nil)))))))))), ?_⟩
  have hN0 := hN
  obtain ⟨jt, ot, rs, h1, h2, h3, h4⟩ := hN
  -- many = net[0]; first = first_with(rows_of(net))
  refine ⟨.ref p, rfl, p, _, 0, nv m, rfl, rfl, SqT.of h1, atI_nat (j := 0) rfl, ?_⟩
  refine ⟨.ref p, rfl, p, m, js, os, rfl, hN0, hx, hm, hl, fun H1 r1 s1 _ e1 => ?_⟩
  refine ⟨r1, rowsOf m js, rfl, e1, by rw [rows_len]; omega, fun H2 ff s2 _ e2 => ?_⟩
  have s12 := s1.trans s2
  generalize hR : rowsOf m js = R at e2
  have hRl : R.length = m + js.length := by rw [← hR, rows_len]
  -- joins
  refine ⟨.ref p, rfl, p, _, 1, .ref jt, rfl, rfl, SqT.of (s12 _ _ h1), atI_nat (j := 1) rfl, jt, rfl, ⟨_, SqT.of (s12 _ _ h2)⟩, fun D hD => ?_⟩
  refine lc_tup (xs := rs.map V.ref) (fun i H' => Same H2 H' ∧ ∃ qs, H' D = some (.lst (qs.map V.ref)) ∧ Prs H' qs ((js.take i).map (jF R))) ⟨same_new hD _, [], upd_same, Prs.nil _⟩ (fun i H' hi ⟨s3, _⟩ => SqT.of (s3 _ _ (s12 _ _ h2))) ?_ ?_
  · rintro i x H' hi ⟨s3, qs, e3, hQ⟩
    rw [List.getElem?_map] at hi
    obtain ⟨r, er, rfl⟩ := Option.map_eq_some_iff.mp hi
    have hij : i < js.length := by rw [← h3.1]; exact lt_of_get er
    obtain ⟨r', ab, er', ej, hrr⟩ := h3.get hij
    rw [er] at er'
    cases er'
    obtain ⟨l1, l2⟩ := hx i ab ej
    have hql : qs.length = i := by rw [hQ.1, List.length_map, List.length_take]; omega
    have g1 := first_get (R := R) (t := ab.1) (by omega)
    have g2 := first_get (R := R) (t := ab.2) (by omega)
    have ef := s3 _ _ e2
    refine ⟨r, _, rfl, SqT.of (s3 _ _ (s12 _ _ hrr)), rfl, nv ab.1, [nv ab.2], rfl, nv ab.2, [], rfl, rfl, rfl, ?_⟩
    refine ⟨.ref ff, rfl, nv ab.1, rfl, ff, _, (ab.1 : Int), _, rfl, rfl, SqL.of ef, at_nv g1, .ref ff, rfl, nv ab.2, rfl, ff, _, (ab.2 : Int), _, rfl, rfl, SqL.of ef, at_nv g2, _, _, rfl, ?_⟩
    refine ⟨.ref ff, rfl, nv ab.1, rfl, ff, _, (ab.1 : Int), _, rfl, rfl, SqL.of ef, at_nv g1, .ref ff, rfl, nv ab.2, rfl, ff, _, (ab.2 : Int), _, rfl, rfl, SqL.of ef, at_nv g2, _, _, rfl, ?_⟩
    rw [min_nv, max_nv]
    refine ⟨(by show 2 ≤ sizeLine; decide), fun t ht => ?_⟩
    have ntD : D ≠ t := ne_of_none e3 ht
    have et : (upd H' t (.tup [nv (min (fstR R ab.1) (fstR R ab.2)), nv (max (fstR R ab.1) (fstR R ab.2))])) D = some (.lst (qs.map V.ref)) := by rw [upd_ne ntD]; exact e3
    refine ⟨_, et, by rw [List.length_map, hql]; exact sz (by omega), sOwn (sOwn s3 (s3.free ht) _) hD _, qs ++ [t], by rw [upd_same, map_snoc], ?_⟩
    rw [take_succ ej, map_snoc]
    refine Prs.snoc (hQ.mono ((tups_new ht _).trans (tups_lst et _))) ?_
    rw [upd_ne ntD.symm]
    exact upd_same
  · rintro H3 ⟨s3, qs, e3, hQ⟩
    rw [List.length_map, h3.1, List.take_length] at hQ
    have s13 := s12.trans s3
    -- outs
    refine ⟨.ref p, rfl, p, _, 2, .ref ot, rfl, rfl, SqT.of (s13 _ _ h1), atI_nat (j := 2) rfl, ot, rfl, ⟨_, SqT.of (s13 _ _ h4)⟩, fun D2 hD2 => ?_⟩
    refine lc_tup (xs := os.map nv) (fun i H' => Same H3 H' ∧ H' D2 = some (.lst (((os.take i).map (fstR R)).map nv))) ⟨same_new hD2 _, upd_same⟩ (fun i H' hi ⟨s4, _⟩ => SqT.of (s4 _ _ (s13 _ _ h4))) ?_ ?_
    · rintro i x H' hi ⟨s4, e4⟩
      rw [List.getElem?_map] at hi
      obtain ⟨v, ev, rfl⟩ := Option.map_eq_some_iff.mp hi
      have hio := lt_of_get ev
      have hvo := ho v (List.mem_of_getElem? ev)
      refine ⟨rfl, ?_⟩
      refine ⟨.ref ff, rfl, nv v, rfl, ff, _, (v : Int), _, rfl, rfl, SqL.of (s4 _ _ (s3 _ _ e2)), at_nv (first_get (R := R) (by omega)), _, e4, by rw [List.length_map, List.length_map, List.length_take]; exact sz (by omega), sOwn s4 hD2 _, ?_⟩
      rw [upd_same, take_succ ev, map_snoc, map_snoc]
    · rintro H4 ⟨s4, e4⟩
      rw [List.length_map, List.take_length] at e4
      have hQ4 := hQ.mono (Tups.of s4)
      have hx' : Idx m (js.map (jF R)) := by rw [← hR]; exact jF_idx hx
      have ho' : ∀ o ∈ os.map (fstR R), o < m + (js.map (jF R)).length := by rw [List.length_map, ← hR]; exact fO_lt ho
      refine ⟨nv m, rfl, .ref D, rfl, .ref D2, rfl, nv m, rfl, .ref D, rfl, .ref D2, rfl, D, D2, m, qs, js.map (jF R), os.map (fstR R), rfl, s4 _ _ e3, hQ4, e4, hx', hm, by rw [List.length_map]; exact hl, ho', fun H5 kp bs s5 _ e5 hb ht => ?_⟩
      refine ⟨D, D2, kp, m, qs, js.map (jF R), os.map (fstR R), bs, rfl, s5 _ _ (s4 _ _ e3), hQ4.mono (Tups.of s5), s5 _ _ e4, e5, hb, hx', hm, by rw [List.length_map]; exact hl, ho', by rw [List.length_map]; exact hol, fun H6 r s6 hr6 => ?_⟩
      have etk : (fun i => bs.getD (m + i) false) = tk m js os := bs_tk (by rw [hb, List.length_map]) hx ho (by rw [hR]; exact ht)
      rw [etk, List.length_map, ← hR] at hr6
      exact q H6 r (s13.trans (s4.trans (s5.trans s6))) hr6
end
end K16
/-! ### is_number, is_joining, is_list_of_outs, is_net -/
namespace K16
open PySem PySem.Spec PyProof.Rows L2
abbrev sNum : Stmt := topS 4
abbrev sJoin : Stmt := topS 5
abbrev sOuts : Stmt := topS 6
abbrev sNet : Stmt := topS 7
theorem scNum : FnScope ["thing", "least", "beyond"] ["thing", "least", "beyond"] (defScope sNum) := ⟨rfl, rfl, rfl, by decide +kernel, rfl, by decide +kernel, by decide +kernel⟩
theorem scJoin : FnScope ["thing", "ahead"] ["thing", "ahead"] (defScope sJoin) := ⟨rfl, rfl, rfl, by decide +kernel, rfl, by decide +kernel, by decide +kernel⟩
theorem scOuts : FnScope ["thing", "many", "out"] ["thing", "many"] (defScope sOuts) := ⟨rfl, rfl, rfl, by decide +kernel, rfl, by decide +kernel, by decide +kernel⟩
theorem scNet : FnScope ["thing", "many", "joins", "outs", "rows", "joining", "k"] ["thing"] (defScope sNet) := ⟨rfl, rfl, rfl, by decide +kernel, rfl, by decide +kernel, by decide +kernel⟩
theorem bI : bootBuiltins "isinstance" = some (.builtin "isinstance") := by decide +kernel
theorem bInt : bootBuiltins "int" = some (.type "int") := by decide +kernel
theorem bBool : bootBuiltins "bool" = some (.type "bool") := by decide +kernel
theorem bTup : bootBuiltins "tuple" = some (.type "tuple") := by decide +kernel
theorem kII {K : PySem.W.Frag} : PySem.W.kitOne K (.type "int") (.type "int") = some true := kit_ty (by decide +kernel)
theorem kIB {K : PySem.W.Frag} : PySem.W.kitOne K (.type "int") (.type "bool") = some false := kit_ty (by decide +kernel)
theorem kTT {K : PySem.W.Frag} : PySem.W.kitOne K (.type "tuple") (.type "tuple") = some true := kit_ty (by decide +kernel)
section
variable {P : Program} {w : World} {K : PySem.W.Frag} {mg : Str → Option Value} {base : Heap}
/-- what is_net leans on -/
structure TxN (mg : Str → Option Value) : Prop where
  isi : mg "isinstance" = none
  int : mg "int" = none
  bool : mg "bool" = none
  tup : mg "tuple" = none
  len : mg "len" = none
  all : mg "all" = none
  rng : mg "range" = none
  g12 : ∃ t, mg "MOST_GIVENS" = some (.int 12 t)
  j132 : ∃ t, mg "MOST_JOINS" = some (.int 132 t)
  o24 : ∃ t, mg "MOST_OUTS" = some (.int 24 t)
def spNum : Sp := fun vs H Q _ => ∃ i lo hi : Int, vs = [.int i, .int lo, .int hi] ∧ lo ≤ i ∧ i < hi ∧ Q (.bl true) H
theorem ok_num {f : Addr} {fd : FuncData} (F : Fun K "is_number" "is_number" sNum f fd) (T : TxN mg) : FnOk P w K mg base CX0 1 f fd ["thing", "least", "beyond"] spNum := by
  refine F.ok scNum (fun vs H Q E h => ?_) (fun cdv A outer s H vs Q E hr h => ?_)
  · obtain ⟨i, lo, hi, rfl, _⟩ := h
    rfl
  obtain ⟨i, lo, hi, rfl, h1, h2, q⟩ := h
  refine ⟨_, pss_one (ps_ret (pe_and (pe_callB call_isi (by rfl) T.isi bI (pa_cons (pv 0) (pa_cons (pe_bltn (v := .ty "int") (by rfl) T.int bInt rfl) pa_nil)))
    (pe_and (pe_not (pe_callB call_isi (by rfl) T.isi bI (pa_cons (pv 0) (pa_cons (pe_bltn (v := .ty "bool") (by rfl) T.bool bBool rfl) pa_nil))))
      (pe_one (pe_chain op_le op_lt (pv 1) (pv 0) (pv 2)))))), ?_⟩
  refine ⟨.int i, rfl, .int i, .ty "int", _, _, true, rfl, .ty "int", .base (.int i), kII, true, rfl, ?_⟩
  refine ⟨.int i, rfl, .int i, .ty "bool", _, _, false, rfl, .ty "bool", .base (.int i), kIB, false, rfl, true, rfl, ?_⟩
  refine ⟨.int lo, rfl, .int i, rfl, lo, i, rfl, rfl, _, rfl, ?_⟩
  rw [decide_eq_true h1]
  refine iteT (B := Q (.bl false) H) ?_
  refine ⟨.int hi, rfl, i, hi, rfl, rfl, ?_⟩
  show Q (V.bl (decide (i < hi))) H
  rw [decide_eq_true h2]
  exact q
def spJoin : Sp := fun vs H Q _ => ∃ (r : Addr) (a b n : Int), vs = [.ref r, .int n] ∧ H r = some (.tup [.int a, .int b]) ∧ 0 ≤ a ∧ a < b ∧ b < n ∧ Q (.bl true) H
theorem ok_join {f fN : Addr} {fd fdN : FuncData} (F : Fun K "is_joining" "is_joining" sJoin f fd) (FN : Fun K "is_number" "is_number" sNum fN fdN) (bN : Binds K fdN ["thing", "least", "beyond"] []) (gN : mg "is_number" = some (.ref fN)) (T : TxN mg) : FnOk P w K mg base CX0 2 f fd ["thing", "ahead"] spJoin := by
  have GN : FnOk P w K mg base CX0 1 fN fdN ["thing", "least", "beyond"] spNum := ok_num FN T
  refine F.ok scJoin (fun vs H Q E h => ?_) (fun cdv A outer s H vs Q E hr h => ?_)
  · obtain ⟨r, a, b, n, rfl, _⟩ := h
    rfl
  obtain ⟨r, a, b, n, rfl, hr0, h1, h2, h3, q⟩ := h
  refine ⟨_, pss_cons (ps_if (PW.pt (pw_or (pt_not (pt_val (pe_callB call_isi (by rfl) T.isi bI (pa_cons (pv 0) (pa_cons (pe_bltn (v := .ty "tuple") (by rfl) T.tup bTup rfl) pa_nil)))))
      (pw_or1 (pt_cmpR op_ne (pe_callB call_len_seq (by rfl) T.len PySem.boot_len (pa_cons (pv 0) pa_nil)) pe_int (nomark _))))) (pss_one (ps_ret pe_bl)) pss_nil)
    (pss_one (ps_ret (pe_and (pe_call GN hr rfl gN FN.kp bN .nil pass0 (pa_cons (pe_ix ix_tup (pv 0) pe_int (fun _ _ => rfl)) (pa_cons pe_int (pa_cons (pv 1) pa_nil))))
      (pe_and (pe_call GN hr rfl gN FN.kp bN .nil pass0 (pa_cons (pe_ix ix_tup (pv 0) pe_int (fun _ _ => rfl)) (pa_cons pe_int (pa_cons (pv 1) pa_nil))))
        (pe_one (pe_cmpR op_lt (pe_ix ix_tup (pv 0) pe_int (fun _ _ => rfl)) (pe_ix ix_tup (pv 0) pe_int (fun _ _ => rfl)) (nomark _))))))), ?_⟩
  have e0 : ∀ {k : Nat} {v : V}, [V.int a, V.int b][k]? = some v → atI [V.int a, V.int b] (k : Int) = some v := fun h => atI_nat h
  refine ⟨.ref r, rfl, .ref r, .ty "tuple", _, _, true, rfl, .ty "tuple", .base (.tup hr0), kTT, true, rfl, ?_⟩
  refine ⟨.ref r, rfl, r, _, rfl, .inr (SqT.of hr0), rfl, _, rfl, ?_⟩
  refine iteNS (show V.int (([V.int a, V.int b].length : Nat) : Int) = V.int 2 from rfl) ?_
  refine ⟨.ref r, rfl, r, _, 0, _, rfl, rfl, SqT.of hr0, e0 (k := 0) rfl, .int n, rfl, a, 0, n, rfl, h1, by omega, true, rfl, ?_⟩
  refine ⟨.ref r, rfl, r, _, 1, _, rfl, rfl, SqT.of hr0, e0 (k := 1) rfl, .int n, rfl, b, 0, n, rfl, by omega, h3, true, rfl, ?_⟩
  refine ⟨.ref r, rfl, r, _, 0, _, rfl, rfl, SqT.of hr0, e0 (k := 0) rfl, .ref r, rfl, r, _, 1, _, rfl, rfl, SqT.of hr0, e0 (k := 1) rfl, a, b, rfl, rfl, ?_⟩
  show Q (V.bl (decide (a < b))) H
  rw [decide_eq_true h2]
  exact q
def spOuts : Sp := fun vs H Q _ => ∃ (o : Addr) (os : List Nat) (n : Int), vs = [.ref o, .int n] ∧ H o = some (.tup (os.map nv)) ∧ 1 ≤ os.length ∧ os.length ≤ 24 ∧ (∀ x ∈ os, (x : Int) < n) ∧ ∀ H', Same H H' → Q (.bl true) H'
theorem ok_outs {f fN : Addr} {fd fdN : FuncData} (F : Fun K "is_list_of_outs" "is_list_of_outs" sOuts f fd) (FN : Fun K "is_number" "is_number" sNum fN fdN) (bN : Binds K fdN ["thing", "least", "beyond"] []) (gN : mg "is_number" = some (.ref fN)) (T : TxN mg) : FnOk P w K mg base CX0 2 f fd ["thing", "many"] spOuts := by
  have GN : FnOk P w K mg base CX0 1 fN fdN ["thing", "least", "beyond"] spNum := ok_num FN T
  refine F.ok scOuts (fun vs H Q E h => ?_) (fun cdv A outer s H vs Q E hr h => ?_)
  · obtain ⟨o, os, n, rfl, _⟩ := h
    rfl
  obtain ⟨o, os, n, rfl, ho, h1, h2, h3, q⟩ := h
  obtain ⟨t24, g24⟩ := T.o24
  refine ⟨_, pss_cons (ps_if (PW.pt (pw_or (pt_not (pt_val (pe_callB call_isi (by rfl) T.isi bI (pa_cons (pv 0) (pa_cons (pe_bltn (v := .ty "tuple") (by rfl) T.tup bTup rfl) pa_nil)))))
      (pw_or (pt_cmpR op_lt (pe_callB call_len_seq (by rfl) T.len PySem.boot_len (pa_cons (pv 0) pa_nil)) pe_int (nomark _))
      (pw_or1 (pt_cmpR op_gt (pe_callB call_len_seq (by rfl) T.len PySem.boot_len (pa_cons (pv 0) pa_nil)) (pe_glob (v := .int 24) rfl g24 ⟨_, rfl⟩) (nomark _)))))) (pss_one (ps_ret pe_bl)) pss_nil)
    (pss_one (ps_ret (pe_callB (cr_all rfl) (by rfl) T.all (by decide +kernel) (pa_cons (pe_lc (own := [("out", 2)]) (g := gName 2) (tt := tYes) rfl scOuts.nd (pi_tup (pv 0))
        (blkOk_by (N := ["thing", "many", "out"]) (sc := defScope sOuts) (by decide +kernel))
        (fun _ _ _ _ _ => pg_name (i := 2) scOuts.nd rfl (Or.inl rfl)) (fun _ _ _ _ _ => pts_nil)
        (fun _ _ _ _ _ => pe_call GN hr rfl gN FN.kp bN .nil pass0 (pa_cons (pv 2) (pa_cons pe_int (pa_cons (pv 1) pa_nil))))) pa_nil)))), ?_⟩
  have hl : (((os.map nv).length : Nat) : Int) = (os.length : Int) := by rw [List.length_map]
  refine ⟨.ref o, rfl, .ref o, .ty "tuple", _, _, true, rfl, .ty "tuple", .base (.tup ho), kTT, true, rfl, ?_⟩
  refine ⟨.ref o, rfl, o, _, rfl, .inr (SqT.of ho), _, _, rfl, rfl, _, rfl, ?_⟩
  rw [hl, decide_eq_false (show ¬ (os.length : Int) < 1 by omega)]
  refine ⟨.ref o, rfl, o, _, rfl, .inr (SqT.of ho), _, _, rfl, rfl, _, rfl, ?_⟩
  rw [hl, decide_eq_false (show ¬ (24 : Int) < (os.length : Int) by omega)]
  refine ⟨.ref o, rfl, o, rfl, ⟨_, SqT.of ho⟩, fun D hD => ?_⟩
  refine lc_tup (xs := os.map nv) (fun i H' => Same H H' ∧ H' D = some (.lst ((List.replicate i true).map V.bl))) ⟨same_new hD _, upd_same⟩ (fun i H' hi ⟨s2, _⟩ => SqT.of (s2 _ _ ho)) ?_ ?_
  · rintro i x H' hi ⟨s2, e2⟩
    rw [List.getElem?_map] at hi
    obtain ⟨v, ev, rfl⟩ := Option.map_eq_some_iff.mp hi
    have hio := lt_of_get ev
    have hv := h3 v (List.mem_of_getElem? ev)
    refine ⟨rfl, ?_⟩
    refine ⟨nv v, rfl, .int n, rfl, (v : Int), 0, n, rfl, by omega, hv, _, e2, by rw [List.length_map, List.length_replicate]; exact sz (by omega), sOwn s2 hD _, ?_⟩
    rw [upd_same, List.replicate_succ', map_snoc]
  · rintro H' ⟨s2, e2⟩
    refine ⟨D, _, rfl, SqL.of e2, ?_⟩
    rw [show (List.replicate (os.map nv).length true).all id = true from List.all_eq_true.mpr fun b hb => (List.mem_replicate.mp hb).2]
    exact q H' s2
/-- a net is told to be one -/
def spNet : Sp := fun vs H Q _ => ∃ (p : Addr) (m : Nat) (js : List (Nat × Nat)) (os : List Nat), vs = [.ref p] ∧ NetAt H p m js os ∧ Net m js os ∧ ∀ H', Same H H' → Q (.bl true) H'
theorem ok_net {f fN fJ fO : Addr} {fd fdN fdJ fdO : FuncData} (F : Fun K "is_net" "is_net" sNet f fd) (FN : Fun K "is_number" "is_number" sNum fN fdN) (bN : Binds K fdN ["thing", "least", "beyond"] []) (gN : mg "is_number" = some (.ref fN))
    (FJ : Fun K "is_joining" "is_joining" sJoin fJ fdJ) (bJ : Binds K fdJ ["thing", "ahead"] []) (gJ : mg "is_joining" = some (.ref fJ))
    (FO : Fun K "is_list_of_outs" "is_list_of_outs" sOuts fO fdO) (bO : Binds K fdO ["thing", "many"] []) (gO : mg "is_list_of_outs" = some (.ref fO)) (T : TxN mg) : FnOk P w K mg base CX0 3 f fd ["thing"] spNet := by
  have GN : FnOk P w K mg base CX0 1 fN fdN ["thing", "least", "beyond"] spNum := ok_num FN T
  have GJ : FnOk P w K mg base CX0 2 fJ fdJ ["thing", "ahead"] spJoin := ok_join FJ FN bN gN T
  have GO : FnOk P w K mg base CX0 2 fO fdO ["thing", "many"] spOuts := ok_outs FO FN bN gN T
  refine F.ok scNet (fun vs H Q E h => ?_) (fun cdv A outer s H vs Q E hr h => ?_)
  · obtain ⟨p, m, js, os, rfl, _⟩ := h
    rfl
  obtain ⟨p, m, js, os, rfl, hN, n, q⟩ := h
  have hr1 : Room 1 _ := hr.mono (by decide)
  obtain ⟨t12, g12⟩ := T.g12
  obtain ⟨t132, g132⟩ := T.j132
  refine ⟨_, pss_cons (ps_if (PW.pt (pw_or (pt_not (pt_val (pe_callB call_isi (by rfl) T.isi bI (pa_cons (pv 0) (pa_cons (pe_bltn (v := .ty "tuple") (by rfl) T.tup bTup rfl) pa_nil)))))
      (pw_or (pt_cmpR op_ne (pe_callB call_len_seq (by rfl) T.len PySem.boot_len (pa_cons (pv 0) pa_nil)) pe_int (nomark _))
      (pw_or1 (pt_not (pt_val (pe_call GN hr1 rfl gN FN.kp bN .nil pass0 (pa_cons (pe_ix ix_tup (pv 0) pe_int (fun _ _ => rfl)) (pa_cons pe_int (pa_cons (pe_op op_add (pe_glob (v := .int 12) rfl g12 ⟨_, rfl⟩) pe_int) pa_nil)))))))))) (pss_one (ps_ret pe_bl)) pss_nil)
    (pss_cons (ps_asg (pv 0) (pg_tup rfl (pgs_cons (pg_name (i := 1) scNet.nd rfl (Or.inl rfl)) (pgs_cons (pg_name (i := 2) scNet.nd rfl (Or.inl rfl)) (pgs_cons (pg_name (i := 3) scNet.nd rfl (Or.inl rfl)) pgs_nil)))))
    (pss_cons (ps_if (PW.pt (pw_or (pt_not (pt_val (pe_callB call_isi (by rfl) T.isi bI (pa_cons (pv 2) (pa_cons (pe_bltn (v := .ty "tuple") (by rfl) T.tup bTup rfl) pa_nil)))))
      (pw_or1 (pt_cmpR op_gt (pe_callB call_len_seq (by rfl) T.len PySem.boot_len (pa_cons (pv 2) pa_nil)) (pe_glob (v := .int 132) rfl g132 ⟨_, rfl⟩) (nomark _))))) (pss_one (ps_ret pe_bl)) pss_nil)
    (pss_cons (ps_setLc (i := 4) (own := [("k", 6)]) (g := gName 6) (tt := tYes) rfl scNet.nd rfl rfl (sw_true rfl rfl rfl (by decide +kernel))
        (pi_range1 rfl T.rng (pa_cons (pv 1) pa_nil))
        (blkOk_by (N := ["thing", "many", "joins", "outs", "rows", "joining", "k"]) (sc := defScope sNet) (by decide +kernel))
        (fun _ _ _ _ _ => pg_name (i := 6) scNet.nd rfl (Or.inl rfl)) (fun _ _ _ _ _ => pts_nil) (fun _ _ _ _ _ => pe_op op_shl pe_int (pv 6)))
    (pss_cons (ps_for PassesOwn.never rfl (pi_tup (pv 2)) (pg_name (i := 5) scNet.nd rfl (Or.inl rfl))
        (pss_cons (ps_if (PW.pt (pw_or (pt_not (pt_val (pe_call GJ hr rfl gJ FJ.kp bJ .nil pass0 (pa_cons (pv 5) (pa_cons (pe_callB call_len_seq (by rfl) T.len PySem.boot_len (pa_cons (pv 4) pa_nil)) pa_nil)))))
            (pw_or1 (pt_cmpR op_eq (pe_ix ix_list (pv 4) (pe_ix ix_tup (pv 5) pe_int (fun _ _ => rfl)) (fun _ _ => rfl)) (pe_ix ix_list (pv 4) (pe_ix ix_tup (pv 5) pe_int (fun _ _ => rfl)) (fun _ _ => rfl)) (nomark _))))) (pss_one (ps_ret pe_bl)) pss_nil)
          (pss_one (ps_expr (pe_bm PySem.F.plainAttrs_list PySem.F.slot_list_append PySem.F.type_list_append mt_append (pv 4)
            (pa_cons (pe_op op_xor (pe_ix ix_list (pv 4) (pe_ix ix_tup (pv 5) pe_int (fun _ _ => rfl)) (fun _ _ => rfl)) (pe_ix ix_list (pv 4) (pe_ix ix_tup (pv 5) pe_int (fun _ _ => rfl)) (fun _ _ => rfl))) pa_nil))))))
    (pss_one (ps_ret (pe_call GO hr rfl gO FO.kp bO .nil pass0 (pa_cons (pv 3) (pa_cons (pe_callB call_len_seq (by rfl) T.len PySem.boot_len (pa_cons (pv 4) pa_nil)) pa_nil))))))))), ?_⟩
  obtain ⟨jt, ot, rs, h1, h2, h3, h4⟩ := hN
  have m1 := n.m1
  have m12 := n.m12
  have jl := n.jl
  have hx := n.idx
  have hjl : (((rs.map V.ref).length : Nat) : Int) = (js.length : Int) := by rw [List.length_map, h3.1]
  refine ⟨.ref p, rfl, .ref p, .ty "tuple", _, _, true, rfl, .ty "tuple", .base (.tup h1), kTT, true, rfl, ?_⟩
  refine ⟨.ref p, rfl, p, _, rfl, .inr (SqT.of h1), rfl, _, rfl, ?_⟩
  refine iteNS (show V.int (([nv m, V.ref jt, V.ref ot].length : Nat) : Int) = V.int 3 from rfl) ?_
  refine ⟨.ref p, rfl, p, _, 0, nv m, rfl, rfl, SqT.of h1, atI_nat (j := 0) rfl, 12, 1, rfl, rfl, (m : Int), 1, 13, rfl, by omega, by omega, true, rfl, ?_⟩
  -- many, joins, outs = thing
  refine ⟨.ref p, rfl, p, _, rfl, SqT.of h1, rfl, nv m, [.ref jt, .ref ot], rfl, .ref jt, [.ref ot], rfl, .ref ot, [], rfl, rfl, ?_⟩
  refine ⟨.ref jt, rfl, .ref jt, .ty "tuple", _, _, true, rfl, .ty "tuple", .base (.tup h2), kTT, true, rfl, ?_⟩
  refine ⟨.ref jt, rfl, jt, _, rfl, .inr (SqT.of h2), _, _, rfl, rfl, _, rfl, ?_⟩
  rw [hjl, decide_eq_false (show ¬ (132 : Int) < (js.length : Int) by omega)]
  -- rows
  refine ⟨nv m, rfl, (m : Int), rfl, by omega, by omega, fun D hD => ?_⟩
  rw [Int.toNat_natCast]
  refine lc_range (lo := 0) (n := m) (fun i H' => Same H H' ∧ H' D = some (.lst ((gvn i).map nv))) ⟨same_new hD _, upd_same⟩ (fun i H' hi ⟨s1, e1⟩ => ?_) (fun H1 ⟨s1, e1⟩ => ?_)
  · refine ⟨rfl, ?_⟩
    refine ⟨.int (0 + (i : Int)), rfl, 1, (0 + (i : Int)), rfl, rfl, ⟨by omega, by omega, by decide⟩, ?_⟩
    refine ⟨_, e1, by rw [List.length_map, gvn_len]; exact sz (by omega), sOwn s1 hD _, ?_⟩
    rw [upd_same, Int.zero_add, gvn_snoc]
  -- for joining in joins
  refine ⟨.ref jt, rfl, jt, rfl, ⟨_, SqT.of (s1 _ _ h2)⟩, ?_⟩
  refine for_tup (xs := rs.map V.ref) (fun i σ H' => ∃ y : Option V, σ = [some (.ref p), some (nv m), some (.ref jt), some (.ref ot), some (.ref D), y, none] ∧ Same H H' ∧ H' D = some (.lst ((rowsOf m (js.take i)).map nv)))
    ⟨none, rfl, s1, e1⟩ (fun i σ H' hi ⟨y, _, s2, e2⟩ => SqT.of (s2 _ _ h2)) ?_ ?_
  · rintro i x σ H' hi ⟨y, rfl, s2, e2⟩
    rw [List.getElem?_map] at hi
    obtain ⟨r, er, rfl⟩ := Option.map_eq_some_iff.mp hi
    have hij : i < js.length := by rw [← h3.1]; exact lt_of_get er
    obtain ⟨r', ab, er', ej, hrr⟩ := h3.get hij
    rw [er] at er'
    cases er'
    obtain ⟨l1, l2⟩ := n.lt i ab ej
    have hlen : ((((rowsOf m (js.take i)).map nv).length : Nat) : Int) = (m : Int) + (i : Int) := by rw [List.length_map, rows_len, List.length_take]; omega
    have g1 := get_take (m := m) (js := js) (i := i) (t := ab.1) (by omega) (Nat.le_of_lt hij)
    have g2 := get_take (m := m) (js := js) (i := i) (t := ab.2) l2 (Nat.le_of_lt hij)
    have hr2 := s2 _ _ hrr
    refine ⟨.ref r, rfl, .ref D, rfl, D, _, rfl, .inl (SqL.of e2), r, (ab.1 : Int), (ab.2 : Int), _, rfl, hr2, by omega, by omega, by rw [hlen]; omega, true, rfl, ?_⟩
    refine ⟨.ref D, rfl, .ref r, rfl, r, _, 0, nv ab.1, rfl, rfl, SqT.of hr2, atI_nat (j := 0) rfl, D, _, (ab.1 : Int), _, rfl, rfl, SqL.of e2, at_nv g1, .ref D, rfl, .ref r, rfl, r, _, 1, nv ab.2, rfl, rfl, SqT.of hr2, atI_nat (j := 1) rfl, D, _, (ab.2 : Int), _, rfl, rfl, SqL.of e2, at_nv g2, rfl, _, rfl, ?_⟩
    have hne := n.ne i ab ej
    rw [← row_take (i := i) (t := ab.1) (by omega) (Nat.le_of_lt hij), ← row_take (i := i) (t := ab.2) l2 (Nat.le_of_lt hij)] at hne
    rw [nv_dec, decide_eq_false (show ¬ (rowsOf m (js.take i)).getD ab.1 0 = (rowsOf m (js.take i)).getD ab.2 0 from hne)]
    refine ⟨.ref D, rfl, .inl ⟨rfl, _, SqL.of e2⟩, .ref D, rfl, .ref r, rfl, r, _, 0, nv ab.1, rfl, rfl, SqT.of hr2, atI_nat (j := 0) rfl, D, _, (ab.1 : Int), _, rfl, rfl, SqL.of e2, at_nv g1, .ref D, rfl, .ref r, rfl, r, _, 1, nv ab.2, rfl, rfl, SqT.of hr2, atI_nat (j := 1) rfl, D, _, (ab.2 : Int), _, rfl, rfl, SqL.of e2, at_nv g2, _, _, rfl, rfl, ?_⟩
    refine ⟨D, _, _, rfl, rfl, e2, by rw [List.length_map, rows_len, List.length_take]; exact sz (by omega), ?_⟩
    refine ⟨_, rfl, sOwn s2 hD _, ?_⟩
    rw [upd_same, rows_take_snoc ej, map_snoc, ← xor_nv]
  · rintro σ H' ⟨y, rfl, s2, e2⟩
    rw [List.length_map, h3.1, List.take_length] at e2
    have hlen : ((((rowsOf m js).map nv).length : Nat) : Int) = (m : Int) + (js.length : Int) := by rw [List.length_map, rows_len]; omega
    refine ⟨.ref ot, rfl, .ref D, rfl, D, _, rfl, .inl (SqL.of e2), ot, os, _, rfl, s2 _ _ h4, n.o1, n.o24, fun x hx => ?_, fun H2 s3 => q H2 (s2.trans s3)⟩
    have := n.ol x hx
    rw [hlen]
    omega
end
end K16
/-! ### the law's tape -/
namespace K16
open PySem PySem.Spec PyProof.Rows L2
abbrev sTape : Stmt := topS 17
abbrev sDraw : Stmt := topS 18
theorem scTape : FnScope ["_law_script"] ["_law_script"] (defScope sTape) := ⟨rfl, rfl, rfl, by decide +kernel, rfl, by decide +kernel, by decide +kernel⟩
theorem scDraw : FnScope ["_law_tape_here", "_law_many", "_law_found", "_law_spot", "_law_cells", "_law_cell", "_law_seed"] ["_law_tape_here", "_law_many"] (defScope sDraw) := ⟨rfl, rfl, rfl, by decide +kernel, rfl, by decide +kernel, by decide +kernel⟩
def kC : Key := Sum.inr "cells"
def kS : Key := Sum.inr "spot"
def kL : Key := Sum.inr "left"
theorem cs_ : ¬ kC = kS := by decide +kernel
theorem cl_ : ¬ kC = kL := by decide +kernel
theorem sl_ : ¬ kS = kL := by decide +kernel
def tapeD (c : Addr) (s l : Int) : List (Key × V) := [(kC, .ref c), (kS, .int s), (kL, .int l)]
theorem tape_c (c : Addr) (s l : Int) : valV (tapeD c s l) kC = some (.ref c) := valV_pos rfl
theorem tape_s (c : Addr) (s l : Int) : valV (tapeD c s l) kS = some (.int s) := by
  unfold tapeD
  rw [valV_neg cs_, valV_pos rfl]
theorem tape_l (c : Addr) (s l : Int) : valV (tapeD c s l) kL = some (.int l) := by
  unfold tapeD
  rw [valV_neg cl_, valV_neg sl_, valV_pos rfl]
theorem tape_ps (c : Addr) (s l s' : Int) : putK (tapeD c s l) kS (.int s') = tapeD c s' l := by
  unfold putK
  rw [valV_any, tape_s]
  show (if true = true then _ else _) = _
  rw [if_pos rfl]
  unfold tapeD
  simp only [List.map_cons, List.map_nil]
  rw [if_neg cs_, if_pos trivial, if_neg (fun e => sl_ e.symm)]
theorem tape_pl (c : Addr) (s l l' : Int) : putK (tapeD c s l) kL (.int l') = tapeD c s l' := by
  unfold putK
  rw [valV_any, tape_l]
  show (if true = true then _ else _) = _
  rw [if_pos rfl]
  unfold tapeD
  simp only [List.map_cons, List.map_nil]
  rw [if_neg cl_, if_neg sl_, if_pos trivial]
theorem tape_mk (c : Addr) (s l : Int) : mergeK [] [(kC, V.ref c), (kS, V.int s), (kL, V.int l)] = tapeD c s l := by
  show putK (putK (putK [] kC (.ref c)) kS (.int s)) kL (.int l) = tapeD c s l
  have e1 : putK ([] : List (Key × V)) kC (.ref c) = [(kC, V.ref c)] := putK_new _ valV_nil
  have v1 : valV [(kC, V.ref c)] kS = none := by rw [valV_neg cs_]; rfl
  have e2 : putK [(kC, V.ref c)] kS (.int s) = [(kC, V.ref c), (kS, V.int s)] := putK_new _ v1
  have v2 : valV [(kC, V.ref c), (kS, V.int s)] kL = none := by rw [valV_neg cl_, valV_neg sl_]; rfl
  rw [e1, e2]
  exact putK_new _ v2
/-- a tape at t, of which at most k draws were made, its cells at c -/
def Tape (c : Addr) (H : Hp) (t : Addr) (k : Nat) : Prop := ∃ (s l : Int) (ns : List Int), H t = some (.dK (tapeD c s l)) ∧ H c = some (.lst (ns.map V.int)) ∧ ns.length ≤ 63 ∧ 0 ≤ s ∧ s ≤ k ∧ 0 ≤ l
theorem Tape.le {c : Addr} {H : Hp} {t : Addr} {k j : Nat} (h : Tape c H t k) (hk : k ≤ j) : Tape c H t j := by
  obtain ⟨s, l, ns, h1, h2, h3, h4, h5, h6⟩ := h
  exact ⟨s, l, ns, h1, h2, h3, h4, by omega, h6⟩
theorem Tape.dict {c : Addr} {H : Hp} {t : Addr} {k : Nat} (h : Tape c H t k) : ∃ kvs, H t = some (.dK kvs) := by
  obtain ⟨s, l, ns, h1, _⟩ := h
  exact ⟨_, h1⟩
theorem Tape.cells {c : Addr} {H : Hp} {t : Addr} {k : Nat} (h : Tape c H t k) : ∃ xs, H c = some (.lst xs) := by
  obtain ⟨s, l, ns, _, h1, _⟩ := h
  exact ⟨_, h1⟩
theorem Tape.notup {c : Addr} {H : Hp} {t : Addr} {k : Nat} (h : Tape c H t k) : ∀ xs, H t ≠ some (.tup xs) := fun xs e => by
  obtain ⟨_, h1⟩ := h.dict
  rw [h1] at e
  cases e
theorem Tape.same {c : Addr} {H H' : Hp} {t : Addr} {k : Nat} (h : Tape c H t k) (s : Same H H') : Tape c H' t k := by
  obtain ⟨z, l, ns, h1, h2, r⟩ := h
  exact ⟨z, l, ns, s _ _ h1, s _ _ h2, r⟩
theorem Tape.other {c : Addr} {H : Hp} {t p : Addr} {k : Nat} (h : Tape c H t k) (h1 : p ≠ t) (h2 : p ≠ c) (o : HO) : Tape c (upd H p o) t k := by
  obtain ⟨z, l, ns, e1, e2, r⟩ := h
  exact ⟨z, l, ns, by rw [upd_ne h1.symm]; exact e1, by rw [upd_ne h2.symm]; exact e2, r⟩
theorem Tape.ne {c : Addr} {H : Hp} {t p : Addr} {k : Nat} (h : Tape c H t k) (hp : H p = none) : p ≠ t ∧ p ≠ c := by
  obtain ⟨kvs, e1⟩ := h.dict
  obtain ⟨xs, e2⟩ := h.cells
  exact ⟨(ne_of_none e1 hp).symm, (ne_of_none e2 hp).symm⟩
section
variable {P : Program} {w : World} {K : PySem.W.Frag} {mg : Str → Option Value} {base : Heap}
def spTape (K : PySem.W.Frag) : Sp := fun vs H Q _ => ∃ (a : Addr) (ns : List Int), vs = [.ref a] ∧ SqL K H a (ns.map V.int) ∧ ns.length ≤ 63 ∧ ∀ (H' : Hp) (t c : Addr), Same H H' → H t = none → Tape c H' t 0 → Q (.ref t) H'
theorem ok_tape {f : Addr} {fd : FuncData} (F : Fun K "_law_tape" "_law_tape" sTape f fd) : FnOk P w K mg base CX0 1 f fd ["_law_script"] (spTape K) := by
  refine F.ok scTape (fun vs H Q E h => ?_) (fun cdv A outer s H vs Q E hr h => ?_)
  · obtain ⟨a, ns, rfl, _⟩ := h
    rfl
  obtain ⟨a, ns, rfl, hS, hl, q⟩ := h
  refine ⟨_, pss_one (ps_ret (pe_disp (pps_cons pe_str (pe_slice sl_list (pv 0) po_none (po_some pe_int)) (pps_cons pe_str pe_int (pps_cons pe_str pe_int pps_nil))) (by rfl) (by rfl) (fun z => by cases z) (by decide))), ?_⟩
  intro p hp
  have sp := same_new hp (.dK [])
  refine ⟨.ref a, rfl, 63, rfl, a, _, rfl, sp.seq hS, fun c hc => ?_⟩
  have npc : p ≠ c := fun e => by rw [e, upd_same] at hc; cases hc
  have c0 : H c = none := sp.free hc
  refine ⟨by rw [upd_ne npc]; exact upd_same, [(kC, V.ref c), (kS, V.int 0), (kL, V.int 0)], rfl, by show 3 ≤ 15; decide, ?_⟩
  rw [tape_mk]
  refine q _ p c (sOwn (sOwn sp c0 _) hp _) hp ⟨0, 0, (ns.drop 0).take 63, upd_same, ?_, ?_, Int.le_refl 0, Int.le_refl 0, Int.le_refl 0⟩
  · rw [upd_ne npc.symm, upd_same]
    refine congrArg (fun z => some (HO.lst z)) ?_
    unfold cutV
    rw [show HT.sIx (ns.map V.int).length 0 none = 0 from HT.sIx_none _ _, show HT.sIx (ns.map V.int).length (ns.map V.int).length (some 63) = min 63 (ns.map V.int).length from HT.sIx_nat _ _ 63, List.length_map, List.map_take, List.map_drop, Nat.sub_zero]
    rw [Nat.min_eq_right hl, List.take_of_length_le (by rw [List.length_drop, List.length_map]; omega), List.take_of_length_le (by rw [List.length_drop, List.length_map]; omega)]
  · rw [List.length_take]
    omega
/-- a draw: some number below n, the tape alone changes -/
def spDraw : Sp := fun vs H Q _ => ∃ (t c : Addr) (n k : Nat), vs = [.ref t, nv n] ∧ Tape c H t k ∧ k ≤ 100000 ∧ 1 ≤ n ∧ n ≤ 1000 ∧ ∀ (v : Nat) (o : HO), v < n → Tape c (upd H t o) t (k + 1) → Q (nv v) (upd H t o)
theorem nv_of {v : Int} {n : Nat} (h0 : 0 ≤ v) (h1 : v < n) : V.int v = nv v.toNat ∧ v.toNat < n := by
  unfold nv
  rw [Int.toNat_of_nonneg h0]
  exact ⟨rfl, by omega⟩
theorem ok_draw {f : Addr} {fd : FuncData} (F : Fun K "_law_draw" "_law_draw" sDraw f fd) (ml : mg "len" = none) : FnOk P w K mg base CX0 1 f fd ["_law_tape_here", "_law_many"] spDraw := by
  refine F.ok scDraw (fun vs H Q E h => ?_) (fun cdv A outer s H vs Q E hr h => ?_)
  · obtain ⟨t, c, n, k, rfl, _⟩ := h
    rfl
  obtain ⟨t, c, n, k, rfl, ⟨sp, l, ns, h1, h2, h3, h4, h5, h6⟩, hk, n1, n2, q⟩ := h
  have hu := hu_of hr
  refine ⟨_, pss_cons (ps_if (pt_cmpR op_gt (pe_dget hu (pv 0) pe_str (fun _ _ => rfl)) pe_int (nomark _))
      (pss_cons (ps_set (i := 2) scDraw.nd rfl (Or.inl rfl) (pe_op op_mod (pe_dget hu (pv 0) pe_str (fun _ _ => rfl)) (pv 1)))
      (pss_cons (ps_dput hu (pv 0) pe_str (pe_op op_fdiv (pe_dget hu (pv 0) pe_str (fun _ _ => rfl)) (pv 1)) rfl)
      (pss_one (ps_ret (pv 2))))) pss_nil)
    (pss_cons (ps_set (i := 3) scDraw.nd rfl (Or.inl rfl) (pe_dget hu (pv 0) pe_str (fun _ _ => rfl)))
    (pss_cons (ps_dput hu (pv 0) pe_str (pe_op op_add (pv 3) pe_int) rfl)
    (pss_cons (ps_set (i := 4) scDraw.nd rfl (Or.inl rfl) (pe_dget hu (pv 0) pe_str (fun _ _ => rfl)))
    (pss_cons (ps_set (i := 5) scDraw.nd rfl (Or.inl rfl) pe_int)
    (C8.pss_cut (ps_if (pt_cmpR op_gt (pe_callB call_len_seq (by rfl) ml PySem.boot_len (pa_cons (pv 4) pa_nil)) pe_int (nomark _))
      (pss_one (ps_set (i := 5) scDraw.nd rfl (Or.inl rfl) (pe_ix ix_list (pv 4) (pe_op op_mod (pv 3) (pe_callB call_len_seq (by rfl) ml PySem.boot_len (pa_cons (pv 4) pa_nil))) (fun _ _ => rfl)))) pss_nil)
    (C8.pss_cut (ps_if (PW.pt (pw_and (pt_cmpR op_ge (pv 5) (pe_op op_pow pe_int pe_int) (nomark _)) (pw_and1 (pt_cmpR op_lt (pv 3) (pe_callB call_len_seq (by rfl) ml PySem.boot_len (pa_cons (pv 4) pa_nil)) (nomark _)))))
      (pss_cons (ps_dput hu (pv 0) pe_str (pe_op op_fdiv (pe_op op_sub (pv 5) (pe_op op_pow pe_int pe_int)) (pv 1)) rfl)
      (pss_one (ps_ret (pe_op op_mod (pe_op op_sub (pv 5) (pe_op op_pow pe_int pe_int)) (pv 1))))) pss_nil)
    (pss_cons (ps_set (i := 6) scDraw.nd rfl (Or.inl rfl) (pe_op op_mod (pe_op op_mul (pe_op op_add (pe_op op_add (pe_op op_add (pe_op op_mod (pv 5) pe_int) (pe_op op_mul (pe_op op_mul pe_int (pv 3)) (pv 3))) (pe_op op_mul pe_int (pv 3))) pe_int) pe_int) pe_int))
    (pss_one (ps_ret (pe_op op_mod (pe_op op_fdiv (pe_op op_mod (pe_op op_mul (pv 6) (pe_op op_add (pv 6) pe_int)) pe_int) pe_int) (pv 1))))))))))), ?_⟩
  have gL : ∀ {H' : Hp} {s' l' : Int}, H' t = some (.dK (tapeD c s' l')) → DGet H' t (.str "left") (some (.int l')) := fun {H' s' l'} e => by
    have z := DGet.k (k := kL) e
    rw [tape_l] at z
    exact z
  have gS : ∀ {H' : Hp} {s' l' : Int}, H' t = some (.dK (tapeD c s' l')) → DGet H' t (.str "spot") (some (.int s')) := fun {H' s' l'} e => by
    have z := DGet.k (k := kS) e
    rw [tape_s] at z
    exact z
  have gC : ∀ {H' : Hp} {s' l' : Int}, H' t = some (.dK (tapeD c s' l')) → DGet H' t (.str "cells") (some (.ref c)) := fun {H' s' l'} e => by
    have z := DGet.k (k := kC) e
    rw [tape_c] at z
    exact z
  have pL : ∀ {H' : Hp} {s' l' : Int} (x : Int), H' t = some (.dK (tapeD c s' l')) → DPut H' t (.str "left") (.int x) (upd H' t (.dK (tapeD c s' x))) := fun {H' s' l'} x e => by
    have z := DPut.k (k := kL) (v := .int x) e (by show 3 < sizeLine; decide)
    rw [tape_pl] at z
    exact z
  have pS : ∀ {H' : Hp} {s' l' : Int} (x : Int), H' t = some (.dK (tapeD c s' l')) → DPut H' t (.str "spot") (.int x) (upd H' t (.dK (tapeD c x l'))) := fun {H' s' l'} x e => by
    have z := DPut.k (k := kS) (v := .int x) e (by show 3 < sizeLine; decide)
    rw [tape_ps] at z
    exact z
  have nct : c ≠ t := ne_of h2 h1 (by intro z; cases z)
  have tp : ∀ (s' l' : Int), 0 ≤ s' → s' ≤ sp + 1 → 0 ≤ l' → Tape c (upd H t (.dK (tapeD c s' l'))) t (k + 1) := fun s' l' a b d => ⟨s', l', ns, upd_same, by rw [upd_ne nct]; exact h2, h3, a, by omega, d⟩
  have n1' : (0 : Int) < (n : Int) := by omega
  -- if tape['left'] > 0
  refine ⟨.ref t, rfl, t, .int l, rfl, gL h1, l, 0, rfl, rfl, _, rfl, ite2 (fun hl => ?_) (fun hl => ?_)⟩
  · have hl : 0 < l := of_decide_eq_true hl
    refine ⟨.ref t, rfl, t, .int l, rfl, gL h1, nv n, rfl, l, (n : Int), rfl, rfl, n1', ?_⟩
    refine ⟨.ref t, rfl, t, .int l, rfl, gL h1, nv n, rfl, l, (n : Int), rfl, rfl, ⟨n1', by omega⟩, .ref t, rfl, t, _, rfl, pL _ h1, ?_⟩
    obtain ⟨e1, e2⟩ := nv_of (Int.emod_nonneg l (Int.ne_of_gt n1')) (Int.emod_lt_of_pos l n1')
    refine ⟨_, rfl, ?_⟩
    show Q (V.int (l % (n : Int))) _
    rw [e1]
    exact q _ _ e2 (tp _ _ h4 (by omega) (Int.ediv_nonneg h6 (Int.le_of_lt n1')))
  -- spot = tape['spot'] ..
  refine ⟨.ref t, rfl, t, .int sp, rfl, gS h1, ?_⟩
  refine ⟨.int sp, rfl, sp, 1, rfl, rfl, .ref t, rfl, t, _, rfl, pS _ h1, ?_⟩
  refine ⟨.ref t, rfl, t, .ref c, rfl, gC upd_same, ?_⟩
  have h2' : (upd H t (.dK (tapeD c (sp + 1) l))) c = some (.lst (ns.map V.int)) := by rw [upd_ne nct]; exact h2
  -- the cell
  refine ⟨fun σ' H' => ∃ x : Int, σ' = [some (.ref t), some (nv n), none, some (.int sp), some (.ref c), some (.int x), none] ∧ H' = upd H t (.dK (tapeD c (sp + 1) l)), ?_, ?_⟩
  · refine ⟨.ref c, rfl, c, _, rfl, .inl (SqL.of h2'), _, 0, rfl, rfl, _, rfl, ite2 (fun hp => ?_) (fun hp => ⟨0, rfl, rfl⟩)⟩
    have hp : 0 < (((ns.map V.int).length : Nat) : Int) := of_decide_eq_true hp
    have b1 := Int.emod_nonneg sp (Int.ne_of_gt hp)
    have b2 := Int.emod_lt_of_pos sp hp
    have b3 : (sp % (((ns.map V.int).length : Nat) : Int)).toNat < ns.length := by rw [List.length_map] at b2 b1 ⊢; omega
    have b4 : atI (ns.map V.int) (sp % (((ns.map V.int).length : Nat) : Int)) = some (V.int ns[(sp % (((ns.map V.int).length : Nat) : Int)).toNat]) := by
      refine at_of (Int.toNat_of_nonneg b1).symm ?_
      rw [List.getElem?_map, List.getElem?_eq_getElem b3]
      rfl
    refine ⟨.ref c, rfl, .int sp, rfl, .ref c, rfl, c, _, rfl, .inl (SqL.of h2'), sp, _, rfl, rfl, hp, c, _, _, _, rfl, rfl, SqL.of h2', b4, _, rfl, rfl⟩
  rintro σ' H' ⟨x, rfl, rfl⟩
  -- a great cell
  refine ⟨fun σ' H' => σ' = [some (.ref t), some (nv n), none, some (.int sp), some (.ref c), some (.int x), none] ∧ H' = upd H t (.dK (tapeD c (sp + 1) l)), ?_, ?_⟩
  · refine ⟨.int x, rfl, 10, 18, rfl, rfl, ⟨by decide, by decide, by decide⟩, x, _, rfl, rfl, _, rfl, ite2 (fun hx => ?_) (fun hx => ⟨rfl, rfl⟩)⟩
    have hx : (10 : Int) ^ (18 : Int).toNat ≤ x := of_decide_eq_true hx
    refine ⟨.int sp, rfl, .ref c, rfl, c, _, rfl, .inl (SqL.of h2'), sp, _, rfl, rfl, _, rfl, ite2 (fun hp => ?_) (fun hp => ⟨rfl, rfl⟩)⟩
    have hd : 0 ≤ x - (10 : Int) ^ (18 : Int).toNat := by omega
    refine ⟨.int x, rfl, 10, 18, rfl, rfl, ⟨by decide, by decide, by decide⟩, x, _, rfl, rfl, nv n, rfl, _, (n : Int), rfl, rfl, ⟨n1', by omega⟩, .ref t, rfl, t, _, rfl, pL _ upd_same, ?_⟩
    refine ⟨.int x, rfl, 10, 18, rfl, rfl, ⟨by decide, by decide, by decide⟩, x, _, rfl, rfl, nv n, rfl, _, (n : Int), rfl, rfl, n1', ?_⟩
    obtain ⟨e1, e2⟩ := nv_of (Int.emod_nonneg (x - (10 : Int) ^ (18 : Int).toNat) (Int.ne_of_gt n1')) (Int.emod_lt_of_pos (x - (10 : Int) ^ (18 : Int).toNat) n1')
    show Q (V.int ((x - (10 : Int) ^ (18 : Int).toNat) % (n : Int))) _
    rw [e1, upd_upd]
    exact q _ _ e2 (tp _ _ (by omega) (by omega) (Int.ediv_nonneg hd (Int.le_of_lt n1')))
  rintro σ' H' ⟨rfl, rfl⟩
  -- seed
  have hsp : sp ≤ 100000 := by omega
  refine ⟨.int x, rfl, x, 2147483629, rfl, rfl, (by show (0 : Int) < 2147483629; decide), .int sp, rfl, 7919, sp, rfl, rfl, .inl ⟨by decide, by decide⟩, .int sp, rfl, 7919 * sp, sp, rfl, rfl, .inr ⟨by omega, by omega⟩, _, _, rfl, rfl, .int sp, rfl, 48271, sp, rfl, rfl, .inl ⟨by decide, by decide⟩, _, _, rfl, rfl, _, _, rfl, rfl, _, _, rfl, rfl, .inr ⟨by decide, by decide⟩, _, 2147483647, rfl, rfl, (by show (0 : Int) < 2147483647; decide), ?_⟩
  have z0 : 0 ≤ ((x % 2147483629 + 7919 * sp * sp + 48271 * sp + 1) * 69621 % 2147483647 : Int) := Int.emod_nonneg _ (by decide)
  have z1 : ((x % 2147483629 + 7919 * sp * sp + 48271 * sp + 1) * 69621 % 2147483647 : Int) < 2147483647 := Int.emod_lt_of_pos _ (by decide)
  have fin : ∀ z : Int, 0 ≤ z → z < 2147483647 → Q (.int (z * (z + 16807) % 2147483629 / 64 % (n : Int))) (upd H t (.dK (tapeD c (sp + 1) l))) := fun z z0 z1 => by
    obtain ⟨e1, e2⟩ := nv_of (Int.emod_nonneg (z * (z + 16807) % 2147483629 / 64) (Int.ne_of_gt n1')) (Int.emod_lt_of_pos (z * (z + 16807) % 2147483629 / 64) n1')
    rw [e1]
    exact q _ _ e2 (tp _ _ (by omega) (by omega) h6)
  refine ⟨_, rfl, _, rfl, _, 16807, rfl, rfl, _, _, rfl, rfl, .inl ⟨?_, ?_⟩, _, 2147483629, rfl, rfl, (by show (0 : Int) < 2147483629; decide), _, 64, rfl, rfl, ⟨by decide, by decide⟩, nv n, rfl, _, (n : Int), rfl, rfl, n1', fin _ z0 z1⟩
  · exact Int.lt_of_lt_of_le (by decide) z0
  · exact Int.lt_trans z1 (by decide)
end
end K16
/-! ### the law's own rows -/
namespace K16
open PySem PySem.Spec PyProof.Rows L2
abbrev sLRows : Stmt := topS 20
theorem scLRows : FnScope ["_law_net_here", "_law_rows_here", "_law_a", "_law_b", "_law_k"] ["_law_net_here"] (defScope sLRows) := ⟨rfl, rfl, rfl, by decide +kernel, rfl, by decide +kernel, by decide +kernel⟩
section
variable {P : Program} {w : World} {K : PySem.W.Frag} {mg : Str → Option Value} {base : Heap}
theorem ok_lrows {f : Addr} {fd : FuncData} (F : Fun K "_law_rows" "_law_rows" sLRows f fd) (mr : mg "range" = none) : FnOk P w K mg base CX0 1 f fd ["_law_net_here"] spRows := by
  refine F.ok scLRows (fun vs H Q E h => ?_) (fun cdv A outer s H vs Q E hr h => ?_)
  · obtain ⟨p, m, js, os, rfl, _⟩ := h
    rfl
  obtain ⟨p, m, js, os, rfl, hN, hx, hm, hl, q⟩ := h
  refine ⟨_, pss_cons (ps_setLc (i := 1) (own := [("_law_k", 4)]) (g := gName 4) (tt := tYes) rfl scLRows.nd rfl rfl (sw_true rfl rfl rfl (by decide +kernel))
        (pi_range1 rfl mr (pa_cons (pe_ix ix_tup (pv 0) pe_int (fun _ _ => rfl)) pa_nil))
        (blkOk_by (N := ["_law_net_here", "_law_rows_here", "_law_a", "_law_b", "_law_k"]) (sc := defScope sLRows) (by decide +kernel))
        (fun _ _ _ _ _ => pg_name (i := 4) scLRows.nd rfl (Or.inl rfl)) (fun _ _ _ _ _ => pts_nil) (fun _ _ _ _ _ => pe_op op_shl pe_int (pv 4)))
    (pss_cons (ps_for PassesOwn.never rfl (pi_tup (pe_ix ix_tup (pv 0) pe_int (fun _ _ => rfl)))
        (pg_tup rfl (pgs_cons (pg_name (i := 2) scLRows.nd rfl (Or.inl rfl)) (pgs_cons (pg_name (i := 3) scLRows.nd rfl (Or.inl rfl)) pgs_nil)))
        (pss_one (ps_expr (pe_bm PySem.F.plainAttrs_list PySem.F.slot_list_append PySem.F.type_list_append mt_append (pv 1)
          (pa_cons (pe_op op_xor (pe_ix ix_list (pv 1) (pv 2) (fun _ _ => rfl)) (pe_ix ix_list (pv 1) (pv 3) (fun _ _ => rfl))) pa_nil)))))
    (pss_one (ps_ret (pv 1)))), ?_⟩
  obtain ⟨jt, ot, rs, h1, h2, h3, h4⟩ := hN
  -- rows = [1 << k for k in range(net[0])]
  refine ⟨.ref p, rfl, p, _, 0, nv m, rfl, rfl, SqT.of h1, atI_nat (j := 0) rfl, (m : Int), rfl, by omega, by omega, fun D hD => ?_⟩
  rw [Int.toNat_natCast]
  refine lc_range (lo := 0) (n := m) (fun i H' => Same H H' ∧ H' D = some (.lst ((gvn i).map nv))) ⟨same_new hD _, upd_same⟩ (fun i H' hi ⟨s1, e1⟩ => ?_) (fun H1 ⟨s1, e1⟩ => ?_)
  · refine ⟨rfl, ?_⟩
    refine ⟨.int (0 + (i : Int)), rfl, 1, (0 + (i : Int)), rfl, rfl, ⟨by omega, by omega, by decide⟩, ?_⟩
    refine ⟨_, e1, by rw [List.length_map, gvn_len]; exact sz (by omega), sOwn s1 hD _, ?_⟩
    rw [upd_same, Int.zero_add, gvn_snoc]
  -- for a, b in net[1]
  refine ⟨.ref p, rfl, p, _, 1, .ref jt, rfl, rfl, SqT.of (s1 _ _ h1), atI_nat (j := 1) rfl, jt, rfl, ⟨_, SqT.of (s1 _ _ h2)⟩, ?_⟩
  refine for_tup (xs := rs.map V.ref) (fun i σ H' => ∃ y2 y3, σ = [some (.ref p), some (.ref D), y2, y3, none] ∧ Same H H' ∧ H' D = some (.lst ((rowsOf m (js.take i)).map nv)))
    ⟨none, none, rfl, s1, e1⟩ (fun i σ H' hi ⟨y2, y3, _, s2, e2⟩ => SqT.of (s2 _ _ h2)) ?_ ?_
  · rintro i x σ H' hi ⟨y2, y3, rfl, s2, e2⟩
    rw [List.getElem?_map] at hi
    obtain ⟨r, er, rfl⟩ := Option.map_eq_some_iff.mp hi
    have hij : i < js.length := by rw [← h3.1]; exact lt_of_get er
    obtain ⟨r', ab, er', ej, hrr⟩ := h3.get hij
    rw [er] at er'
    cases er'
    obtain ⟨l1, l2⟩ := hx i ab ej
    refine ⟨r, _, rfl, SqT.of (s2 _ _ hrr), rfl, nv ab.1, [nv ab.2], rfl, nv ab.2, [], rfl, rfl, ?_⟩
    have g1 := get_take l1 (Nat.le_of_lt hij)
    have g2 := get_take l2 (Nat.le_of_lt hij)
    refine ⟨.ref D, rfl, .inl ⟨rfl, _, SqL.of e2⟩, .ref D, rfl, nv ab.1, rfl, D, _, (ab.1 : Int), _, rfl, rfl, SqL.of e2, at_nv g1, .ref D, rfl, nv ab.2, rfl, D, _, (ab.2 : Int), _, rfl, rfl, SqL.of e2, at_nv g2, _, _, rfl, rfl, ?_⟩
    refine ⟨D, _, _, rfl, rfl, e2, by rw [List.length_map, rows_len, List.length_take]; exact sz (by omega), ?_⟩
    refine ⟨_, _, rfl, sOwn s2 hD _, ?_⟩
    rw [upd_same, rows_take_snoc ej, map_snoc, ← xor_nv]
  · rintro σ H' ⟨y2, y3, rfl, s2, e2⟩
    rw [List.length_map, h3.1, List.take_length] at e2
    exact ⟨.ref D, rfl, q H' D s2 hD e2⟩
end
end K16
/-! ### the law's net -/
namespace K16
open PySem PySem.Spec PyProof.Rows L2
abbrev sLNet : Stmt := topS 19
theorem scLNet : FnScope ["_law_tape_here", "_law_most", "_law_joins_most", "_law_many", "_law_rows_here", "_law_joins", "_law_way", "_law_turn", "_law_a", "_law_b", "_law_outs", "_law_k"] ["_law_tape_here", "_law_most", "_law_joins_most"] (defScope sLNet) := ⟨rfl, rfl, rfl, by decide +kernel, rfl, by decide +kernel, by decide +kernel⟩
/-- joinings as a net has them -/
def WJ (m : Nat) (js : List (Nat × Nat)) : Prop := (∀ (i : Nat) (ab : Nat × Nat), js[i]? = some ab → ab.1 < ab.2 ∧ ab.2 < m + i) ∧ ∀ (i : Nat) (ab : Nat × Nat), js[i]? = some ab → row m js ab.1 ≠ row m js ab.2
theorem WJ.nil (m : Nat) : WJ m [] := ⟨fun i ab e => by simp at e, fun i ab e => by simp at e⟩
theorem WJ.snoc {m : Nat} {js : List (Nat × Nat)} {ab : Nat × Nat} (h : WJ m js) (h1 : ab.1 < ab.2) (h2 : ab.2 < m + js.length) (h3 : row m js ab.1 ≠ row m js ab.2) : WJ m (js ++ [ab]) := by
  have cases_at : ∀ (i : Nat) (cd : Nat × Nat), (js ++ [ab])[i]? = some cd → (js[i]? = some cd ∧ i < js.length) ∨ (i = js.length ∧ cd = ab) := fun i cd e => by
    by_cases hi : i < js.length
    · rw [List.getElem?_append_left hi] at e
      exact .inl ⟨e, hi⟩
    · rw [List.getElem?_append_right (by omega)] at e
      have h0 := lt_of_get e
      have h0' : i = js.length := by simp at h0; omega
      rw [h0', Nat.sub_self] at e
      exact .inr ⟨h0', (Option.some.inj e).symm⟩
  refine ⟨fun i cd e => ?_, fun i cd e => ?_⟩
  · rcases cases_at i cd e with ⟨e, hi⟩ | ⟨rfl, rfl⟩
    · exact h.1 i cd e
    · exact ⟨h1, h2⟩
  · rcases cases_at i cd e with ⟨e, hi⟩ | ⟨rfl, rfl⟩
    · have := h.1 i cd e
      rw [row_app (by omega), row_app (by omega)]
      exact h.2 i cd e
    · rw [row_app (by omega), row_app (by omega)]
      exact h3
theorem minmax_rows {m : Nat} {js : List (Nat × Nat)} (a b : Nat) : rowsOf m (js ++ [(min a b, max a b)]) = rowsOf m js ++ [row m js a ^^^ row m js b] := by
  rw [rows_snoc]
  show rowsOf m js ++ [row m js (min a b) ^^^ row m js (max a b)] = _
  rcases Nat.le_total a b with h | h
  · rw [Nat.min_eq_left h, Nat.max_eq_right h]
  · rw [Nat.min_eq_right h, Nat.max_eq_left h, Nat.xor_comm]
theorem tups_nt {H : Hp} {t : Addr} (h : ∀ xs, H t ≠ some (.tup xs)) (o : HO) : Tups H (upd H t o) := fun b xs e => by
  rw [upd_ne (fun q => h xs (by rw [← q]; exact e))]
  exact e
theorem SameX.free {t : Addr} {H H' : Hp} {p : Addr} (s : SameX t H H') (n : p ≠ t) (h : H' p = none) : H p = none := by
  cases e : H p with
  | none => rfl
  | some o =>
    rw [s p o n e] at h
    cases h
/-- the state while the net is made: H0 stands but for the tape; the rows at R, the joinings at J -/
structure LS (t c R J : Addr) (H0 H : Hp) (m k : Nat) (js : List (Nat × Nat)) : Prop where
  same : SameX t H0 H
  tape : Tape c H t k
  rows : H R = some (.lst ((rowsOf m js).map nv))
  joins : ∃ qs : List Addr, H J = some (.lst (qs.map V.ref)) ∧ Prs H qs js
theorem LS.draw {t c R J : Addr} {H0 H : Hp} {m k : Nat} {js : List (Nat × Nat)} {o : HO} (l : LS t c R J H0 H m k js) (nR : R ≠ t) (nJ : J ≠ t) (h : Tape c (upd H t o) t (k + 1)) : LS t c R J H0 (upd H t o) m (k + 1) js := by
  obtain ⟨qs, e, p⟩ := l.joins
  exact ⟨l.same.trans (SameX.upd _ _ _), h, by rw [upd_ne nR]; exact l.rows, qs, by rw [upd_ne nJ]; exact e, p.mono (tups_nt l.tape.notup _)⟩
theorem LS.le {t c R J : Addr} {H0 H : Hp} {m k j : Nat} {js : List (Nat × Nat)} (l : LS t c R J H0 H m k js) (h : k ≤ j) : LS t c R J H0 H m j js := ⟨l.same, l.tape.le h, l.rows, l.joins⟩
/-- a new list of another's changes -/
theorem LS.own {t c R J D : Addr} {H0 H : Hp} {m k : Nat} {js : List (Nat × Nat)} {o : HO} (l : LS t c R J H0 H m k js) (h0 : H0 D = none) (h1 : D ≠ t) (h2 : D ≠ c) (h3 : D ≠ R) (h4 : D ≠ J) (ht : Tups H (upd H D o)) : LS t c R J H0 (upd H D o) m k js := by
  obtain ⟨qs, e, p⟩ := l.joins
  exact ⟨xOwn l.same h0 _, l.tape.other h1 h2 _, by rw [upd_ne h3.symm]; exact l.rows, qs, by rw [upd_ne h4.symm]; exact e, p.mono ht⟩
/-- one joining more -/
theorem LS.more {t c R J p : Addr} {H0 H : Hp} {m k : Nat} {js : List (Nat × Nat)} {qs : List Addr} {ab : Nat × Nat} {r : Nat} (l : LS t c R J H0 H m k js) (hR : H0 R = none) (hJ : H0 J = none) (nRt : R ≠ t) (nJt : J ≠ t) (nRc : R ≠ c) (nJc : J ≠ c) (nRJ : R ≠ J)
    (eJ : H J = some (.lst (qs.map V.ref))) (hQ : Prs H qs js) (hp : H p = none) (er : rowsOf m (js ++ [ab]) = rowsOf m js ++ [r]) :
    LS t c R J H0 (upd (upd (upd H p (.tup [nv ab.1, nv ab.2])) J (.lst (qs.map V.ref ++ [V.ref p]))) R (.lst ((rowsOf m js).map nv ++ [nv r]))) m k (js ++ [ab]) := by
  obtain ⟨npt, npc⟩ := l.tape.ne hp
  have npJ : J ≠ p := ne_of_none eJ hp
  have npR : R ≠ p := ne_of_none l.rows hp
  have hp0 : H0 p = none := l.same.free npt hp
  have eJ1 : (upd H p (.tup [nv ab.1, nv ab.2])) J = some (.lst (qs.map V.ref)) := by rw [upd_ne npJ]; exact eJ
  have eR2 : (upd (upd H p (.tup [nv ab.1, nv ab.2])) J (.lst (qs.map V.ref ++ [V.ref p]))) R = some (.lst ((rowsOf m js).map nv)) := by rw [upd_ne nRJ, upd_ne npR]; exact l.rows
  refine ⟨xOwn (xOwn (xOwn l.same hp0 _) hJ _) hR _, ((l.tape.other npt npc _).other nJt nJc _).other nRt nRc _, by rw [upd_same, er, map_snoc], qs ++ [p], by rw [upd_ne nRJ.symm, upd_same, map_snoc], ?_⟩
  refine Prs.snoc (hQ.mono ((tups_new hp _).trans ((tups_lst eJ1 _).trans (tups_lst eR2 _)))) ?_
  rw [upd_ne npR.symm, upd_ne npJ.symm, upd_same]
theorem maxv (L a : Nat) (hL : 1 ≤ L) : ∃ v, v < L ∧ V.int (if ((L : Int) - 1 - (a : Int) % 4) > 0 then ((L : Int) - 1 - (a : Int) % 4) else 0) = nv v := by
  by_cases h : ((L : Int) - 1 - (a : Int) % 4) > 0
  · rw [if_pos h]
    obtain ⟨e1, e2⟩ := nv_of (v := (L : Int) - 1 - (a : Int) % 4) (n := L) (by omega) (by omega)
    exact ⟨_, e2, e1⟩
  · rw [if_neg h]
    exact ⟨0, by omega, rfl⟩
theorem row_get {m : Nat} {js : List (Nat × Nat)} {t : Nat} (h : t < ((rowsOf m js).map nv).length) : (rowsOf m js)[t]? = some (row m js t) := by
  rw [List.length_map, rows_len] at h
  exact get_row h
section
variable {P : Program} {w : World} {K : PySem.W.Frag} {mg : Str → Option Value} {base : Heap}
/-- some net -/
def spLNet : Sp := fun vs H Q _ => ∃ (t c : Addr), vs = [.ref t, .int 12, .int 132] ∧ Tape c H t 0 ∧
  ∀ (H' : Hp) (p : Addr) (m : Nat) (js : List (Nat × Nat)) (os : List Nat), SameX t H H' → Tape c H' t 1000 → NetAt H' p m js os → Net m js os → Q (.ref p) H'
theorem ok_lnet {f fD : Addr} {fd fdD : FuncData} (F : Fun K "_law_net" "_law_net" sLNet f fd) (FD : Fun K "_law_draw" "_law_draw" sDraw fD fdD) (bD : Binds K fdD ["_law_tape_here", "_law_many"] []) (gD : mg "_law_draw" = some (.ref fD))
    (mr : mg "range" = none) (ml : mg "len" = none) (mt : mg "tuple" = none) (mmin : mg "min" = none) (mmax : mg "max" = none) : FnOk P w K mg base CX0 2 f fd ["_law_tape_here", "_law_most", "_law_joins_most"] spLNet := by
  have GD : FnOk P w K mg base CX0 1 fD fdD ["_law_tape_here", "_law_many"] spDraw := ok_draw FD ml
  refine F.ok scLNet (fun vs H Q E h => ?_) (fun cdv A outer s H vs Q E hr h => ?_)
  · obtain ⟨t, c, rfl, _⟩ := h
    rfl
  obtain ⟨t, c, rfl, hT, q⟩ := h
  refine ⟨_, pss_cons (ps_set (i := 3) scLNet.nd rfl (Or.inl rfl) (pe_op op_add pe_int (pe_call GD hr rfl gD FD.kp bD .nil pass0 (pa_cons (pv 0) (pa_cons (pv 1) pa_nil)))))
    (pss_cons (ps_set (i := 4) scLNet.nd rfl (Or.inr rfl) (pe_lc (own := [("_law_k", 11)]) (g := gName 11) (tt := tYes) rfl scLNet.nd
        (pi_range1 rfl mr (pa_cons (pv 3) pa_nil))
        (blkOk_by (N := ["_law_tape_here", "_law_most", "_law_joins_most", "_law_many", "_law_rows_here", "_law_joins", "_law_way", "_law_turn", "_law_a", "_law_b", "_law_outs", "_law_k"]) (sc := defScope sLNet) (by decide +kernel))
        (fun _ _ _ _ _ => pg_name (i := 11) scLNet.nd rfl (Or.inl rfl)) (fun _ _ _ _ _ => pts_nil) (fun _ _ _ _ _ => pe_op op_shl pe_int (pv 11))))
    (pss_cons (ps_set (i := 5) scLNet.nd rfl (Or.inl rfl) (pe_lst pa_nil))
    (pss_cons (ps_set (i := 6) scLNet.nd rfl (Or.inl rfl) (pe_call GD hr rfl gD FD.kp bD .nil pass0 (pa_cons (pv 0) (pa_cons pe_int pa_nil))))
    (pss_cons (ps_for PassesOwn.never rfl (pi_range1 rfl mr (pa_cons (pe_call GD hr rfl gD FD.kp bD .nil pass0 (pa_cons (pv 0) (pa_cons (pe_op op_add (pv 2) pe_int) pa_nil))) pa_nil)) (pg_name (i := 7) scLNet.nd rfl (Or.inl rfl))
        (pss_cons (ps_set (i := 8) scLNet.nd rfl (Or.inl rfl) (pe_call GD hr rfl gD FD.kp bD .nil pass0 (pa_cons (pv 0) (pa_cons (pe_callB call_len_seq (by rfl) ml PySem.boot_len (pa_cons (pv 4) pa_nil)) pa_nil))))
        (pss_cons (ps_set (i := 9) scLNet.nd rfl (Or.inl rfl) (pe_call GD hr rfl gD FD.kp bD .nil pass0 (pa_cons (pv 0) (pa_cons (pe_callB call_len_seq (by rfl) ml PySem.boot_len (pa_cons (pv 4) pa_nil)) pa_nil))))
        (C8.pss_cut (ps_if (pt_cmpR op_eq (pv 6) pe_int (nomark _)) (pss_one (ps_set (i := 9) scLNet.nd rfl (Or.inl rfl) (pe_op op_sub (pe_callB call_len_seq (by rfl) ml PySem.boot_len (pa_cons (pv 4) pa_nil)) pe_int))) pss_nil)
        (C8.pss_cut (ps_if (pt_cmpR op_eq (pv 6) pe_int (nomark _))
            (pss_cons (ps_set (i := 8) scLNet.nd rfl (Or.inl rfl) (pe_callB (call_max2 rfl) (by rfl) mmax (by decide +kernel) (pa_cons pe_int (pa_cons (pe_op op_sub (pe_op op_sub (pe_callB call_len_seq (by rfl) ml PySem.boot_len (pa_cons (pv 4) pa_nil)) pe_int) (pe_op op_mod (pv 8) pe_int)) pa_nil))))
            (pss_one (ps_set (i := 9) scLNet.nd rfl (Or.inl rfl) (pe_callB (call_max2 rfl) (by rfl) mmax (by decide +kernel) (pa_cons pe_int (pa_cons (pe_op op_sub (pe_op op_sub (pe_callB call_len_seq (by rfl) ml PySem.boot_len (pa_cons (pv 4) pa_nil)) pe_int) (pe_op op_mod (pv 9) pe_int)) pa_nil)))))) pss_nil)
        (pss_one (ps_if (pt_cmpR op_ne (pe_ix ix_list (pv 4) (pv 8) (fun _ _ => rfl)) (pe_ix ix_list (pv 4) (pv 9) (fun _ _ => rfl)) (nomark _))
          (pss_cons (ps_expr (pe_bm PySem.F.plainAttrs_list PySem.F.slot_list_append PySem.F.type_list_append mt_append (pv 5)
              (pa_cons (pe_tup (pa_cons (pe_callB (call_min2 rfl) (by rfl) mmin (by decide +kernel) (pa_cons (pv 8) (pa_cons (pv 9) pa_nil))) (pa_cons (pe_callB (call_max2 rfl) (by rfl) mmax (by decide +kernel) (pa_cons (pv 8) (pa_cons (pv 9) pa_nil))) pa_nil))) pa_nil)))
          (pss_one (ps_expr (pe_bm PySem.F.plainAttrs_list PySem.F.slot_list_append PySem.F.type_list_append mt_append (pv 4)
              (pa_cons (pe_op op_xor (pe_ix ix_list (pv 4) (pv 8) (fun _ _ => rfl)) (pe_ix ix_list (pv 4) (pv 9) (fun _ _ => rfl))) pa_nil))))) pss_nil)))))))
    (pss_cons (ps_set (i := 10) scLNet.nd rfl (Or.inl rfl) (pe_callTy call_tuple_of (by rfl) mt (by decide +kernel) (pa_cons (pe_lc (own := [("_law_turn", 7)]) (g := gName 7) (tt := tYes) rfl scLNet.nd
        (pi_range1 rfl mr (pa_cons (pe_op op_add pe_int (pe_call GD hr rfl gD FD.kp bD .nil pass0 (pa_cons (pv 0) (pa_cons pe_int pa_nil)))) pa_nil))
        (blkOk_by (N := ["_law_tape_here", "_law_most", "_law_joins_most", "_law_many", "_law_rows_here", "_law_joins", "_law_way", "_law_turn", "_law_a", "_law_b", "_law_outs", "_law_k"]) (sc := defScope sLNet) (by decide +kernel))
        (fun _ _ _ _ _ => pg_name (i := 7) scLNet.nd rfl (Or.inl rfl)) (fun _ _ _ _ _ => pts_nil)
        (fun _ _ _ _ _ => pe_call GD hr rfl gD FD.kp bD .nil pass0 (pa_cons (pv 0) (pa_cons (pe_callB (r := fun xs H Q => ∃ p ys, xs = [.ref p] ∧ (SqL K H p ys ∨ SqT K H p ys) ∧ Q (.int ys.length) H) call_len_seq (by rfl) ml PySem.boot_len (pa_cons (pv 4) pa_nil)) pa_nil)))) pa_nil)))
    (pss_one (ps_ret (pe_tup (pa_cons (pv 3) (pa_cons (pe_callTy call_tuple_of (by rfl) mt (by decide +kernel) (pa_cons (pv 5) pa_nil)) (pa_cons (pv 10) pa_nil))))))))))), ?_⟩
  -- many = 1 + draw
  refine ⟨.ref t, rfl, .int 12, rfl, t, c, 12, 0, rfl, hT, by omega, by omega, by omega, fun v0 o0 hv0 hT1 => ?_⟩
  refine ⟨1, (v0 : Int), rfl, rfl, ?_⟩
  have em : (1 : Int) + (v0 : Int) = ((1 + v0 : Nat) : Int) := by omega
  have hm1 : 1 ≤ 1 + v0 := by omega
  have hm12 : 1 + v0 ≤ 12 := by omega
  generalize hm : 1 + v0 = m at em hm1 hm12
  have x1 : SameX t H (upd H t o0) := SameX.upd _ _ _
  -- rows
  refine ⟨_, rfl, (1 + (v0 : Int)), rfl, by omega, by omega, fun R hR => ?_⟩
  rw [em, Int.toNat_natCast]
  obtain ⟨nRt, nRc⟩ := hT1.ne hR
  have hR0 : H R = none := x1.free nRt hR
  refine lc_range (lo := 0) (n := m) (fun i H' => Same (upd H t o0) H' ∧ H' R = some (.lst ((gvn i).map nv))) ⟨same_new hR _, upd_same⟩ (fun i H' hi ⟨s1, e1⟩ => ?_) (fun H2 ⟨s2, e2⟩ => ?_)
  · refine ⟨rfl, ?_⟩
    refine ⟨.int (0 + (i : Int)), rfl, 1, (0 + (i : Int)), rfl, rfl, ⟨by omega, by omega, by decide⟩, ?_⟩
    refine ⟨_, e1, by rw [List.length_map, gvn_len]; exact sz (by omega), sOwn s1 hR _, ?_⟩
    rw [upd_same, Int.zero_add, gvn_snoc]
  -- joins = []
  refine ⟨Nat.zero_le _, fun J hJ => ?_⟩
  have hT2 := hT1.same s2
  obtain ⟨nJt, nJc⟩ := hT2.ne hJ
  have nRJ : R ≠ J := ne_of_none e2 hJ
  have hJ0 : H J = none := x1.free nJt (s2.free hJ)
  have l0 : LS t c R J H (upd H2 J (.lst [])) m 1 [] := ⟨xOwn (x1.trans (SameX.of s2)) hJ0 _, hT2.other nJt nJc _, by rw [upd_ne nRJ]; exact e2, [], upd_same, Prs.nil _⟩
  -- way
  refine ⟨.ref t, rfl, t, c, 4, 1, rfl, l0.tape, by omega, by omega, by omega, fun wy o1 hwy hT3 => ?_⟩
  have l1 := l0.draw nRt nJt hT3
  -- for turn in range(draw)
  refine ⟨.ref t, rfl, .int 132, rfl, 132, 1, rfl, rfl, t, c, 133, 2, rfl, l1.tape, by omega, by omega, by omega, fun n o2 hn hT4 => ?_⟩
  have l2 := l1.draw nRt nJt hT4
  refine ⟨(n : Int), rfl, by omega, by omega, ?_⟩
  rw [Int.toNat_natCast]
  refine for_range (lo := 0) (n := n) (fun i σ H' => ∃ (y7 y8 y9 : Option V) (js : List (Nat × Nat)), σ = [some (.ref t), some (.int 12), some (.int 132), some (.int (1 + (v0 : Int))), some (.ref R), some (.ref J), some (nv wy), y7, y8, y9, none, none] ∧
      LS t c R J H H' m (3 + 2 * i) js ∧ js.length ≤ i ∧ WJ m js) ⟨none, none, none, [], rfl, l2, Nat.le_refl _, WJ.nil m⟩ ?_ ?_
  · rintro i σ H' hi ⟨y7, y8, y9, js, rfl, l, hj, wj⟩
    have hL : ((rowsOf m js).map nv).length = m + js.length := by rw [List.length_map, rows_len]
    -- the draws
    refine ⟨.ref t, rfl, .ref R, rfl, R, _, rfl, .inl (SqL.of l.rows), t, c, ((rowsOf m js).map nv).length, 3 + 2 * i, rfl, l.tape, by omega, by omega, by omega, fun a o3 ha hT5 => ?_⟩
    have l3 := l.draw nRt nJt hT5
    refine ⟨.ref t, rfl, .ref R, rfl, R, _, rfl, .inl (SqL.of l3.rows), t, c, ((rowsOf m js).map nv).length, 3 + 2 * i + 1, rfl, l3.tape, by omega, by omega, by omega, fun b o4 hb hT6 => ?_⟩
    have l4 := l3.draw nRt nJt hT6
    rw [hL] at ha hb
    -- if way == 1
    refine ⟨fun σ' H'' => ∃ b' : Nat, b' < m + js.length ∧ σ' = [some (.ref t), some (.int 12), some (.int 132), some (.int (1 + (v0 : Int))), some (.ref R), some (.ref J), some (nv wy), some (.int (0 + (i : Int))), some (nv a), some (nv b'), none, none] ∧ H'' = upd (upd H' t o3) t o4, ?_, ?_⟩
    · refine ⟨nv wy, rfl, rfl, _, rfl, ite2 (fun _ => ?_) (fun _ => ⟨b, hb, rfl, rfl⟩)⟩
      refine ⟨.ref R, rfl, R, _, rfl, .inl (SqL.of l4.rows), _, 1, rfl, rfl, m + js.length - 1, by omega, ?_, rfl⟩
      have e : V.int ((((rowsOf m js).map nv).length : Int) - 1) = nv (m + js.length - 1) := by
        rw [hL]
        unfold nv
        exact congrArg V.int (by omega)
      rw [← e]
      rfl
    rintro σ' H'' ⟨b1, hb1, rfl, rfl⟩
    -- if way == 2
    refine ⟨fun σ' H'' => ∃ a' b' : Nat, a' < m + js.length ∧ b' < m + js.length ∧ σ' = [some (.ref t), some (.int 12), some (.int 132), some (.int (1 + (v0 : Int))), some (.ref R), some (.ref J), some (nv wy), some (.int (0 + (i : Int))), some (nv a'), some (nv b'), none, none] ∧ H'' = upd (upd H' t o3) t o4, ?_, ?_⟩
    · refine ⟨nv wy, rfl, rfl, _, rfl, ite2 (fun _ => ?_) (fun _ => ⟨a, b1, ha, hb1, rfl, rfl⟩)⟩
      obtain ⟨va, hva, ea⟩ := maxv (m + js.length) a (by omega)
      obtain ⟨vb, hvb, eb⟩ := maxv (m + js.length) b1 (by omega)
      rw [← hL] at ea eb
      refine ⟨.ref R, rfl, R, _, rfl, .inl (SqL.of l4.rows), _, 1, rfl, rfl, nv a, rfl, (a : Int), 4, rfl, rfl, (by show (0 : Int) < 4; decide), _, _, rfl, rfl, 0, _, rfl, ?_⟩
      refine ⟨.ref R, rfl, R, _, rfl, .inl (SqL.of l4.rows), _, 1, rfl, rfl, nv b1, rfl, (b1 : Int), 4, rfl, rfl, (by show (0 : Int) < 4; decide), _, _, rfl, rfl, 0, _, rfl, ?_⟩
      refine ⟨va, vb, hva, hvb, ?_, rfl⟩
      rw [← ea, ← eb]
      rfl
    rintro σ' H'' ⟨a2, b2, ha2, hb2, rfl, rfl⟩
    -- if rows[a] != rows[b]
    refine ⟨.ref R, rfl, nv a2, rfl, R, _, (a2 : Int), _, rfl, rfl, SqL.of l4.rows, at_nv (get_row ha2), .ref R, rfl, nv b2, rfl, R, _, (b2 : Int), _, rfl, rfl, SqL.of l4.rows, at_nv (get_row hb2), rfl, _, rfl, ?_⟩
    rw [nv_dec]
    by_cases hne : row m js a2 = row m js b2
    · rw [decide_eq_true hne]
      exact ⟨_, _, _, js, rfl, l4.le (by omega), by omega, wj⟩
    · rw [decide_eq_false hne]
      obtain ⟨qs, eJ, hQ⟩ := l4.joins
      refine ⟨.ref J, rfl, .inl ⟨rfl, _, SqL.of eJ⟩, nv a2, rfl, nv b2, rfl, _, _, rfl, nv a2, rfl, nv b2, rfl, _, _, rfl, ?_⟩
      rw [min_nv, max_nv]
      refine ⟨(by show 2 ≤ sizeLine; decide), fun p hp => ?_⟩
      have npJ : J ≠ p := ne_of_none eJ hp
      have npR : R ≠ p := ne_of_none l4.rows hp
      have hql : qs.length = js.length := hQ.1
      refine ⟨J, _, _, rfl, rfl, by rw [upd_ne npJ]; exact eJ, by rw [List.length_map, hql]; exact sz (by omega), ?_⟩
      have lm := l4.more (ab := (min a2 b2, max a2 b2)) (r := row m js a2 ^^^ row m js b2) hR0 hJ0 nRt nJt nRc nJc nRJ eJ hQ hp (minmax_rows a2 b2)
      have eR : (upd (upd (upd (upd H' t o3) t o4) p (.tup [nv (min a2 b2), nv (max a2 b2)])) J (.lst (qs.map V.ref ++ [V.ref p]))) R = some (.lst ((rowsOf m js).map nv)) := by
        rw [upd_ne nRJ, upd_ne npR]
        exact l4.rows
      refine ⟨.ref R, rfl, .inl ⟨rfl, _, SqL.of eR⟩, .ref R, rfl, nv a2, rfl, R, _, (a2 : Int), _, rfl, rfl, SqL.of eR, at_nv (get_row ha2), .ref R, rfl, nv b2, rfl, R, _, (b2 : Int), _, rfl, rfl, SqL.of eR, at_nv (get_row hb2), _, _, rfl, rfl, ?_⟩
      refine ⟨R, _, _, rfl, rfl, eR, by rw [List.length_map, rows_len]; exact sz (by omega), ?_⟩
      rw [← xor_nv] at lm
      refine ⟨_, _, _, js ++ [(min a2 b2, max a2 b2)], rfl, lm.le (by omega), by rw [List.length_append]; show js.length + 1 ≤ i + 1; omega, wj.snoc ?_ ?_ ?_⟩
      · show min a2 b2 < max a2 b2
        have : a2 ≠ b2 := fun z => hne (by rw [z])
        omega
      · show max a2 b2 < m + js.length
        omega
      · show row m js (min a2 b2) ≠ row m js (max a2 b2)
        rcases Nat.le_total a2 b2 with z | z
        · rw [Nat.min_eq_left z, Nat.max_eq_right z]; exact hne
        · rw [Nat.min_eq_right z, Nat.max_eq_left z]; exact fun e => hne e.symm
  · rintro σ H5 ⟨y7, y8, y9, js, rfl, l, hj, wj⟩
    have hL : ((rowsOf m js).map nv).length = m + js.length := by rw [List.length_map, rows_len]
    -- outs
    refine ⟨.ref t, rfl, t, c, 24, 3 + 2 * n, rfl, l.tape, by omega, by omega, by omega, fun v o5 hv hT7 => ?_⟩
    have l6 := l.draw nRt nJt hT7
    refine ⟨1, (v : Int), rfl, rfl, (1 + (v : Int)), rfl, by omega, by omega, fun D hD => ?_⟩
    have en : ((1 : Int) + (v : Int)).toNat = 1 + v := by omega
    rw [en]
    obtain ⟨nDt, nDc⟩ := l6.tape.ne hD
    have nRD : R ≠ D := ne_of_none l6.rows hD
    obtain ⟨qs, eJ, hQ⟩ := l6.joins
    have nJD : J ≠ D := ne_of_none eJ hD
    have hD0 : H D = none := l6.same.free nDt hD
    refine lc_range (lo := 0) (n := 1 + v) (fun i H' => LS t c R J H H' m (4 + 2 * n + i) js ∧ ∃ os : List Nat, H' D = some (.lst (os.map nv)) ∧ os.length = i ∧ ∀ o ∈ os, o < m + js.length)
      ⟨(l6.own hD0 nDt nDc nRD.symm nJD.symm (tups_new hD _)).le (by omega), [], upd_same, rfl, fun o h => by simp at h⟩ (fun i H' hi ⟨l7, os, e7, ho1, ho2⟩ => ?_) (fun H' ⟨l7, os, e7, ho1, ho2⟩ => ?_)
    · refine ⟨rfl, ?_⟩
      refine ⟨.ref t, rfl, .ref R, rfl, R, _, rfl, .inl (SqL.of l7.rows), t, c, ((rowsOf m js).map nv).length, 4 + 2 * n + i, rfl, l7.tape, by omega, by omega, by omega, fun x o8 hx hT8 => ?_⟩
      have l8 := l7.draw nRt nJt hT8
      have e8 : (upd H' t o8) D = some (.lst (os.map nv)) := by rw [upd_ne nDt]; exact e7
      refine ⟨_, e8, by rw [List.length_map, ho1]; exact sz (by omega), (l8.own hD0 nDt nDc nRD.symm nJD.symm (tups_lst e8 _)), os ++ [x], by rw [upd_same, map_snoc], by rw [List.length_append, ho1]; rfl, fun o h => ?_⟩
      rw [List.mem_append, List.mem_singleton] at h
      rcases h with h | h
      · exact ho2 o h
      · rw [h, ← hL]; exact hx
    · -- the net
      refine ⟨D, _, rfl, .inl ⟨SqL.of e7, fun ot hot => ?_⟩⟩
      obtain ⟨qs, eJ, hQ⟩ := l7.joins
      have s1 := same_new hot (.tup (os.map nv))
      refine ⟨_, rfl, .ref J, rfl, J, _, rfl, .inl ⟨SqL.of (s1 _ _ eJ), fun jt hjt => ?_⟩⟩
      have s2 := same_new hjt (.tup (qs.map V.ref))
      refine ⟨_, rfl, (by show 3 ≤ sizeLine; decide), fun p hp => ?_⟩
      rw [em]
      have s3 := same_new hp (.tup [nv m, V.ref jt, V.ref ot])
      have s13 := s1.trans (s2.trans s3)
      refine q _ p m js os (l7.same.trans (SameX.of s13)) ((l7.tape.same s13).le (by omega)) ⟨jt, ot, qs, upd_same, s3 _ _ upd_same, hQ.mono (Tups.of s13), s3 _ _ (s2 _ _ upd_same)⟩ ?_
      exact ⟨hm1, hm12, by omega, wj.1, wj.2, by omega, by omega, ho2⟩
end
end K16
/-! ### the net with things more; are all leaned on -/
namespace K16
open PySem PySem.Spec PyProof.Rows L2
abbrev sLonger : Stmt := topS 21
abbrev sAll : Stmt := topS 22
theorem scLonger : FnScope ["_law_tape_here", "_law_net_here", "_law_rows_here", "_law_joins", "_law_turn", "_law_a", "_law_b"] ["_law_tape_here", "_law_net_here"] (defScope sLonger) := ⟨rfl, rfl, rfl, by decide +kernel, rfl, by decide +kernel, by decide +kernel⟩
theorem scAll : FnScope ["_law_net_here", "_law_met", "_law_out", "_law_at", "_law_thing"] ["_law_net_here"] (defScope sAll) := ⟨rfl, rfl, rfl, by decide +kernel, rfl, by decide +kernel, by decide +kernel⟩
theorem More.nil (m : Nat) (js : List (Nat × Nat)) : More m js [] := ⟨fun i ab e => by simp at e, fun i h => absurd h (Nat.not_lt_zero _)⟩
theorem More.sub {m : Nat} {js ex : List (Nat × Nat)} (h : More m js ex) {x : Nat} (hx : x ∈ rowsOf m (js ++ ex)) : x ∈ rowsOf m js := by
  obtain ⟨t, ht⟩ := List.getElem?_of_mem hx
  have hl := lt_of_get ht
  rw [rows_len, List.length_append] at hl
  have e : row m (js ++ ex) t = x := getD_of ht
  by_cases q : t < m + js.length
  · rw [row_app q] at e
    rw [← e]
    exact mem_getD (by rw [rows_len]; exact q)
  · have := h.old (t - (m + js.length)) (by omega)
    rw [show m + js.length + (t - (m + js.length)) = t by omega, e] at this
    exact this
theorem More.snoc {m : Nat} {js ex : List (Nat × Nat)} {ab : Nat × Nat} (h : More m js ex) (h1 : ab.1 < m + (js ++ ex).length) (h2 : ab.2 < m + (js ++ ex).length) (h3 : row m (js ++ ex) ab.1 ^^^ row m (js ++ ex) ab.2 ∈ rowsOf m (js ++ ex)) : More m js (ex ++ [ab]) := by
  rw [List.length_append] at h1 h2
  refine ⟨fun i cd e => ?_, fun i hi => ?_⟩
  · by_cases q : i < ex.length
    · rw [List.getElem?_append_left q] at e
      exact h.lt i cd e
    · rw [List.getElem?_append_right (by omega)] at e
      have h0 := lt_of_get e
      have h0' : i = ex.length := by simp at h0; omega
      rw [h0', Nat.sub_self] at e
      have e' : ab = cd := Option.some.inj e
      subst e'
      omega
  · rw [List.length_append] at hi
    have hi' : i < ex.length + 1 := hi
    rw [← List.append_assoc]
    by_cases q : i < ex.length
    · rw [row_app (by rw [List.length_append]; omega)]
      exact h.old i q
    · have hq : i = ex.length := by omega
      subst hq
      have e : row m (js ++ ex ++ [ab]) (m + js.length + ex.length) = row m (js ++ ex) ab.1 ^^^ row m (js ++ ex) ab.2 := by
        unfold row
        rw [rows_snoc]
        unfold jnR
        refine getD_of ?_
        rw [List.getElem?_append_right (by rw [rows_len, List.length_append]; omega), rows_len, List.length_append, show m + js.length + ex.length - (m + (js.length + ex.length)) = 0 by omega]
        rfl
      rw [e]
      exact h.sub h3
theorem inV_nv {x : Nat} : ∀ {ns : List Nat}, inV (nv x) (ns.map nv) = true → x ∈ ns
  | [], h => by simp [inV] at h
  | y :: r, h => by
    unfold inV at h
    rw [List.map_cons, List.any_cons, Bool.or_eq_true] at h
    rcases h with h | h
    · have e : ((y : Int) == (x : Int)) = true := h
      have e' : y = x := Int.ofNat.inj (eq_of_beq e)
      rw [e']
      exact List.mem_cons_self
    · exact List.mem_cons_of_mem _ (inV_nv (ns := r) h)
theorem flat_nvs (ns : List Nat) : (ns.map nv).all flatV = true := List.all_eq_true.mpr fun v h => by
  obtain ⟨n, _, rfl⟩ := List.mem_map.mp h
  rfl
section
variable {P : Program} {w : World} {K : PySem.W.Frag} {mg : Str → Option Value} {base : Heap}
def spLonger : Sp := fun vs H Q _ => ∃ (t c p : Addr) (m : Nat) (js : List (Nat × Nat)) (os : List Nat), vs = [.ref t, .ref p] ∧ Tape c H t 1000 ∧ NetAt H p m js os ∧ Net m js os ∧
  ∀ (H' : Hp) (r : Addr) (ex : List (Nat × Nat)), SameX t H H' → NetAt H' r m (js ++ ex) os → More m js ex → ex.length ≤ 6 → Q (.ref r) H'
theorem ok_longer {f fD fR : Addr} {fd fdD fdR : FuncData} (F : Fun K "_law_longer" "_law_longer" sLonger f fd) (FD : Fun K "_law_draw" "_law_draw" sDraw fD fdD) (bD : Binds K fdD ["_law_tape_here", "_law_many"] []) (gD : mg "_law_draw" = some (.ref fD))
    (FR : Fun K "_law_rows" "_law_rows" sLRows fR fdR) (bR : Binds K fdR ["_law_net_here"] []) (gR : mg "_law_rows" = some (.ref fR))
    (mr : mg "range" = none) (ml : mg "len" = none) (mi : mg "list" = none) (mt : mg "tuple" = none) : FnOk P w K mg base CX0 2 f fd ["_law_tape_here", "_law_net_here"] spLonger := by
  have GD : FnOk P w K mg base CX0 1 fD fdD ["_law_tape_here", "_law_many"] spDraw := ok_draw FD ml
  have GR : FnOk P w K mg base CX0 1 fR fdR ["_law_net_here"] spRows := ok_lrows FR mr
  refine F.ok scLonger (fun vs H Q E h => ?_) (fun cdv A outer s H vs Q E hr h => ?_)
  · obtain ⟨t, c, p, m, js, os, rfl, _⟩ := h
    rfl
  obtain ⟨t, c, p, m, js, os, rfl, hT, hN, n, q⟩ := h
  refine ⟨_, pss_cons (ps_set (i := 2) scLonger.nd rfl (Or.inl rfl) (pe_call GR hr rfl gR FR.kp bR .nil pass0 (pa_cons (pv 1) pa_nil)))
    (pss_cons (ps_set (i := 3) scLonger.nd rfl (Or.inl rfl) (pe_callTy call_list_of (by rfl) mi (by decide +kernel) (pa_cons (pe_ix ix_tup (pv 1) pe_int (fun _ _ => rfl)) pa_nil)))
    (pss_cons (ps_for PassesOwn.never rfl (pi_range1 rfl mr (pa_cons (pe_call GD hr rfl gD FD.kp bD .nil pass0 (pa_cons (pv 0) (pa_cons pe_int pa_nil))) pa_nil)) (pg_name (i := 4) scLonger.nd rfl (Or.inl rfl))
        (pss_cons (ps_set (i := 5) scLonger.nd rfl (Or.inl rfl) (pe_call GD hr rfl gD FD.kp bD .nil pass0 (pa_cons (pv 0) (pa_cons (pe_callB call_len_seq (by rfl) ml PySem.boot_len (pa_cons (pv 2) pa_nil)) pa_nil))))
        (pss_cons (ps_set (i := 6) scLonger.nd rfl (Or.inl rfl) (pe_call GD hr rfl gD FD.kp bD .nil pass0 (pa_cons (pv 0) (pa_cons (pe_callB call_len_seq (by rfl) ml PySem.boot_len (pa_cons (pv 2) pa_nil)) pa_nil))))
        (pss_one (ps_if (PW.pt (pw_and (pt_cmpR op_lt (pe_callB call_len_seq (by rfl) ml PySem.boot_len (pa_cons (pv 3) pa_nil)) pe_int (nomark _))
            (pw_and (pt_cmpR op_lt (pv 5) (pv 6) (nomark _))
            (pw_and1 (pt_cmpR op_in_seq (pe_op op_xor (pe_ix ix_list (pv 2) (pv 5) (fun _ _ => rfl)) (pe_ix ix_list (pv 2) (pv 6) (fun _ _ => rfl))) (pv 2) (by rfl))))))
          (pss_cons (ps_expr (pe_bm PySem.F.plainAttrs_list PySem.F.slot_list_append PySem.F.type_list_append mt_append (pv 3) (pa_cons (pe_tup (pa_cons (pv 5) (pa_cons (pv 6) pa_nil))) pa_nil)))
          (pss_one (ps_expr (pe_bm PySem.F.plainAttrs_list PySem.F.slot_list_append PySem.F.type_list_append mt_append (pv 2)
              (pa_cons (pe_op op_xor (pe_ix ix_list (pv 2) (pv 5) (fun _ _ => rfl)) (pe_ix ix_list (pv 2) (pv 6) (fun _ _ => rfl))) pa_nil))))) pss_nil)))))
    (pss_one (ps_ret (pe_tup (pa_cons (pe_ix ix_tup (pv 1) pe_int (fun _ _ => rfl)) (pa_cons (pe_callTy call_tuple_of (by rfl) mt (by decide +kernel) (pa_cons (pv 3) pa_nil)) (pa_cons (pe_ix ix_tup (pv 1) pe_int (fun _ _ => rfl)) pa_nil)))))))), ?_⟩
  have m12 := n.m12
  have jl := n.jl
  have hN0 := hN
  obtain ⟨jt, ot, rs, h1, h2, h3, h4⟩ := hN
  -- rows = _law_rows(net); joins = list(net[1])
  refine ⟨.ref p, rfl, p, m, js, os, rfl, hN0, n.idx, m12, by omega, fun H1 R s1 hR0 e1 => ?_⟩
  refine ⟨.ref p, rfl, p, _, 1, .ref jt, rfl, rfl, SqT.of (s1 _ _ h1), atI_nat (j := 1) rfl, jt, _, rfl, .inr (SqT.of (s1 _ _ h2)), fun J hJ => ?_⟩
  have hT1 := hT.same s1
  obtain ⟨nRt, nRc⟩ := hT.ne hR0
  obtain ⟨nJt, nJc⟩ := hT1.ne hJ
  have hJ0 : H J = none := s1.free hJ
  have nRJ : R ≠ J := ne_of_none e1 hJ
  have l0 : LS t c R J H (upd H1 J (.lst (rs.map V.ref))) m 1000 (js ++ []) := ⟨SameX.of (sOwn s1 hJ0 _), hT1.other nJt nJc _, by rw [upd_ne nRJ, List.append_nil]; exact e1, rs, upd_same, by rw [List.append_nil]; exact h3.mono (Tups.of (sOwn s1 hJ0 _))⟩
  -- for turn in range(draw(7))
  refine ⟨.ref t, rfl, t, c, 7, 1000, rfl, l0.tape, by omega, by omega, by omega, fun d o1 hd hT2 => ?_⟩
  have l1 := l0.draw nRt nJt hT2
  refine ⟨(d : Int), rfl, by omega, by omega, ?_⟩
  rw [Int.toNat_natCast]
  have pt : ∀ {H' : Hp}, SameX t H H' → Tups H H' := fun s => s.tups hT.notup
  refine for_range (lo := 0) (n := d) (fun i σ H' => ∃ (y4 y5 y6 : Option V) (ex : List (Nat × Nat)), σ = [some (.ref t), some (.ref p), some (.ref R), some (.ref J), y4, y5, y6] ∧ LS t c R J H H' m (1001 + 2 * i) (js ++ ex) ∧ ex.length ≤ i ∧ More m js ex)
    ⟨none, none, none, [], rfl, l1, Nat.le_refl _, More.nil m js⟩ ?_ ?_
  · rintro i σ H' hi ⟨y4, y5, y6, ex, rfl, l, hj, mo⟩
    have hal : (js ++ ex).length = js.length + ex.length := List.length_append
    have hL : ((rowsOf m (js ++ ex)).map nv).length = m + (js ++ ex).length := by rw [List.length_map, rows_len]
    refine ⟨.ref t, rfl, .ref R, rfl, R, _, rfl, .inl (SqL.of l.rows), t, c, ((rowsOf m (js ++ ex)).map nv).length, 1001 + 2 * i, rfl, l.tape, by omega, by have := n.m1; omega, by omega, fun a o3 ha hT5 => ?_⟩
    have l3 := l.draw nRt nJt hT5
    refine ⟨.ref t, rfl, .ref R, rfl, R, _, rfl, .inl (SqL.of l3.rows), t, c, ((rowsOf m (js ++ ex)).map nv).length, 1001 + 2 * i + 1, rfl, l3.tape, by omega, by have := n.m1; omega, by omega, fun b o4 hb hT6 => ?_⟩
    have l4 := l3.draw nRt nJt hT6
    rw [hL] at ha hb
    obtain ⟨qs, eJ, hQ⟩ := l4.joins
    have hql : qs.length = (js ++ ex).length := hQ.1
    have stop : ∃ (y4 y5 y6 : Option V) (ex' : List (Nat × Nat)), [some (V.ref t), some (.ref p), some (.ref R), some (.ref J), some (.int (0 + (i : Int))), some (nv a), some (nv b)] = [some (V.ref t), some (.ref p), some (.ref R), some (.ref J), y4, y5, y6] ∧ LS t c R J H (upd (upd H' t o3) t o4) m (1001 + 2 * (i + 1)) (js ++ ex') ∧ ex'.length ≤ i + 1 ∧ More m js ex' :=
      ⟨_, _, _, ex, rfl, l4.le (by omega), by omega, mo⟩
    refine ⟨.ref J, rfl, J, _, rfl, .inl (SqL.of eJ), _, 132, rfl, rfl, _, rfl, ite2 (fun c1 => ?_) (fun _ => stop)⟩
    refine ⟨nv a, rfl, nv b, rfl, (a : Int), (b : Int), rfl, rfl, _, rfl, ite2 (fun c2 => ?_) (fun _ => stop)⟩
    have c2 : (a : Int) < (b : Int) := of_decide_eq_true c2
    refine ⟨.ref R, rfl, nv a, rfl, R, _, (a : Int), _, rfl, rfl, SqL.of l4.rows, at_nv (get_row ha), .ref R, rfl, nv b, rfl, R, _, (b : Int), _, rfl, rfl, SqL.of l4.rows, at_nv (get_row hb), _, _, rfl, rfl, .ref R, rfl, R, _, rfl, .inl (SqL.of l4.rows), rfl, flat_nvs _, _, rfl, ?_⟩
    refine ite2 (fun c3 => ?_) (fun _ => stop)
    have c3 : inV (V.int (Builtin.bitXor (row m (js ++ ex) a : Int) (row m (js ++ ex) b : Int))) ((rowsOf m (js ++ ex)).map nv) = true := c3
    rw [xor_nv] at c3
    have hin := inV_nv c3
    -- joins.append((a, b)); rows.append(..)
    refine ⟨.ref J, rfl, .inl ⟨rfl, _, SqL.of eJ⟩, nv a, rfl, nv b, rfl, (by show 2 ≤ sizeLine; decide), fun z hz => ?_⟩
    have nzJ : J ≠ z := ne_of_none eJ hz
    have nzR : R ≠ z := ne_of_none l4.rows hz
    refine ⟨J, _, _, rfl, rfl, by rw [upd_ne nzJ]; exact eJ, by rw [List.length_map, hql]; exact sz (by omega), ?_⟩
    have er : rowsOf m (js ++ ex ++ [(a, b)]) = rowsOf m (js ++ ex) ++ [row m (js ++ ex) a ^^^ row m (js ++ ex) b] := by rw [rows_snoc]; rfl
    have lm := l4.more (ab := (a, b)) hR0 hJ0 nRt nJt nRc nJc nRJ eJ hQ hz er
    have eR : (upd (upd (upd (upd H' t o3) t o4) z (.tup [nv a, nv b])) J (.lst (qs.map V.ref ++ [V.ref z]))) R = some (.lst ((rowsOf m (js ++ ex)).map nv)) := by
      rw [upd_ne nRJ, upd_ne nzR]
      exact l4.rows
    refine ⟨.ref R, rfl, .inl ⟨rfl, _, SqL.of eR⟩, .ref R, rfl, nv a, rfl, R, _, (a : Int), _, rfl, rfl, SqL.of eR, at_nv (get_row ha), .ref R, rfl, nv b, rfl, R, _, (b : Int), _, rfl, rfl, SqL.of eR, at_nv (get_row hb), _, _, rfl, rfl, ?_⟩
    refine ⟨R, _, _, rfl, rfl, eR, by rw [List.length_map, rows_len]; exact sz (by omega), ?_⟩
    rw [← xor_nv, List.append_assoc] at lm
    exact ⟨_, _, _, ex ++ [(a, b)], rfl, lm.le (by omega), by rw [List.length_append]; show ex.length + 1 ≤ i + 1; omega, mo.snoc ha hb hin⟩
  · rintro σ H5 ⟨y4, y5, y6, ex, rfl, l, hj, mo⟩
    obtain ⟨qs, eJ, hQ⟩ := l.joins
    have p1 := pt l.same
    refine ⟨.ref p, rfl, p, _, 0, nv m, rfl, rfl, SqT.of (p1 _ _ h1), atI_nat (j := 0) rfl, .ref J, rfl, J, _, rfl, .inl ⟨SqL.of eJ, fun j2 hj2 => ?_⟩⟩
    have s2 := same_new hj2 (.tup (qs.map V.ref))
    refine ⟨.ref p, rfl, p, _, 2, .ref ot, rfl, rfl, SqT.of (s2 _ _ (p1 _ _ h1)), atI_nat (j := 2) rfl, (by show 3 ≤ sizeLine; decide), fun r hr2 => ?_⟩
    have s3 := same_new hr2 (.tup [nv m, V.ref j2, V.ref ot])
    have s23 := s2.trans s3
    refine q _ r ex (l.same.trans (SameX.of s23)) ⟨j2, ot, qs, upd_same, s3 _ _ upd_same, hQ.mono (Tups.of s23), s23 _ _ (p1 _ _ h4)⟩ mo (by omega)
/-- an out leans on each joining -/
def spAll : Sp := fun vs H Q _ => ∃ (p : Addr) (m : Nat) (js : List (Nat × Nat)) (os : List Nat), vs = [.ref p] ∧ NetAt H p m js os ∧ js.length ≤ 140 ∧ os.length ≤ 24 ∧
  (∀ i, i < js.length → m + i ∈ os ∨ ∃ j xy, i < j ∧ js[j]? = some xy ∧ (m + i = xy.1 ∨ m + i = xy.2)) ∧ ∀ H', Same H H' → Q (.bl true) H'
/-- what the dict has -/
def Has (kvs : List (Key × V)) (x : Nat) : Prop := (valV kvs (Sum.inl (x : Int))).isSome = true
theorem has_put {kvs : List (Key × V)} {x y : Nat} (v : V) (h : Has kvs y ∨ y = x) : Has (putK kvs (Sum.inl (x : Int)) v) y := by
  unfold Has
  rw [valV_put]
  by_cases e : y = x
  · rw [if_pos (by rw [e])]
    rfl
  · rw [if_neg (show ¬ (Sum.inl (y : Int) : Key) = Sum.inl (x : Int) from fun z => e (Int.ofNat.inj (Sum.inl.inj z)))]
    exact h.elim id fun z => absurd z e
theorem ok_all {f : Addr} {fd : FuncData} (F : Fun K "_law_all_leaned_on" "_law_all_leaned_on" sAll f fd) (mr : mg "range" = none) (ml : mg "len" = none) (mv : mg "reversed" = none) : FnOk P w K mg base CX0 1 f fd ["_law_net_here"] spAll := by
  refine F.ok scAll (fun vs H Q E h => ?_) (fun cdv A outer s H vs Q E hr h => ?_)
  · obtain ⟨p, m, js, os, rfl, _⟩ := h
    rfl
  obtain ⟨p, m, js, os, rfl, hN, jl, ol, hA, q⟩ := h
  have hu := hu_of hr
  refine ⟨_, pss_cons (ps_set (i := 1) scAll.nd rfl (Or.inl rfl) pe_dnewK)
    (pss_cons (ps_for PassesOwn.never rfl (pi_tup (pe_ix ix_tup (pv 0) pe_int (fun _ _ => rfl))) (pg_name (i := 2) scAll.nd rfl (Or.inl rfl)) (pss_one (ps_dput hu (pv 1) (pv 2) pe_bl rfl)))
    (pss_cons (ps_for PassesOwn.never rfl (pi_revR rfl mv (prg_1 rfl mr (pe_callB call_len_seq (by rfl) ml PySem.boot_len (pa_cons (pe_ix ix_tup (pv 0) pe_int (fun _ _ => rfl)) pa_nil)))) (pg_name (i := 3) scAll.nd rfl (Or.inl rfl))
        (pss_cons (ps_if (pt_cmp (pc_dnotin hu (pe_op op_add (pe_ix ix_tup (pv 0) pe_int (fun _ _ => rfl)) (pv 3)) (pv 1)) (by rfl)) (pss_one (ps_ret pe_bl)) pss_nil)
        (pss_one (ps_for PassesOwn.never rfl (pi_tup (pe_ix ix_tup (pe_ix ix_tup (pv 0) pe_int (fun _ _ => rfl)) (pv 3) (fun _ _ => rfl))) (pg_name (i := 4) scAll.nd rfl (Or.inl rfl)) (pss_one (ps_dput hu (pv 1) (pv 4) pe_bl rfl))))))
    (pss_one (ps_ret pe_bl)))), ?_⟩
  obtain ⟨jt, ot, rs, h1, h2, h3, h4⟩ := hN
  intro d hd
  have s0 := same_new hd (.dK [])
  -- for out in net[2]
  refine ⟨.ref p, rfl, p, _, 2, .ref ot, rfl, rfl, SqT.of (s0 _ _ h1), atI_nat (j := 2) rfl, ot, rfl, ⟨_, SqT.of (s0 _ _ h4)⟩, ?_⟩
  refine for_tup (xs := os.map nv) (fun i σ H' => ∃ (y : Option V) (kvs : List (Key × V)), σ = [some (.ref p), some (.ref d), y, none, none] ∧ Same H H' ∧ H' d = some (.dK kvs) ∧ kvs.length ≤ i ∧ ∀ x ∈ os.take i, Has kvs x)
    ⟨none, [], rfl, s0, upd_same, Nat.le_refl _, fun x h => by simp at h⟩ (fun i σ H' hi ⟨_, _, _, s1, _⟩ => SqT.of (s1 _ _ h4)) ?_ ?_
  · rintro i x σ H' hi ⟨y, kvs, rfl, s1, e1, hk, hh⟩
    rw [List.getElem?_map] at hi
    obtain ⟨v, ev, rfl⟩ := Option.map_eq_some_iff.mp hi
    have hio := lt_of_get ev
    refine ⟨.ref d, rfl, nv v, rfl, d, _, rfl, DPut.k (k := Sum.inl (v : Int)) e1 (sz (by omega)), ?_⟩
    refine ⟨_, _, rfl, sOwn s1 hd _, upd_same, ?_, fun x hx => ?_⟩
    · have := length_putK kvs (Sum.inl (v : Int)) (.bl true)
      omega
    · rw [take_succ ev, List.mem_append, List.mem_singleton] at hx
      exact has_put _ (hx.elim (fun z => .inl (hh x z)) .inr)
  rintro σ H1 ⟨y, kvs, rfl, s1, e1, hk, hh⟩
  rw [List.length_map] at hk
  rw [List.length_map, List.take_length] at hh
  -- for at in reversed(range(len(net[1])))
  have hlen : ((rs.map V.ref).length : Int) = (js.length : Int) := by rw [List.length_map, h3.1]
  refine ⟨.ref p, rfl, p, _, 1, .ref jt, rfl, rfl, SqT.of (s1 _ _ h1), atI_nat (j := 1) rfl, jt, _, rfl, .inr (SqT.of (s1 _ _ h2)), ((rs.map V.ref).length : Int), rfl, by decide, by decide, by omega, by omega, ?_⟩
  rw [hlen]
  have e0 : ((js.length : Int) - 0).toNat = js.length := by omega
  rw [e0]
  refine for_rangeC (n := js.length) (fun i σ H' => ∃ (y y3 y4 : Option V) (kvs : List (Key × V)), σ = [some (.ref p), some (.ref d), y, y3, y4] ∧ Same H H' ∧ H' d = some (.dK kvs) ∧ kvs.length ≤ 24 + 2 * i ∧
      (∀ x ∈ os, Has kvs x) ∧ ∀ (j : Nat) (xy : Nat × Nat), js.length - i ≤ j → js[j]? = some xy → Has kvs xy.1 ∧ Has kvs xy.2)
    ⟨y, none, none, kvs, rfl, s1, e1, by omega, hh, fun j xy hj e => by have := lt_of_get e; omega⟩ ?_ ?_
  · rintro i σ H' hi ⟨y, y3, y4, kvs, rfl, s2, e2, hk, ho, hj⟩
    have ec : (0 : Int) + (js.length : Int) - 1 + (i : Int) * -1 = ((js.length - 1 - i : Nat) : Int) := by omega
    rw [ec]
    generalize hc : js.length - 1 - i = c at *
    have hcn : c < js.length := by omega
    have eix : (m : Int) + (c : Int) = ((m + c : Nat) : Int) := by omega
    have hhas : Has kvs (m + c) := by
      rcases hA c hcn with z | ⟨j, xy, h5, h6, h7⟩
      · exact ho _ z
      · have := hj j xy (by omega) h6
        rcases h7 with h7 | h7
        · rw [h7]; exact this.1
        · rw [h7]; exact this.2
    refine ⟨.ref p, rfl, p, _, 0, nv m, rfl, rfl, SqT.of (s2 _ _ h1), atI_nat (j := 0) rfl, nv c, rfl, (m : Int), (c : Int), rfl, rfl, .ref d, rfl, d, _, rfl, DGet.k (k := Sum.inl ((m : Int) + (c : Int))) e2, _, rfl, ?_⟩
    rw [eix, show (valV kvs (Sum.inl ((m + c : Nat) : Int))).isSome = true from hhas]
    -- for thing in net[1][at]
    obtain ⟨r, ab, er, ej, hrr⟩ := h3.get hcn
    refine ⟨.ref p, rfl, p, _, 1, .ref jt, rfl, rfl, SqT.of (s2 _ _ h1), atI_nat (j := 1) rfl, nv c, rfl, jt, _, (c : Int), _, rfl, rfl, SqT.of (s2 _ _ h2), at_ref er, r, rfl, ⟨_, SqT.of (s2 _ _ hrr)⟩, ?_⟩
    refine for_tup (xs := [nv ab.1, nv ab.2]) (fun l σ H'' => ∃ (y4 : Option V) (kvs' : List (Key × V)), σ = [some (.ref p), some (.ref d), y, some (nv c), y4] ∧ Same H H'' ∧ H'' d = some (.dK kvs') ∧ kvs'.length ≤ 24 + 2 * i + l ∧
        (∀ x, Has kvs x → Has kvs' x) ∧ (1 ≤ l → Has kvs' ab.1) ∧ (2 ≤ l → Has kvs' ab.2)) ⟨y4, kvs, rfl, s2, e2, by omega, fun _ z => z, fun z => absurd z (by omega), fun z => absurd z (by omega)⟩
      (fun l σ H'' hl ⟨_, _, _, s3, _⟩ => SqT.of (s3 _ _ hrr)) ?_ ?_
    · rintro l x σ H'' hl ⟨y5, kvs', rfl, s3, e3, hk3, hm3, ha3, hb3⟩
      have step : ∀ v : Nat, x = nv v → (l = 0 → v = ab.1) → (l = 1 → v = ab.2) → l < 2 → gName 4 x [some (V.ref p), some (V.ref d), y, some (nv c), y5] H'' (fun σ2 H2 => ∃ x2 : V, σ2[1]? = some (some x2) ∧ ∃ y2 : V, σ2[4]? = some (some y2) ∧ ∃ (a2 : Addr) (H4 : Hp), x2 = .ref a2 ∧ DPut H2 a2 y2 (.bl true) H4 ∧ ∃ (y4 : Option V) (kvs' : List (Key × V)), σ2 = [some (V.ref p), some (.ref d), y, some (nv c), y4] ∧ Same H H4 ∧ H4 d = some (.dK kvs') ∧ kvs'.length ≤ 24 + 2 * i + (l + 1) ∧
          (∀ x, Has kvs x → Has kvs' x) ∧ (1 ≤ l + 1 → Has kvs' ab.1) ∧ (2 ≤ l + 1 → Has kvs' ab.2)) := by
        rintro v rfl v0 v1 l2
        refine ⟨.ref d, rfl, nv v, rfl, d, _, rfl, DPut.k (k := Sum.inl (v : Int)) e3 (sz (by omega)), _, _, rfl, sOwn s3 hd _, upd_same, ?_, fun x hx => has_put _ (.inl (hm3 x hx)), fun _ => ?_, fun z => ?_⟩
        · have := length_putK kvs' (Sum.inl (v : Int)) (.bl true)
          omega
        · by_cases h0 : l = 0
          · exact has_put _ (.inr (v0 h0).symm)
          · exact has_put _ (.inl (ha3 (by omega)))
        · exact has_put _ (.inr (v1 (by omega)).symm)
      match l, hl with
      | 0, hl => exact step ab.1 (Option.some.inj hl).symm (fun _ => rfl) (fun z => absurd z (by omega)) (by omega)
      | 1, hl => exact step ab.2 (Option.some.inj hl).symm (fun z => absurd z (by omega)) (fun _ => rfl) (by omega)
      | l + 2, hl => simp at hl
    · rintro σ H'' ⟨y5, kvs', rfl, s3, e3, hk3, hm3, ha3, hb3⟩
      have hk4 : kvs'.length ≤ 24 + 2 * i + 2 := hk3
      refine ⟨_, _, _, kvs', rfl, s3, e3, by omega, fun x hx => hm3 x (ho x hx), fun j xy h5 h6 => ?_⟩
      by_cases z : j = c
      · subst z
        rw [ej] at h6
        cases h6
        exact ⟨ha3 (by show 1 ≤ 2; decide), hb3 (by show 2 ≤ 2; decide)⟩
      · have := hj j xy (by omega) h6
        exact ⟨hm3 _ this.1, hm3 _ this.2⟩
  · rintro σ H' ⟨y, y3, y4, kvs, rfl, s2, _⟩
    exact q H' s2
end
end K16
/-! ### the law -/
namespace K16
open PySem PySem.Spec PyProof.Rows L2
abbrev sLaw : Stmt := topS 23
theorem scLaw : FnScope ["_law_script", "_law_tape_here", "_law_net_here", "_law_found", "_law_rows_here"] ["_law_script"] (defScope sLaw) := ⟨rfl, rfl, rfl, by decide +kernel, rfl, by decide +kernel, by decide +kernel⟩
/-! nets as data -/
def dN (ns : List Nat) : List PyData := ns.map fun n : Nat => PyData.int (n : Int)
def dJ (js : List (Nat × Nat)) : List PyData := js.map fun ab => .tuple [.int (ab.1 : Int), .int (ab.2 : Int)]
def dNet (m : Nat) (js : List (Nat × Nat)) (os : List Nat) : PyData := .tuple [.int (m : Int), .tuple (dJ js), .tuple (dN os)]
theorem dN_lay : ∀ ns : List Nat, PyData.canLayAll0 (dN ns) = true
  | [] => rfl
  | n :: r => by
    have ih := dN_lay r
    unfold dN at ih ⊢
    rw [List.map_cons, PyData.canLayAll0, ih]
    rfl
theorem dN_depth : ∀ ns : List Nat, PyData.depthAll (dN ns) = 0
  | [] => rfl
  | n :: r => by
    have ih := dN_depth r
    unfold dN at ih ⊢
    rw [List.map_cons, PyData.depthAll, ih]
    rfl
theorem dJ_lay : ∀ js : List (Nat × Nat), PyData.canLayAll0 (dJ js) = true
  | [] => rfl
  | n :: r => by
    have ih := dJ_lay r
    unfold dJ at ih ⊢
    rw [List.map_cons, PyData.canLayAll0, ih]
    rfl
theorem dJ_depth : ∀ js : List (Nat × Nat), PyData.depthAll (dJ js) ≤ 1
  | [] => Nat.zero_le _
  | n :: r => by
    have ih := dJ_depth r
    unfold dJ at ih ⊢
    rw [List.map_cons, PyData.depthAll]
    exact Nat.max_le.mpr ⟨Nat.le_refl 1, ih⟩
theorem list_shaped (ns : List Nat) : SeqAt.shaped (.list (dN ns)) = true := by
  unfold SeqAt.shaped
  rw [PyData.canLay0, dN_lay, PyData.depth, dN_depth]
  rfl
theorem net_lay (m : Nat) (js : List (Nat × Nat)) (os : List Nat) : PyData.canLay0 (dNet m js os) = true := by
  unfold dNet
  rw [PyData.canLay0, PyData.canLayAll0, PyData.canLayAll0, PyData.canLayAll0, PyData.canLayAll0, PyData.canLay0, PyData.canLay0, PyData.canLay0, dJ_lay, dN_lay]
  rfl
theorem net_shaped (m : Nat) (js : List (Nat × Nat)) (os : List Nat) : SeqAt.shaped (dNet m js os) = true := by
  unfold SeqAt.shaped
  rw [net_lay]
  refine decide_eq_true ?_
  unfold dNet
  rw [PyData.depth, PyData.depthAll, PyData.depthAll, PyData.depthAll, PyData.depthAll, PyData.depth, PyData.depth, PyData.depth, dN_depth]
  have := dJ_depth js
  omega
section
variable {P : Program} {w : World} {K : PySem.W.Frag} {mg : Str → Option Value} {base : Heap}
theorem dp_nvs {H : Hp} : ∀ ns : List Nat, DpAll K H (ns.map nv) (dN ns)
  | [] => .nil
  | n :: r => .cons (.int _) (dp_nvs r)
theorem dp_prs {H : Hp} : ∀ {rs : List Addr} {js : List (Nat × Nat)}, Prs H rs js → DpAll K H (rs.map V.ref) (dJ js)
  | [], [], _ => .nil
  | [], _ :: _, p => absurd p.1 (by simp)
  | _ :: _, [], p => absurd p.1 (by simp)
  | r :: rs, ab :: js, p => by
    refine .cons (.tup (SqT.of (p.2 0 r ab rfl rfl)) (.cons (.int _) (.cons (.int _) .nil))) (dp_prs (rs := rs) (js := js) ⟨Nat.succ.inj p.1, fun i r' cd e1 e2 => p.2 (i + 1) r' cd e1 e2⟩)
theorem dp_net {H : Hp} {p : Addr} {m : Nat} {js : List (Nat × Nat)} {os : List Nat} (h : NetAt H p m js os) : Dp K H (.ref p) (dNet m js os) := by
  obtain ⟨j, o, rs, h1, h2, h3, h4⟩ := h
  exact .tup (SqT.of h1) (.cons (.int _) (.cons (.tup (SqT.of h2) (dp_prs h3)) (.cons (.tup (SqT.of h4) (dp_nvs os)) .nil)))
theorem dp_list {H : Hp} {p : Addr} {ns : List Nat} (h : H p = some (.lst (ns.map nv))) : Dp K H (.ref p) (.list (dN ns)) := .lst (SqL.of h) (dp_nvs ns)
theorem nodup_ints {ns : List Nat} (h : ns.Nodup) : (ns.map fun n : Nat => (n : Int)).Nodup := by
  rw [List.nodup_iff_pairwise_ne] at h ⊢
  rw [List.pairwise_map]
  exact h.imp fun h e => h (Int.ofNat.inj e)
def spLaw (K : PySem.W.Frag) : Sp := fun vs H Q _ => ∃ (a : Addr) (ns : List Int), vs = [.ref a] ∧ SqL K H a (ns.map V.int) ∧ ns.length ≤ 63 ∧ ∀ H', Q (.bl true) H'

theorem ok_law {f fN fJ fO fI fR fM fC fF fL fB fT fP fD fE fS fG fA : Addr} {fd dN dJ dO dI dR dM dC dF dL dB dT dP dD dE dS dG dA : FuncData} (F0 : Fun K "law" "law" sLaw f fd)
    (FN : Fun K "is_number" "is_number" sNum fN dN) (bN : Binds K dN ["thing", "least", "beyond"] []) (gN : mg "is_number" = some (.ref fN))
    (FJ : Fun K "is_joining" "is_joining" sJoin fJ dJ) (bJ : Binds K dJ ["thing", "ahead"] []) (gJ : mg "is_joining" = some (.ref fJ))
    (FO : Fun K "is_list_of_outs" "is_list_of_outs" sOuts fO dO) (bO : Binds K dO ["thing", "many"] []) (gO : mg "is_list_of_outs" = some (.ref fO))
    (FI : Fun K "is_net" "is_net" sNet fI dI) (bI : Binds K dI ["thing"] []) (gI : mg "is_net" = some (.ref fI))
    (FR : Fun K "rows_of" "rows_of" sRows fR dR) (bR : Binds K dR ["net"] []) (gR : mg "rows_of" = some (.ref fR))
    (FM : Fun K "made_by" "made_by" sMade fM dM) (bM : Binds K dM ["net"] []) (gM : mg "made_by" = some (.ref fM))
    (FC : Fun K "is_clean" "is_clean" sClean fC dC) (bC : Binds K dC ["net"] []) (gC : mg "is_clean" = some (.ref fC))
    (FF : Fun K "first_with" "first_with" sFirst fF dF) (bF : Binds K dF ["rows"] []) (gF : mg "first_with" = some (.ref fF))
    (FL : Fun K "leaned_on" "leaned_on" sLean fL dL) (bL : Binds K dL ["many", "joins", "outs"] []) (gL : mg "leaned_on" = some (.ref fL))
    (FB : Fun K "numbered" "numbered" sNumb fB dB) (bB : Binds K dB ["many", "joins", "outs", "kept"] []) (gB : mg "numbered" = some (.ref fB))
    (FT : Fun K "tidied" "tidied" sTidy fT dT) (bT : Binds K dT ["net"] []) (gT : mg "tidied" = some (.ref fT))
    (FP : Fun K "_law_tape" "_law_tape" sTape fP dP) (bP : Binds K dP ["_law_script"] []) (gP : mg "_law_tape" = some (.ref fP))
    (FD : Fun K "_law_draw" "_law_draw" sDraw fD dD) (bD : Binds K dD ["_law_tape_here", "_law_many"] []) (gD : mg "_law_draw" = some (.ref fD))
    (FE : Fun K "_law_net" "_law_net" sLNet fE dE) (bE : Binds K dE ["_law_tape_here", "_law_most", "_law_joins_most"] []) (gE : mg "_law_net" = some (.ref fE))
    (FS : Fun K "_law_rows" "_law_rows" sLRows fS dS) (bS : Binds K dS ["_law_net_here"] []) (gS : mg "_law_rows" = some (.ref fS))
    (FG : Fun K "_law_longer" "_law_longer" sLonger fG dG) (bG : Binds K dG ["_law_tape_here", "_law_net_here"] []) (gG : mg "_law_longer" = some (.ref fG))
    (FA : Fun K "_law_all_leaned_on" "_law_all_leaned_on" sAll fA dA) (bA : Binds K dA ["_law_net_here"] []) (gA : mg "_law_all_leaned_on" = some (.ref fA))
    (TN : TxN mg) (mv : mg "reversed" = none) (mi : mg "list" = none) (mmin : mg "min" = none) (mmax : mg "max" = none) (ms : mg "set" = none) : FnOk P w K mg base CX0 4 f fd ["_law_script"] (spLaw K) := by
  have ml := TN.len
  have mr := TN.rng
  have mt := TN.tup
  have GP : FnOk P w K mg base CX0 1 fP dP ["_law_script"] (spTape K) := ok_tape FP
  have GE : FnOk P w K mg base CX0 2 fE dE ["_law_tape_here", "_law_most", "_law_joins_most"] spLNet := ok_lnet FE FD bD gD mr ml mt mmin mmax
  have GT : FnOk P w K mg base CX0 2 fT dT ["net"] spTidy := ok_tidy FT FR bR gR FF bF gF FL bL gL FB bB gB mr ml mv mi mt mmin mmax
  have GI : FnOk P w K mg base CX0 3 fI dI ["thing"] spNet := ok_net FI FN bN gN FJ bJ gJ FO bO gO TN
  have GM : FnOk P w K mg base CX0 2 fM dM ["net"] spMade := ok_made FM FR bR gR mr
  have GR : FnOk P w K mg base CX0 1 fR dR ["net"] spRows := ok_rows FR mr
  have GS : FnOk P w K mg base CX0 1 fS dS ["_law_net_here"] spRows := ok_lrows FS mr
  have GA : FnOk P w K mg base CX0 1 fA dA ["_law_net_here"] spAll := ok_all FA mr ml mv
  have GC : FnOk P w K mg base CX0 2 fC dC ["net"] spClean := ok_clean FC FR bR gR mr TN.all
  have GG : FnOk P w K mg base CX0 2 fG dG ["_law_tape_here", "_law_net_here"] spLonger := ok_longer FG FD bD gD FS bS gS mr ml mi mt
  refine F0.ok scLaw (fun vs H Q E h => ?_) (fun cdv A outer s H vs Q E hr h => ?_)
  · obtain ⟨a, ns, rfl, _⟩ := h
    rfl
  obtain ⟨a, ns, rfl, hS, hlen, q⟩ := h
  have hr1 : Room 1 _ := hr.mono (by decide)
  have hr2 : Room 2 _ := hr.mono (by decide)
  have hu : _ + 64 < cLine := hr.units
  refine ⟨_, pss_cons (ps_set (i := 1) scLaw.nd rfl (Or.inl rfl) (pe_call GP hr1 rfl gP FP.kp bP .nil pass0 (pa_cons (pv 0) pa_nil)))
    (pss_cons (ps_set (i := 2) scLaw.nd rfl (Or.inl rfl) (pe_call GE hr2 rfl gE FE.kp bE .nil pass0 (pa_cons (pv 1) (pa_cons pe_int (pa_cons pe_int pa_nil)))))
    (pss_cons (ps_set (i := 3) scLaw.nd rfl (Or.inl rfl) (pe_call GT hr2 rfl gT FT.kp bT .nil pass0 (pa_cons (pv 2) pa_nil)))
    (pss_cons (ps_if (PW.pt (pw_or (pt_not (pt_val (pe_call GI hr rfl gI FI.kp bI .nil pass0 (pa_cons (pv 3) pa_nil))))
        (pw_or (pt_cmpR op_ne (pe_ix ix_tup (pv 3) pe_int (fun _ _ => rfl)) (pe_ix ix_tup (pv 2) pe_int (fun _ _ => rfl)) (nomark _))
        (pw_or (pt_cmpR (op_neD hu) (pe_call GM hr2 rfl gM FM.kp bM .nil pass0 (pa_cons (pv 3) pa_nil)) (pe_call GM hr2 rfl gM FM.kp bM .nil pass0 (pa_cons (pv 2) pa_nil)) (nomark _))
        (pw_or1 (pt_cmpR op_gt (pe_callB call_len_seq (by rfl) ml PySem.boot_len (pa_cons (pe_ix ix_tup (pv 3) pe_int (fun _ _ => rfl)) pa_nil)) (pe_callB call_len_seq (by rfl) ml PySem.boot_len (pa_cons (pe_ix ix_tup (pv 2) pe_int (fun _ _ => rfl)) pa_nil)) (nomark _))))))) (pss_one (ps_ret pe_bl)) pss_nil)
    (pss_cons (ps_set (i := 4) scLaw.nd rfl (Or.inl rfl) (pe_call GR hr1 rfl gR FR.kp bR .nil pass0 (pa_cons (pv 3) pa_nil)))
    (pss_cons (ps_if (PW.pt (pw_or (pt_cmpR (op_neD hu) (pv 4) (pe_call GS hr1 rfl gS FS.kp bS .nil pass0 (pa_cons (pv 3) pa_nil)) (nomark _))
        (pw_or (pt_cmpR op_ne (RZ.pe_lenSetI rfl ml rfl ms (pv 4)) (pe_callB call_len_seq (by rfl) ml PySem.boot_len (pa_cons (pv 4) pa_nil)) (nomark _))
        (pw_or1 (pt_not (pt_val (pe_call GA hr1 rfl gA FA.kp bA .nil pass0 (pa_cons (pv 3) pa_nil)))))))) (pss_one (ps_ret pe_bl)) pss_nil)
    (pss_cons (ps_if (PW.pt (pw_and (pt_val (pe_call GC hr2 rfl gC FC.kp bC .nil pass0 (pa_cons (pv 2) pa_nil))) (pw_and1 (pt_not (pt_val (pe_call GC hr2 rfl gC FC.kp bC .nil pass0 (pa_cons (pv 3) pa_nil))))))) (pss_one (ps_ret pe_bl)) pss_nil)
    (pss_one (ps_ret (pe_cmpR (op_eqD hu) (pe_call GT hr2 rfl gT FT.kp bT .nil pass0 (pa_cons (pe_call GG hr2 rfl gG FG.kp bG .nil pass0 (pa_cons (pv 1) (pa_cons (pv 2) pa_nil))) pa_nil)) (pv 3) (nomark _)))))))))), ?_⟩
  -- the tape, the net, the tidied net
  refine ⟨.ref a, rfl, a, ns, rfl, hS, hlen, fun H1 t c s1 ht0 hT1 => ?_⟩
  refine ⟨.ref t, rfl, t, c, rfl, hT1, fun H2 p m js os x2 hT2 hN n => ?_⟩
  refine ⟨.ref p, rfl, p, m, js, os, rfl, hN, n.idx, n.m12, Nat.le_trans n.jl (by decide), n.ol, n.o24, fun H3 r s3 hF => ?_⟩
  have n' := tidy_net n
  -- if not is_net(found) or ..
  refine ⟨.ref r, rfl, r, m, tJ m js os, tO m js os, rfl, hF, n', fun H4 s4 => ⟨true, rfl, ?_⟩⟩
  have hN4 := hN.mono (Tups.of (s3.trans s4))
  have hF4 := hF.mono (Tups.of s4)
  obtain ⟨jt, ot, rs, h1, h2, h3, h4⟩ := id hN4
  obtain ⟨jt', ot', rs', h1', h2', h3', h4'⟩ := id hF4
  refine ⟨.ref r, rfl, r, _, 0, nv m, rfl, rfl, SqT.of h1', atI_nat (j := 0) rfl, .ref p, rfl, p, _, 0, nv m, rfl, rfl, SqT.of h1, atI_nat (j := 0) rfl, rfl, _, rfl, ?_⟩
  rw [decide_eq_true rfl]
  refine ⟨.ref r, rfl, r, m, tJ m js os, tO m js os, rfl, hF4, n'.idx, n'.m12, Nat.le_trans n'.jl (by decide), n'.ol, n'.o24, fun H5 a1 s5 _ e1 => ?_⟩
  refine ⟨.ref p, rfl, p, m, js, os, rfl, hN4.mono (Tups.of s5), n.idx, n.m12, Nat.le_trans n.jl (by decide), n.ol, n.o24, fun H6 a2 s6 _ e2 => ?_⟩
  rw [tidy_made n] at e1
  refine ⟨_, _, dp_list (s6 _ _ e1), dp_list e2, list_shaped _, list_shaped _, _, rfl, ?_⟩
  rw [SeqAt.eqv_refl _ (SeqAt.canLay_of_shaped (list_shaped _))]
  have s46 := s5.trans s6
  refine ⟨.ref r, rfl, r, _, 1, .ref jt', rfl, rfl, SqT.of (s46 _ _ h1'), atI_nat (j := 1) rfl, jt', _, rfl, .inr (SqT.of (s46 _ _ h2')), .ref p, rfl, p, _, 1, .ref jt, rfl, rfl, SqT.of (s46 _ _ h1), atI_nat (j := 1) rfl, jt, _, rfl, .inr (SqT.of (s46 _ _ h2)), _, _, rfl, rfl, _, rfl, ?_⟩
  have hle : ¬ ((((rs.map V.ref).length : Nat) : Int) < (((rs'.map V.ref).length : Nat) : Int)) := by
    rw [List.length_map, List.length_map, h3.1, h3'.1]
    have := tJ_len (m := m) (js := js) (os := os)
    omega
  rw [decide_eq_false hle]
  -- rows = rows_of(found)
  have hN6 := hN4.mono (Tups.of s46)
  have hF6 := hF4.mono (Tups.of s46)
  refine ⟨.ref r, rfl, r, m, tJ m js os, tO m js os, rfl, hF6, n'.idx, n'.m12, Nat.le_trans n'.jl (by decide), fun H7 a3 s7 _ e3 => ?_⟩
  refine ⟨.ref a3, rfl, .ref r, rfl, r, m, tJ m js os, tO m js os, rfl, hF6.mono (Tups.of s7), n'.idx, n'.m12, Nat.le_trans n'.jl (by decide), fun H8 a4 s8 _ e4 => ?_⟩
  refine ⟨_, _, dp_list (s8 _ _ e3), dp_list e4, list_shaped _, list_shaped _, _, rfl, ?_⟩
  rw [SeqAt.eqv_refl _ (SeqAt.canLay_of_shaped (list_shaped _))]
  have nd := tidy_nodup n fun t h => fst_given h
  have e3' := s8 _ _ e3
  have hl8 : (rowsOf m (tJ m js os)).length ≤ 4000 := by
    rw [rows_len]
    have := n'.jl
    have := n'.m12
    omega
  refine ⟨.ref a3, rfl, a3, (rowsOf m (tJ m js os)).map fun n : Nat => (n : Int), rfl, by rw [← nvs_ints]; exact SqL.of e3', nodup_ints nd, by rw [List.length_map]; exact hl8, .ref a3, rfl, a3, _, rfl, .inl (SqL.of e3'), rfl, _, rfl, ?_⟩
  rw [decide_eq_true (show V.int ((((rowsOf m (tJ m js os)).map fun n : Nat => (n : Int)).length : Nat) : Int) = V.int ((((rowsOf m (tJ m js os)).map nv).length : Nat) : Int) by rw [List.length_map, List.length_map])]
  have s68 := s7.trans s8
  have hN8 := hN6.mono (Tups.of s68)
  have hF8 := hF6.mono (Tups.of s68)
  refine ⟨.ref r, rfl, r, m, tJ m js os, tO m js os, rfl, hF8, Nat.le_trans n'.jl (by decide), n'.o24, fun i hi => tidy_leans n hi, fun H9 s9 => ⟨true, rfl, ?_⟩⟩
  have hN9 := hN8.mono (Tups.of s9)
  have hF9 := hF8.mono (Tups.of s9)
  have s29 : Same H2 H9 := s3.trans (s4.trans (s46.trans (s68.trans s9)))
  -- the end, from any heap that keeps all
  have last : ∀ Hx : Hp, Same H9 Hx → ∀ D : Ends, D.rt = Q → tRet (tOp (rEqD K) (tCall spTidy [] E0 (tCons (tCall spLonger [] E0 (tCons (tVar 1) (tCons (tVar 2) tNil))) tNil)) (tVar 3)) D [some (.ref a), some (.ref t), some (.ref p), some (.ref r), some (.ref a3)] Hx := by
    intro Hx sx D hD
    refine ⟨.ref t, rfl, .ref p, rfl, t, c, p, m, js, os, rfl, hT2.same (s29.trans sx), hN9.mono (Tups.of sx), n, fun H10 r2 ex x10 hL mo hex => ?_⟩
    have hn1 := n.jl
    have hol : ∀ o ∈ os, o < m + (js ++ ex).length := fun o h => by
      have := n.ol o h
      rw [List.length_append]
      omega
    refine ⟨r2, m, js ++ ex, os, rfl, hL, mo.idx n.idx, n.m12, by rw [List.length_append]; omega, hol, n.o24, fun H11 r3 s11 hR => ?_⟩
    rw [more_J n.idx n.ol mo, more_O n.idx n.ol mo] at hR
    have tp : Tups H9 H11 := (Tups.of sx).trans ((x10.tups (hT2.same (s29.trans sx)).notup).trans (Tups.of s11))
    refine ⟨.ref r, rfl, _, _, dp_net hR, dp_net (hF9.mono tp), net_shaped _ _ _, net_shaped _ _ _, ?_⟩
    rw [SeqAt.eqv_refl _ (net_lay _ _ _), hD]
    exact q _
  -- if is_clean(net) and not is_clean(found)
  refine ⟨.ref p, rfl, p, m, js, os, rfl, hN9, n.idx, n.m12, Nat.le_trans n.jl (by decide), fun H10 s10 => ⟨_, rfl, ?_⟩⟩
  cases hc : cleanB m js with
  | false => exact last H10 s10 _ rfl
  | true =>
    refine ⟨.ref r, rfl, r, m, tJ m js os, tO m js os, rfl, hF9.mono (Tups.of s10), n'.idx, n'.m12, Nat.le_trans n'.jl (by decide), fun H11 s11 => ⟨_, rfl, ?_⟩⟩
    rw [tidy_clean n hc]
    exact last H11 (s10.trans s11) _ rfl
end
end K16
/-! ### what the top has written, the head -/
namespace K16
open PySem PySem.Spec PyProof.Rows L2
theorem all_mk {l : PySem.W.OpenLaw} {w : World} {K : PySem.W.Frag} {h : Heap} {mg : Str → Option Value} {fa fN fJ fO fI fR fM fC fF fL fB fT fP fD fE fS fG fA f0 : Addr} (X : K.In h) (G : h.Ns mainGlobals mg) (hfa : mg "law" = some (.ref fa))
    {odN anN odJ anJ odO anO odI anI odR anR odM anM odC anC odF anF odL anL odB anB odT anT odP anP odD anD odE anE odS anS odG anG odA anA od0 an0 : Option Addr} {slN slJ slO slI slR slM slC slF slL slB slT slP slD slE slS slG slA sl0 : Array (Option Value)} {ocN kVN dcN pmN cdN ctN ocJ kVJ dcJ pmJ cdJ ctJ ocO kVO dcO pmO cdO ctO ocI kVI dcI pmI cdI ctI ocR kVR dcR pmR cdR ctR ocM kVM dcM pmM cdM ctM ocC kVC dcC pmC cdC ctC ocF kVF dcF pmF cdF ctF ocL kVL dcL pmL cdL ctL ocB kVB dcB pmB cdB ctB ocT kVT dcT pmT cdT ctT ocP kVP dcP pmP cdP ctP ocD kVD dcD pmD cdD ctD ocE kVE dcE pmE cdE ctE ocS kVS dcS pmS cdS ctS ocG kVG dcG pmG cdG ctG ocA kVA dcA pmA cdA ctA oc0 kV0 dc0 pm0 cd0 ct0 : Value} {tG tJ tO : Tok}
    (aN : PySem.W.nsIn K mainGlobals "is_number" = some (some (.ref fN))) (lN : K.lookup fN = some ⟨ocN, odN, .func (PySem.W.fnOf "is_number" "is_number" (defArgs sNum) (defBody sNum) (defScope sNum) .none kVN dcN pmN anN cdN ctN), slN⟩) (cN : PySem.W.codeIn K cdN "is_number" = true) (kN : PySem.W.keepIn K (.ref fN) = true)
    (aJ : PySem.W.nsIn K mainGlobals "is_joining" = some (some (.ref fJ))) (lJ : K.lookup fJ = some ⟨ocJ, odJ, .func (PySem.W.fnOf "is_joining" "is_joining" (defArgs sJoin) (defBody sJoin) (defScope sJoin) .none kVJ dcJ pmJ anJ cdJ ctJ), slJ⟩) (cJ : PySem.W.codeIn K cdJ "is_joining" = true) (kJ : PySem.W.keepIn K (.ref fJ) = true)
    (aO : PySem.W.nsIn K mainGlobals "is_list_of_outs" = some (some (.ref fO))) (lO : K.lookup fO = some ⟨ocO, odO, .func (PySem.W.fnOf "is_list_of_outs" "is_list_of_outs" (defArgs sOuts) (defBody sOuts) (defScope sOuts) .none kVO dcO pmO anO cdO ctO), slO⟩) (cO : PySem.W.codeIn K cdO "is_list_of_outs" = true) (kO : PySem.W.keepIn K (.ref fO) = true)
    (aI : PySem.W.nsIn K mainGlobals "is_net" = some (some (.ref fI))) (lI : K.lookup fI = some ⟨ocI, odI, .func (PySem.W.fnOf "is_net" "is_net" (defArgs sNet) (defBody sNet) (defScope sNet) .none kVI dcI pmI anI cdI ctI), slI⟩) (cI : PySem.W.codeIn K cdI "is_net" = true) (kI : PySem.W.keepIn K (.ref fI) = true)
    (aR : PySem.W.nsIn K mainGlobals "rows_of" = some (some (.ref fR))) (lR : K.lookup fR = some ⟨ocR, odR, .func (PySem.W.fnOf "rows_of" "rows_of" (defArgs sRows) (defBody sRows) (defScope sRows) .none kVR dcR pmR anR cdR ctR), slR⟩) (cR : PySem.W.codeIn K cdR "rows_of" = true) (kR : PySem.W.keepIn K (.ref fR) = true)
    (aM : PySem.W.nsIn K mainGlobals "made_by" = some (some (.ref fM))) (lM : K.lookup fM = some ⟨ocM, odM, .func (PySem.W.fnOf "made_by" "made_by" (defArgs sMade) (defBody sMade) (defScope sMade) .none kVM dcM pmM anM cdM ctM), slM⟩) (cM : PySem.W.codeIn K cdM "made_by" = true) (kM : PySem.W.keepIn K (.ref fM) = true)
    (aC : PySem.W.nsIn K mainGlobals "is_clean" = some (some (.ref fC))) (lC : K.lookup fC = some ⟨ocC, odC, .func (PySem.W.fnOf "is_clean" "is_clean" (defArgs sClean) (defBody sClean) (defScope sClean) .none kVC dcC pmC anC cdC ctC), slC⟩) (cC : PySem.W.codeIn K cdC "is_clean" = true) (kC : PySem.W.keepIn K (.ref fC) = true)
    (aF : PySem.W.nsIn K mainGlobals "first_with" = some (some (.ref fF))) (lF : K.lookup fF = some ⟨ocF, odF, .func (PySem.W.fnOf "first_with" "first_with" (defArgs sFirst) (defBody sFirst) (defScope sFirst) .none kVF dcF pmF anF cdF ctF), slF⟩) (cF : PySem.W.codeIn K cdF "first_with" = true) (kF : PySem.W.keepIn K (.ref fF) = true)
    (aL : PySem.W.nsIn K mainGlobals "leaned_on" = some (some (.ref fL))) (lL : K.lookup fL = some ⟨ocL, odL, .func (PySem.W.fnOf "leaned_on" "leaned_on" (defArgs sLean) (defBody sLean) (defScope sLean) .none kVL dcL pmL anL cdL ctL), slL⟩) (cL : PySem.W.codeIn K cdL "leaned_on" = true) (kL : PySem.W.keepIn K (.ref fL) = true)
    (aB : PySem.W.nsIn K mainGlobals "numbered" = some (some (.ref fB))) (lB : K.lookup fB = some ⟨ocB, odB, .func (PySem.W.fnOf "numbered" "numbered" (defArgs sNumb) (defBody sNumb) (defScope sNumb) .none kVB dcB pmB anB cdB ctB), slB⟩) (cB : PySem.W.codeIn K cdB "numbered" = true) (kB : PySem.W.keepIn K (.ref fB) = true)
    (aT : PySem.W.nsIn K mainGlobals "tidied" = some (some (.ref fT))) (lT : K.lookup fT = some ⟨ocT, odT, .func (PySem.W.fnOf "tidied" "tidied" (defArgs sTidy) (defBody sTidy) (defScope sTidy) .none kVT dcT pmT anT cdT ctT), slT⟩) (cT : PySem.W.codeIn K cdT "tidied" = true) (kT : PySem.W.keepIn K (.ref fT) = true)
    (aP : PySem.W.nsIn K mainGlobals "_law_tape" = some (some (.ref fP))) (lP : K.lookup fP = some ⟨ocP, odP, .func (PySem.W.fnOf "_law_tape" "_law_tape" (defArgs sTape) (defBody sTape) (defScope sTape) .none kVP dcP pmP anP cdP ctP), slP⟩) (cP : PySem.W.codeIn K cdP "_law_tape" = true) (kP : PySem.W.keepIn K (.ref fP) = true)
    (aD : PySem.W.nsIn K mainGlobals "_law_draw" = some (some (.ref fD))) (lD : K.lookup fD = some ⟨ocD, odD, .func (PySem.W.fnOf "_law_draw" "_law_draw" (defArgs sDraw) (defBody sDraw) (defScope sDraw) .none kVD dcD pmD anD cdD ctD), slD⟩) (cD : PySem.W.codeIn K cdD "_law_draw" = true) (kD : PySem.W.keepIn K (.ref fD) = true)
    (aE : PySem.W.nsIn K mainGlobals "_law_net" = some (some (.ref fE))) (lE : K.lookup fE = some ⟨ocE, odE, .func (PySem.W.fnOf "_law_net" "_law_net" (defArgs sLNet) (defBody sLNet) (defScope sLNet) .none kVE dcE pmE anE cdE ctE), slE⟩) (cE : PySem.W.codeIn K cdE "_law_net" = true) (kE : PySem.W.keepIn K (.ref fE) = true)
    (aS : PySem.W.nsIn K mainGlobals "_law_rows" = some (some (.ref fS))) (lS : K.lookup fS = some ⟨ocS, odS, .func (PySem.W.fnOf "_law_rows" "_law_rows" (defArgs sLRows) (defBody sLRows) (defScope sLRows) .none kVS dcS pmS anS cdS ctS), slS⟩) (cS : PySem.W.codeIn K cdS "_law_rows" = true) (kS : PySem.W.keepIn K (.ref fS) = true)
    (aG : PySem.W.nsIn K mainGlobals "_law_longer" = some (some (.ref fG))) (lG : K.lookup fG = some ⟨ocG, odG, .func (PySem.W.fnOf "_law_longer" "_law_longer" (defArgs sLonger) (defBody sLonger) (defScope sLonger) .none kVG dcG pmG anG cdG ctG), slG⟩) (cG : PySem.W.codeIn K cdG "_law_longer" = true) (kG : PySem.W.keepIn K (.ref fG) = true)
    (aA : PySem.W.nsIn K mainGlobals "_law_all_leaned_on" = some (some (.ref fA))) (lA : K.lookup fA = some ⟨ocA, odA, .func (PySem.W.fnOf "_law_all_leaned_on" "_law_all_leaned_on" (defArgs sAll) (defBody sAll) (defScope sAll) .none kVA dcA pmA anA cdA ctA), slA⟩) (cA : PySem.W.codeIn K cdA "_law_all_leaned_on" = true) (kA : PySem.W.keepIn K (.ref fA) = true)
    (a0 : PySem.W.nsIn K mainGlobals "law" = some (some (.ref f0))) (l0 : K.lookup f0 = some ⟨oc0, od0, .func (PySem.W.fnOf "law" "law" (defArgs sLaw) (defBody sLaw) (defScope sLaw) .none kV0 dc0 pm0 an0 cd0 ct0), sl0⟩) (c0 : PySem.W.codeIn K cd0 "law" = true) (k0 : PySem.W.keepIn K (.ref f0) = true)
    (z_isinstance : PySem.W.nsIn K mainGlobals "isinstance" = some none)
    (z_int : PySem.W.nsIn K mainGlobals "int" = some none)
    (z_bool : PySem.W.nsIn K mainGlobals "bool" = some none)
    (z_tuple : PySem.W.nsIn K mainGlobals "tuple" = some none)
    (z_len : PySem.W.nsIn K mainGlobals "len" = some none)
    (z_all : PySem.W.nsIn K mainGlobals "all" = some none)
    (z_range : PySem.W.nsIn K mainGlobals "range" = some none)
    (z_reversed : PySem.W.nsIn K mainGlobals "reversed" = some none)
    (z_list : PySem.W.nsIn K mainGlobals "list" = some none)
    (z_min : PySem.W.nsIn K mainGlobals "min" = some none)
    (z_max : PySem.W.nsIn K mainGlobals "max" = some none)
    (z_set : PySem.W.nsIn K mainGlobals "set" = some none)
    (n12 : PySem.W.nsIn K mainGlobals "MOST_GIVENS" = some (some (.int 12 tG))) (n132 : PySem.W.nsIn K mainGlobals "MOST_JOINS" = some (some (.int 132 tJ))) (n24 : PySem.W.nsIn K mainGlobals "MOST_OUTS" = some (some (.int 24 tO)))
    : ∃ fd : FuncData, (∀ (s : Shared) (v : Value), BindsTo s fd ⟨[v], []⟩ [("_law_script", v)]) ∧ ∀ base : Heap, K.In base → base.Ns mainGlobals mg → FnOk l.prog w K mg base CX0 4 fa fd ["_law_script"] (spLaw K) := by
  have e := hfa.symm.trans (PySem.W.mg_of X G a0)
  cases e
  have FN := fun_mk (st := sNum) lN cN kN
  have FJ := fun_mk (st := sJoin) lJ cJ kJ
  have FO := fun_mk (st := sOuts) lO cO kO
  have FI := fun_mk (st := sNet) lI cI kI
  have FR := fun_mk (st := sRows) lR cR kR
  have FM := fun_mk (st := sMade) lM cM kM
  have FC := fun_mk (st := sClean) lC cC kC
  have FF := fun_mk (st := sFirst) lF cF kF
  have FL := fun_mk (st := sLean) lL cL kL
  have FB := fun_mk (st := sNumb) lB cB kB
  have FT := fun_mk (st := sTidy) lT cT kT
  have FP := fun_mk (st := sTape) lP cP kP
  have FD := fun_mk (st := sDraw) lD cD kD
  have FE := fun_mk (st := sLNet) lE cE kE
  have FS := fun_mk (st := sLRows) lS cS kS
  have FG := fun_mk (st := sLonger) lG cG kG
  have FA := fun_mk (st := sAll) lA cA kA
  have F0 := fun_mk (st := sLaw) l0 c0 k0
  have bN := FN.binds (ps := ["thing", "least", "beyond"]) fun _ _ _ _ _ _ us hl => match us, hl with | [_, _, _], _ => rfl
  have bJ := FJ.binds (ps := ["thing", "ahead"]) fun _ _ _ _ _ _ us hl => match us, hl with | [_, _], _ => rfl
  have bO := FO.binds (ps := ["thing", "many"]) fun _ _ _ _ _ _ us hl => match us, hl with | [_, _], _ => rfl
  have bI := FI.binds (ps := ["thing"]) fun _ _ _ _ _ _ us hl => match us, hl with | [_], _ => rfl
  have bR := FR.binds (ps := ["net"]) fun _ _ _ _ _ _ us hl => match us, hl with | [_], _ => rfl
  have bM := FM.binds (ps := ["net"]) fun _ _ _ _ _ _ us hl => match us, hl with | [_], _ => rfl
  have bC := FC.binds (ps := ["net"]) fun _ _ _ _ _ _ us hl => match us, hl with | [_], _ => rfl
  have bF := FF.binds (ps := ["rows"]) fun _ _ _ _ _ _ us hl => match us, hl with | [_], _ => rfl
  have bL := FL.binds (ps := ["many", "joins", "outs"]) fun _ _ _ _ _ _ us hl => match us, hl with | [_, _, _], _ => rfl
  have bB := FB.binds (ps := ["many", "joins", "outs", "kept"]) fun _ _ _ _ _ _ us hl => match us, hl with | [_, _, _, _], _ => rfl
  have bT := FT.binds (ps := ["net"]) fun _ _ _ _ _ _ us hl => match us, hl with | [_], _ => rfl
  have bP := FP.binds (ps := ["_law_script"]) fun _ _ _ _ _ _ us hl => match us, hl with | [_], _ => rfl
  have bD := FD.binds (ps := ["_law_tape_here", "_law_many"]) fun _ _ _ _ _ _ us hl => match us, hl with | [_, _], _ => rfl
  have bE := FE.binds (ps := ["_law_tape_here", "_law_most", "_law_joins_most"]) fun _ _ _ _ _ _ us hl => match us, hl with | [_, _, _], _ => rfl
  have bS := FS.binds (ps := ["_law_net_here"]) fun _ _ _ _ _ _ us hl => match us, hl with | [_], _ => rfl
  have bG := FG.binds (ps := ["_law_tape_here", "_law_net_here"]) fun _ _ _ _ _ _ us hl => match us, hl with | [_, _], _ => rfl
  have bA := FA.binds (ps := ["_law_net_here"]) fun _ _ _ _ _ _ us hl => match us, hl with | [_], _ => rfl
  have m_isinstance := PySem.W.mg_none_of X G z_isinstance
  have m_int := PySem.W.mg_none_of X G z_int
  have m_bool := PySem.W.mg_none_of X G z_bool
  have m_tuple := PySem.W.mg_none_of X G z_tuple
  have m_len := PySem.W.mg_none_of X G z_len
  have m_all := PySem.W.mg_none_of X G z_all
  have m_range := PySem.W.mg_none_of X G z_range
  have m_reversed := PySem.W.mg_none_of X G z_reversed
  have m_list := PySem.W.mg_none_of X G z_list
  have m_min := PySem.W.mg_none_of X G z_min
  have m_max := PySem.W.mg_none_of X G z_max
  have m_set := PySem.W.mg_none_of X G z_set
  have TN : TxN mg := ⟨m_isinstance, m_int, m_bool, m_tuple, m_len, m_all, m_range, ⟨_, PySem.W.mg_of X G n12⟩, ⟨_, PySem.W.mg_of X G n132⟩, ⟨_, PySem.W.mg_of X G n24⟩⟩
  exact ⟨PySem.W.fnOf "law" "law" (defArgs sLaw) (defBody sLaw) (defScope sLaw) .none kV0 dc0 pm0 an0 cd0 ct0, fun s v => .of_eq rfl, fun base _ _ => ok_law F0 FN bN (PySem.W.mg_of X G aN) FJ bJ (PySem.W.mg_of X G aJ) FO bO (PySem.W.mg_of X G aO) FI bI (PySem.W.mg_of X G aI) FR bR (PySem.W.mg_of X G aR) FM bM (PySem.W.mg_of X G aM) FC bC (PySem.W.mg_of X G aC) FF bF (PySem.W.mg_of X G aF) FL bL (PySem.W.mg_of X G aL) FB bB (PySem.W.mg_of X G aB) FT bT (PySem.W.mg_of X G aT) FP bP (PySem.W.mg_of X G aP) FD bD (PySem.W.mg_of X G aD) FE bE (PySem.W.mg_of X G aE) FS bS (PySem.W.mg_of X G aS) FG bG (PySem.W.mg_of X G aG) FA bA (PySem.W.mg_of X G aA) TN m_reversed m_list m_min m_max m_set⟩
end K16
open PySem PySem.W PyProof.Rows
set_option maxRecDepth 100000 in
set_option maxHeartbeats 0 in
theorem PySem.Challenge.cw_fewjoins_k16_whole_tidied_makes_the_same_holds : PySem.Challenge.rw_fewjoins_k16_whole_tidied_makes_the_same.Holds := by
  w_on; o_law; k_head; (case hw => w_witness2)
  k_fill
  refine L2.walk_of (l := PySem.Challenge.rw_fewjoins_k16_whole_tidied_makes_the_same) (n := 63) (k := 4) (x := "_law_script") (CX := fun _ => L2.CX0) (sp := fun w => K16.spLaw _) rfl (by decide) rfl ⟨rfl, by decide, by decide⟩ (fun w h Y => PySem.W.kIn_of Y) ?F (fun _ _ a ns hl _ hS => ⟨a, ns, rfl, hS, hl, fun _ => rfl⟩) (fun _ _ _ _ _ h => h)
  case F =>
    intro w mg fa h KX G hmg
    refine' K16.all_mk KX G hmg ?aN ?lN ?cN ?kN ?aJ ?lJ ?cJ ?kJ ?aO ?lO ?cO ?kO ?aI ?lI ?cI ?kI ?aR ?lR ?cR ?kR ?aM ?lM ?cM ?kM ?aC ?lC ?cC ?kC ?aF ?lF ?cF ?kF ?aL ?lL ?cL ?kL ?aB ?lB ?cB ?kB ?aT ?lT ?cT ?kT ?aP ?lP ?cP ?kP ?aD ?lD ?cD ?kD ?aE ?lE ?cE ?kE ?aS ?lS ?cS ?kS ?aG ?lG ?cG ?kG ?aA ?lA ?cA ?kA ?a0 ?l0 ?c0 ?k0 ?z_isinstance ?z_int ?z_bool ?z_tuple ?z_len ?z_all ?z_range ?z_reversed ?z_list ?z_min ?z_max ?z_set ?n12 ?n132 ?n24
    (case aN => k_is); (case lN => k_is); (case cN => k_is); (case kN => k_is)
    (case aJ => k_is); (case lJ => k_is); (case cJ => k_is); (case kJ => k_is)
    (case aO => k_is); (case lO => k_is); (case cO => k_is); (case kO => k_is)
    (case aI => k_is); (case lI => k_is); (case cI => k_is); (case kI => k_is)
    (case aR => k_is); (case lR => k_is); (case cR => k_is); (case kR => k_is)
    (case aM => k_is); (case lM => k_is); (case cM => k_is); (case kM => k_is)
    (case aC => k_is); (case lC => k_is); (case cC => k_is); (case kC => k_is)
    (case aF => k_is); (case lF => k_is); (case cF => k_is); (case kF => k_is)
    (case aL => k_is); (case lL => k_is); (case cL => k_is); (case kL => k_is)
    (case aB => k_is); (case lB => k_is); (case cB => k_is); (case kB => k_is)
    (case aT => k_is); (case lT => k_is); (case cT => k_is); (case kT => k_is)
    (case aP => k_is); (case lP => k_is); (case cP => k_is); (case kP => k_is)
    (case aD => k_is); (case lD => k_is); (case cD => k_is); (case kD => k_is)
    (case aE => k_is); (case lE => k_is); (case cE => k_is); (case kE => k_is)
    (case aS => k_is); (case lS => k_is); (case cS => k_is); (case kS => k_is)
    (case aG => k_is); (case lG => k_is); (case cG => k_is); (case kG => k_is)
    (case aA => k_is); (case lA => k_is); (case cA => k_is); (case kA => k_is)
    (case a0 => k_is); (case l0 => k_is); (case c0 => k_is); (case k0 => k_is)
    (case z_isinstance => k_is)
    (case z_int => k_is)
    (case z_bool => k_is)
    (case z_tuple => k_is)
    (case z_len => k_is)
    (case z_all => k_is)
    (case z_range => k_is)
    (case z_reversed => k_is)
    (case z_list => k_is)
    (case z_min => k_is)
    (case z_max => k_is)
    (case z_set => k_is)
    (case n12 => k_is); (case n132 => k_is); (case n24 => k_is)
